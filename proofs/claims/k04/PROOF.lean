import PyProof.Rows.All
import Wide.All
import OpenK.AllK
import Wide.FinOn
import KE.GoesZip
import KE.GoesEnum
import KE.GoesMore
import KE.KDictZip
import HandS.ForMost
import HandS.Zip
import PyProof.Rows.StrPadFill
import HandS.Style
import HandS.StrMore
import PyProof.StrBlock
import HandS.Rev
import HandS.IntHex
import KE.KxField
import HandS.FStr
import HandS.IsInst
import HandS.Defaults
import HandS.Flow
import HandS.ForExc
import PyProof.ReprRoads
import HandS.WideBits
import HandS.Wide
import HandS.TupAny
import HandS.SortInts
import PyProof.ListStr
import PyProof.Rows.BitMore
import KE.BitLaws
import PyProof.StrLawsRepr
import HandS.Text
import Wide.Txt
import PyProof.LongRange
import HandS.ExcInit
import KE.KSuper
import KE.KExcSuper
import HandS.ExcIs
import HandS.ExcField
import HandS.ExcValue
import KE.KExcIs
import HandS.Dict
import HandS.Deep
import KE.KxText
import PyProof.Rows.StrCountLaw
import PySem.Challenge.RW_inksays_k04_whole_pictures_told_apart
import KE.RegKSuper
import KE.RegKIsAll
set_option Elab.async false
set_option linter.all false
set_option maxRecDepth 100000
set_option maxHeartbeats 4000000
/-! Zx1: next of a zip over two iterators of any kind, wherever the tuple stands that it gave last. -/
namespace Zx
open PySem
/-- a zip's own fields -/
abbrev ZF (h : Heap) (z TI TO : Addr) (x : Value) (f : Bool) : Prop := h.get? z = some { cls := .type "zip", dict := none, data := .fields #[x, .bool f, .bool false, .ref TI, .ref TO], slots := #[] }
/-- what the first field may be -/
def Kept (x : Value) : Prop := x = .none ∨ ∃ T : Addr, x = rawInt T
section
variable {prog : Program} {w : World} {A : Around} {E : Value → Shared → Prop} {s : Shared} {z TI TO i1 i2 : Addr} {fp1 fp2 : List Addr} {n1 n2 i : Nat} {P1 P2 : Nat → Value → Prop} {St1 St2 : Nat → Heap → Prop} {a1 a2 : Value}
theorem alive_any {a : Addr} {Q : Option Obj → Shared → Prop} (h : Q (s.heap.get? a) s) : wpAny (model prog w) A (loadIfAlive a) Q E s := fun _ _ _ => h
theorem free_any {x : Value} {f : Bool} {Q : Bool → Shared → Prop} (hz : ZF s.heap z TI TO x f) (hx : Kept x) (ht : Q true s) (hf : ∀ h' (T : Addr), ZF h' z TI TO (rawInt T) true → Heap.SameBut z s.heap h' → Q false { s with heap := h' }) :
    wpAny (model prog w) A (Builtin.SmallTypes.ownedTupleIsFree (.ref z)) Q E s := by
  unfold Builtin.SmallTypes.ownedTupleIsFree
  rcases hx with rfl | ⟨T, rfl⟩
  · exact wpAny_bind (wpAny_field hz rfl (x := .none) rfl (wpAny_pure ht))
  · refine wpAny_bind (wpAny_field hz rfl (x := rawInt T) rfl ?_)
    show wpAny _ _ (loadIfAlive ((T : Int).toNat) >>= _) _ _ _
    rw [Int.toNat_natCast]
    refine wpAny_bind (alive_any ?_)
    cases hT : s.heap.get? T with
    | none =>
      simp only [Option.isNone_none, if_true]
      exact wpAny_pure ht
    | some oT =>
      simp only [Option.isNone_some, Bool.false_eq_true, if_false]
      refine wpAny_bind (wpAny_field hz rfl (x := .bool f) rfl ?_)
      cases f with
      | true =>
        rw [if_neg (show ¬ ((Value.bool true != Value.bool true) = true) from Bool.false_ne_true)]
        exact wpAny_pure (hf s.heap T hz (Heap.SameBut.refl _ _))
      | false =>
        rw [if_pos (show (Value.bool false != Value.bool true) = true from rfl)]
        exact wpAny_bind (wpAny_setField_rec hz (by simp) fun h₁ hz₁ hs₁ => wpAny_pure (hf h₁ T hz₁ hs₁))
/-- the state of a zip at its i-th turn -/
def ZSt (z TI TO i1 i2 : Addr) (St1 St2 : Nat → Heap → Prop) (i : Nat) (h : Heap) : Prop :=
  (∃ x f, ZF h z TI TO x f ∧ Kept x) ∧ IsTupOf2 h TI (.ref i1) (.ref i2) ∧ (∃ a1 a2, IsTupOf2 h TO a1 a2) ∧ St1 i h ∧ St2 i h
theorem zip_item {Q : Value → Shared → Prop} (S : ZipSep2 z TI TO i1 i2 fp1 fp2) (D1 : Draws prog w A i1 fp1 n1 P1 St1) (D2 : Draws prog w A i2 fp2 n2 P2 St2) (st : ZSt z TI TO i1 i2 St1 St2 i s.heap) (hTf1 : TI ∉ fp1) (hTf2 : TI ∉ fp2) (hlt1 : i < n1) (hlt2 : i < n2)
    (hQ : ∀ x1 x2 h' tk, P1 i x1 → P2 i x2 → ZSt z TI TO i1 i2 St1 St2 (i + 1) h' → IsTupOf2 h' s.heap.objs.size x1 x2 → h'.objs.size = s.heap.objs.size + 1 →
      (∀ c o, c ≠ z → c ≠ TO → c ≠ i1 → c ≠ i2 → s.heap.get? c = some o → h'.get? c = some o) → Q (.ref s.heap.objs.size) { s with heap := h', toks := tk }) :
    wpAny (model prog w) A (Builtin.«zip.__next__» ⟨[.ref z], []⟩) (fun fin s' => ∃ v, fin = .done (.ret v) ∧ Q v s') E s := by
  obtain ⟨hp, g, d, tk0, os⟩ := s
  obtain ⟨⟨x, f, hz, hx⟩, hTI, ⟨a1, a2, hTO⟩, st1, st2⟩ := st
  show wpAny _ _ (field (.ref z) 2 >>= _) _ _ _
  refine wpAny_bind (wpAny_field hz rfl (x := .bool false) rfl ?_)
  show wpAny _ _ (field (.ref z) 3 >>= _) _ _ _
  refine wpAny_bind (wpAny_field hz rfl (x := .ref TI) rfl ?_)
  refine wpAny_bind (wpAny_seqItems hTI rfl ?_)
  show wpAny _ _ (Builtin.SmallTypes.ownedTupleIsFree (.ref z) >>= _) _ _ _
  refine wpAny_bind (free_any hz hx ?_ fun h₀ T hz₀ hs₀ => ?_)
  · simp only [if_true]
    refine wpAny_bind (wpAny_rule ?_)
    refine wpAny_bind (wpAny_field hz rfl (x := .ref TO) rfl ?_)
    refine wpAny_bind (wpAny_setField_rec hz (by simp) fun g0 hz0 hs0 => ?_)
    replace hz0 : ZF g0 z TI TO .ellipsis f := hz0
    replace hs0 : Heap.SameBut z hp g0 := hs0
    refine wpAny_bind ?_
    simp only [List.zipIdx_cons, List.zipIdx_nil, List.forIn_cons, List.forIn_nil]
    refine wpAny_bind (wpAny_bind (wpAny_onRaise ?_))
    show wpAny _ _ (Builtin.SmallTypes.nextOf (.ref i1) >>= _) _ _ ⟨g0, g, d, tk0, os⟩
    refine wpAny_bind (D1.item i _ _ _ hlt1 (D1.over st1 hs0 S.zf1) fun x1 p1 tk1 hx1 sn1 hp1 => wpAny_pure ?_)
    replace hp1 : Heap.SameBut i1 g0 p1 := hp1
    have hU1 : IsTupOf2 p1 TO a1 a2 := hp1.extBut _ _ S.Ti1 (hs0.extBut _ _ S.TOz hTO)
    refine wpAny_bind (wpAny_seqItems (s := ⟨p1, g, d, tk1, os⟩) hU1 rfl ?_)
    refine wpAny_bind (updateSeq_IsTupOf2 (s := ⟨p1, g, d, tk1, os⟩) hU1 fun g1 hT1 hs1 => ?_)
    replace hT1 : IsTupOf2 g1 TO x1 a2 := hT1
    replace hs1 : Heap.SameBut TO p1 g1 := hs1
    refine wpAny_bind (wpAny_letGo (wpAny_pure ?_))
    refine wpAny_bind (wpAny_bind (wpAny_onRaise ?_))
    show wpAny _ _ (Builtin.SmallTypes.nextOf (.ref i2) >>= _) _ _ ⟨g1, g, d, tk1, os⟩
    refine wpAny_bind (D2.item i _ _ _ hlt2 (D2.over (D2.over (D2.over st2 hs0 S.zf2) hp1 S.sep1_2) hs1 S.Tf2) fun x2 p2 tk2 hx2 sn2 hp2 => wpAny_pure ?_)
    replace hp2 : Heap.SameBut i2 g1 p2 := hp2
    have hU2 : IsTupOf2 p2 TO x1 a2 := hp2.extBut _ _ S.Ti2 hT1
    refine wpAny_bind (wpAny_seqItems (s := ⟨p2, g, d, tk2, os⟩) hU2 rfl ?_)
    refine wpAny_bind (updateSeq_IsTupOf2 (s := ⟨p2, g, d, tk2, os⟩) hU2 fun g2 hT2 hs2 => ?_)
    replace hT2 : IsTupOf2 g2 TO x1 x2 := hT2
    replace hs2 : Heap.SameBut TO p2 g2 := hs2
    refine wpAny_bind (wpAny_letGo (wpAny_pure (wpAny_pure ?_)))
    refine wpAny_bind (wpAny_seqItems (s := ⟨g2, g, d, tk2, os⟩) hT2 rfl ?_)
    refine wpAny_bind (wpAny_newTuple ?_)
    have hsz : g2.objs.size = hp.objs.size := by rw [hs2.1, hp2.1, hs1.1, hp1.1, hs0.1]
    have hzz : ZF g2 z TI TO .ellipsis f := (hs2.extBut _ _ S.TOz.symm (hp2.extBut _ _ S.zi2 (hs1.extBut _ _ S.TOz.symm (hp1.extBut _ _ S.zi1 hz0))))
    have hkk : ∀ c o, c ≠ z → c ≠ TO → c ≠ i1 → c ≠ i2 → hp.get? c = some o → g2.get? c = some o := fun c o cz cT c1 c2 e =>
      (hs2.extBut _ _ cT (hp2.extBut _ _ c2 (hs1.extBut _ _ cT (hp1.extBut _ _ c1 (hs0.extBut _ _ cz e)))))
    have hj1 : St1 (i + 1) g2 := (D1.over (D1.over (D1.over sn1 hs1 S.Tf1) hp2 S.sep2_1) hs2 S.Tf1)
    have hj2 : St2 (i + 1) g2 := (D2.over sn2 hs2 S.Tf2)
    have hzlt : z < g2.objs.size := Heap.lt_size hzz
    show wpAny _ _ (Builtin.SmallTypes.ownedTupleHandOut (.ref z) (.ref g2.objs.size) >>= _) _ _ ⟨g2.push { cls := .type "tuple", data := .seq #[x1, x2] }, g, d, tk2, os⟩
    refine wpAny_bind ?_
    unfold Builtin.SmallTypes.ownedTupleHandOut
    have hz₆ : ZF (g2.push { cls := .type "tuple", data := .seq #[x1, x2] }) z TI TO .ellipsis f := Heap.get?_push_of_some _ hzz
    refine wpAny_bind (wpAny_setField_rec hz₆ (by simp) fun h₇ hz₇ hs₇ => ?_)
    replace hz₇ : ZF h₇ z TI TO (rawInt g2.objs.size) f := hz₇
    refine wpAny_setField_rec hz₇ (by simp) fun h₈ hz₈ hs₈ => ?_
    replace hz₈ : ZF h₈ z TI TO (rawInt g2.objs.size) false := hz₈
    replace hs₇ : Heap.SameBut z (g2.push { cls := .type "tuple", data := .seq #[x1, x2] }) h₇ := hs₇
    replace hs₈ : Heap.SameBut z h₇ h₈ := hs₈
    have up : ∀ c o, c ≠ z → g2.get? c = some o → h₈.get? c = some o := fun c o c1 e => hs₈.extBut _ _ c1 (hs₇.extBut _ _ c1 (Heap.get?_push_of_some _ e))
    have hT₈ : IsTupOf2 h₈ g2.objs.size x1 x2 := hs₈.extBut _ _ (Nat.ne_of_gt hzlt) (hs₇.extBut _ _ (Nat.ne_of_gt hzlt) (Heap.get?_push_size _ rfl))
    have hz8 : h₈.objs.size = g2.objs.size + 1 := by rw [hs₈.1, hs₇.1, Heap.size_push]
    rw [hsz] at hz₈ hT₈ hz8
    refine wpAny_pure ⟨_, rfl, ?_⟩
    show Q (.ref g2.objs.size) ⟨h₈, g, d, tk2, os⟩
    rw [hsz]
    exact hQ x1 x2 h₈ tk2 hx1 hx2 ⟨⟨_, _, hz₈, .inr ⟨_, rfl⟩⟩, up _ _ S.TIz (hkk _ _ S.TIz S.TITO S.TIi1 S.TIi2 hTI), ⟨_, _, up _ _ S.TOz hT2⟩, D1.frame _ _ _ hj1 fun b hb o e => up b o (fun q => S.zf1 (q ▸ hb)) e, D2.frame _ _ _ hj2 fun b hb o e => up b o (fun q => S.zf2 (q ▸ hb)) e⟩ hT₈ hz8
      fun c o cz cT c1 c2 e => up c o cz (hkk c o cz cT c1 c2 e)
  · replace hs₀ : Heap.SameBut z hp h₀ := hs₀
    simp only [Bool.false_eq_true, if_false]
    refine wpAny_bind ?_
    rw [← Array.forIn_toList]
    simp only [List.forIn_cons, List.forIn_nil]
    refine wpAny_bind (wpAny_bind (wpAny_holding ?_))
    show wpAny _ _ (Builtin.SmallTypes.nextOf (.ref i1) >>= _) _ _ ⟨h₀, g, d, tk0, os⟩
    refine wpAny_bind (D1.item i _ _ _ hlt1 (D1.over st1 hs₀ S.zf1) fun x1 p1 tk1 hx1 sn1 hp1 => wpAny_pure ?_)
    replace hp1 : Heap.SameBut i1 h₀ p1 := hp1
    refine wpAny_pure ?_
    refine wpAny_bind (wpAny_bind (wpAny_holding ?_))
    show wpAny _ _ (Builtin.SmallTypes.nextOf (.ref i2) >>= _) _ _ ⟨p1, g, d, tk1, os⟩
    refine wpAny_bind (D2.item i _ _ _ hlt2 (D2.over (D2.over st2 hs₀ S.zf2) hp1 S.sep1_2) fun x2 p2 tk2 hx2 sn2 hp2 => wpAny_pure ?_)
    replace hp2 : Heap.SameBut i2 p1 p2 := hp2
    refine wpAny_pure (wpAny_pure ?_)
    show wpAny _ _ (newTuple [x1, x2] >>= _) _ _ ⟨p2, g, d, tk2, os⟩
    refine wpAny_bind (wpAny_newTuple ?_)
    have hsz : p2.objs.size = hp.objs.size := by rw [hp2.1, hp1.1, hs₀.1]
    have hzz : ZF p2 z TI TO (rawInt T) true := hp2.extBut _ _ S.zi2 (hp1.extBut _ _ S.zi1 hz₀)
    have hkk : ∀ c o, c ≠ z → c ≠ i1 → c ≠ i2 → hp.get? c = some o → p2.get? c = some o := fun c o cz c1 c2 e => hp2.extBut _ _ c2 (hp1.extBut _ _ c1 (hs₀.extBut _ _ cz e))
    have hj1 : St1 (i + 1) p2 := D1.over sn1 hp2 S.sep2_1
    have up : ∀ c o, p2.get? c = some o → (p2.push { cls := .type "tuple", data := .seq #[x1, x2] }).get? c = some o := fun c o e => Heap.get?_push_of_some _ e
    have hT₈ : IsTupOf2 (p2.push { cls := .type "tuple", data := .seq #[x1, x2] }) p2.objs.size x1 x2 := Heap.get?_push_size _ rfl
    have hz8 : (p2.push { cls := .type "tuple", data := .seq #[x1, x2] }).objs.size = p2.objs.size + 1 := Heap.size_push ..
    refine wpAny_pure ⟨_, rfl, ?_⟩
    show Q (.ref p2.objs.size) _
    rw [hsz] at hT₈ hz8 ⊢
    exact hQ x1 x2 _ tk2 hx1 hx2 ⟨⟨_, _, up _ _ hzz, .inr ⟨_, rfl⟩⟩, up _ _ (hkk _ _ S.TIz S.TIi1 S.TIi2 hTI), ⟨_, _, up _ _ (hkk _ _ S.TOz S.Ti1 S.Ti2 hTO)⟩, D1.frame _ _ _ hj1 fun b hb o e => up b o e, D2.frame _ _ _ sn2 fun b hb o e => up b o e⟩ hT₈ hz8
      fun c o cz cT c1 c2 e => up c o (hkk c o cz c1 c2 e)
theorem zip_end {Q : Fin → Shared → Prop} (S : ZipSep2 z TI TO i1 i2 fp1 fp2) (D1 : Draws prog w A i1 fp1 n1 P1 St1) (D2 : Draws prog w A i2 fp2 n2 P2 St2) (st : ZSt z TI TO i1 i2 St1 St2 i s.heap) (hle1 : i ≤ n1) (hle2 : i ≤ n2) (hend : i = n1 ∨ i = n2)
    (hE : ∀ h' tk e, (∀ c o, c ≠ z → c ≠ TO → c ≠ i1 → c ≠ i2 → s.heap.get? c = some o → h'.get? c = some o) → (∃ o, h'.get? e = some o ∧ o.cls = .type "StopIteration") → E (.ref e) { s with heap := h', toks := tk }) :
    wpAny (model prog w) A (Builtin.«zip.__next__» ⟨[.ref z], []⟩) Q E s := by
  obtain ⟨hp, g, d, tk0, os⟩ := s
  obtain ⟨⟨x, f, hz, hx⟩, hTI, ⟨a1, a2, hTO⟩, st1, st2⟩ := st
  show wpAny _ _ (field (.ref z) 2 >>= _) _ _ _
  refine wpAny_bind (wpAny_field hz rfl (x := .bool false) rfl ?_)
  show wpAny _ _ (field (.ref z) 3 >>= _) _ _ _
  refine wpAny_bind (wpAny_field hz rfl (x := .ref TI) rfl ?_)
  refine wpAny_bind (wpAny_seqItems hTI rfl ?_)
  show wpAny _ _ (Builtin.SmallTypes.ownedTupleIsFree (.ref z) >>= _) _ _ _
  refine wpAny_bind (free_any hz hx ?_ fun h₀ T hz₀ hs₀ => ?_)
  · simp only [if_true]
    refine wpAny_bind (wpAny_rule ?_)
    refine wpAny_bind (wpAny_field hz rfl (x := .ref TO) rfl ?_)
    refine wpAny_bind (wpAny_setField_rec hz (by simp) fun g0 hz0 hs0 => ?_)
    replace hz0 : ZF g0 z TI TO .ellipsis f := hz0
    replace hs0 : Heap.SameBut z hp g0 := hs0
    refine wpAny_bind ?_
    simp only [List.zipIdx_cons, List.zipIdx_nil, List.forIn_cons, List.forIn_nil]
    refine wpAny_bind (wpAny_bind (wpAny_onRaise ?_))
    show wpAny _ _ (Builtin.SmallTypes.nextOf (.ref i1) >>= _) _ _ ⟨g0, g, d, tk0, os⟩
    by_cases hlt1 : i < n1
    · refine wpAny_bind (D1.item i _ _ _ hlt1 (D1.over st1 hs0 S.zf1) fun x1 p1 tk1 hx1 sn1 hp1 => wpAny_pure ?_)
      replace hp1 : Heap.SameBut i1 g0 p1 := hp1
      have hU1 : IsTupOf2 p1 TO a1 a2 := hp1.extBut _ _ S.Ti1 (hs0.extBut _ _ S.TOz hTO)
      refine wpAny_bind (wpAny_seqItems (s := ⟨p1, g, d, tk1, os⟩) hU1 rfl ?_)
      refine wpAny_bind (updateSeq_IsTupOf2 (s := ⟨p1, g, d, tk1, os⟩) hU1 fun g1 hT1 hs1 => ?_)
      replace hT1 : IsTupOf2 g1 TO x1 a2 := hT1
      replace hs1 : Heap.SameBut TO p1 g1 := hs1
      refine wpAny_bind (wpAny_letGo (wpAny_pure ?_))
      have hi2 : i = n2 := by omega
      refine wpAny_bind (wpAny_bind (wpAny_onRaise ?_))
      show wpAny _ _ (Builtin.SmallTypes.nextOf (.ref i2) >>= _) _ _ ⟨g1, g, d, tk1, os⟩
      refine wpAny_bind (D2.done ⟨g1, g, d, tk1, os⟩ _ _ (by rw [← hi2]; exact (D2.over (D2.over (D2.over st2 hs0 S.zf2) hp1 S.sep1_2) hs1 S.Tf2)) fun q e hq he => ?_)
      replace hq : Heap.ExtBut i2 g1 q := hq
      obtain ⟨oe, hoe, hce⟩ := he
      replace hoe : q.get? e = some oe := hoe
      have hzq : ZF q z TI TO .ellipsis f := hq _ _ S.zi2 (hs1.extBut _ _ S.TOz.symm (hp1.extBut _ _ S.zi1 hz0))
      have hez : e ≠ z := fun x => by subst x; rw [hzq] at hoe; cases hoe; simp at hce
      refine wpAny_setField_rec (s := ⟨q, g, d, tk1, os⟩) hzq (by simp) fun q' _ hq' => ?_
      replace hq' : Heap.SameBut z q q' := hq'
      exact hE q' tk1 e (fun c o cz cT c1 c2 x => hq'.extBut _ _ cz (hq _ _ c2 (hs1.extBut _ _ cT (hp1.extBut _ _ c1 (hs0.extBut _ _ cz x))))) ⟨oe, hq'.extBut _ _ hez hoe, hce⟩
    · have hi1 : i = n1 := by omega
      refine wpAny_bind (D1.done ⟨g0, g, d, tk0, os⟩ _ _ (by rw [← hi1]; exact (D1.over st1 hs0 S.zf1)) fun q e hq he => ?_)
      replace hq : Heap.ExtBut i1 g0 q := hq
      obtain ⟨oe, hoe, hce⟩ := he
      replace hoe : q.get? e = some oe := hoe
      have hzq : ZF q z TI TO .ellipsis f := hq _ _ S.zi1 hz0
      have hez : e ≠ z := fun x => by subst x; rw [hzq] at hoe; cases hoe; simp at hce
      refine wpAny_setField_rec (s := ⟨q, g, d, tk0, os⟩) hzq (by simp) fun q' _ hq' => ?_
      replace hq' : Heap.SameBut z q q' := hq'
      exact hE q' tk0 e (fun c o cz cT c1 c2 x => hq'.extBut _ _ cz (hq _ _ c1 (hs0.extBut _ _ cz x))) ⟨oe, hq'.extBut _ _ hez hoe, hce⟩
  · replace hs₀ : Heap.SameBut z hp h₀ := hs₀
    simp only [Bool.false_eq_true, if_false]
    refine wpAny_bind ?_
    rw [← Array.forIn_toList]
    simp only [List.forIn_cons, List.forIn_nil]
    refine wpAny_bind (wpAny_bind (wpAny_holding ?_))
    show wpAny _ _ (Builtin.SmallTypes.nextOf (.ref i1) >>= _) _ _ ⟨h₀, g, d, tk0, os⟩
    by_cases hlt1 : i < n1
    · refine wpAny_bind (D1.item i _ _ _ hlt1 (D1.over st1 hs₀ S.zf1) fun x1 p1 tk1 hx1 sn1 hp1 => wpAny_pure ?_)
      replace hp1 : Heap.SameBut i1 h₀ p1 := hp1
      refine wpAny_pure ?_
      have hi2 : i = n2 := by omega
      refine wpAny_bind (wpAny_bind (wpAny_holding ?_))
      show wpAny _ _ (Builtin.SmallTypes.nextOf (.ref i2) >>= _) _ _ ⟨p1, g, d, tk1, os⟩
      refine wpAny_bind (D2.done ⟨p1, g, d, tk1, os⟩ _ _ (by rw [← hi2]; exact (D2.over (D2.over st2 hs₀ S.zf2) hp1 S.sep1_2)) fun q e hq he => ?_)
      replace hq : Heap.ExtBut i2 p1 q := hq
      exact hE q tk1 e (fun c o cz cT c1 c2 x => hq _ _ c2 (hp1.extBut _ _ c1 (hs₀.extBut _ _ cz x))) he
    · have hi1 : i = n1 := by omega
      refine wpAny_bind (D1.done ⟨h₀, g, d, tk0, os⟩ _ _ (by rw [← hi1]; exact (D1.over st1 hs₀ S.zf1)) fun q e hq he => ?_)
      replace hq : Heap.ExtBut i1 h₀ q := hq
      exact hE q tk0 e (fun c o cz cT c1 c2 x => hq _ _ c1 (hs₀.extBut _ _ cz x)) he
theorem next_zip {Q : Option Value → Shared → Prop} (S : ZipSep2 z TI TO i1 i2 fp1 fp2) (D1 : Draws prog w A.in1 i1 fp1 n1 P1 St1) (D2 : Draws prog w A.in1 i2 fp2 n2 P2 St2) (st : ZSt z TI TO i1 i2 St1 St2 i s.heap) (hTf1 : TI ∉ fp1) (hTf2 : TI ∉ fp2) (hlt1 : i < n1) (hlt2 : i < n2)
    (hQ : ∀ x1 x2 h' tk, P1 i x1 → P2 i x2 → ZSt z TI TO i1 i2 St1 St2 (i + 1) h' → IsTupOf2 h' s.heap.objs.size x1 x2 → h'.objs.size = s.heap.objs.size + 1 →
      (∀ c o, c ≠ z → c ≠ TO → c ≠ i1 → c ≠ i2 → s.heap.get? c = some o → h'.get? c = some o) → Q (some (.ref s.heap.objs.size)) { s with heap := h', toks := tk }) :
    wpAny (model prog w) A (pyNext (.ref z)) Q E s := by
  obtain ⟨x, f, hz, _⟩ := st.1
  have hT : s.TypeIs (.ref z) "zip" := ⟨_, hz, rfl⟩
  unfold pyNext
  exact wpAny_bind (wpAny_attempt (wpAny_callSpecial?_slot (name := Str.ofString "__next__") hT F.slot_zip_next
    (wpAny_call_entry F.slot_zip_next hT F.entry_zip_next
      (zip_item S D1 D2 st hTf1 hTf2 hlt1 hlt2 fun x1 x2 h' tk y1 y2 b1 b2 b3 b4 => wpAny_pure (hQ x1 x2 h' tk y1 y2 b1 b2 b3 b4)) (F.args_zip_next_1 _))))
theorem next_zip_end {Q : Option Value → Shared → Prop} (S : ZipSep2 z TI TO i1 i2 fp1 fp2) (D1 : Draws prog w A.in1 i1 fp1 n1 P1 St1) (D2 : Draws prog w A.in1 i2 fp2 n2 P2 St2) (st : ZSt z TI TO i1 i2 St1 St2 i s.heap) (hle1 : i ≤ n1) (hle2 : i ≤ n2) (hend : i = n1 ∨ i = n2)
    (hQ : ∀ h' tk, (∀ c o, c ≠ z → c ≠ TO → c ≠ i1 → c ≠ i2 → s.heap.get? c = some o → h'.get? c = some o) → Q none { s with heap := h', toks := tk }) : wpAny (model prog w) A (pyNext (.ref z)) Q E s := by
  obtain ⟨x, f, hz, _⟩ := st.1
  have hT : s.TypeIs (.ref z) "zip" := ⟨_, hz, rfl⟩
  unfold pyNext
  refine wpAny_bind (wpAny_attempt (wpAny_callSpecial?_slot (name := Str.ofString "__next__") hT F.slot_zip_next
    (wpAny_call_entry F.slot_zip_next hT F.entry_zip_next (zip_end S D1 D2 st hle1 hle2 hend fun h' tk e hk he => ?_) (F.args_zip_next_1 _))))
  obtain ⟨o, ho, hc⟩ := he
  refine wpAny_bind (wpAny_isInstance (T := "StopIteration") (b := true) ⟨o, ho, hc⟩ isSubtype_stop ?_)
  exact wpAny_pure (hQ _ _ hk)
end
end Zx

/-! Zx2: list(zip(a, b)), over lists, tuples and texts. -/
namespace Zx
open PySem L2 PyProof.Rows
theorem zip_no_len : typeLookup (.type "zip") "__len__" = pure none := by rw [typeLookup_type, builtinLookup_eq_fast]; kernel_rfl
theorem zip_no_hint : typeLookup (.type "zip") "__length_hint__" = pure none := by rw [typeLookup_type, builtinLookup_eq_fast]; kernel_rfl
section
variable {prog : Program} {w : World} {A : Around} {z TI TO i1 i2 : Addr} {fp1 fp2 : List Addr} {n1 n2 i : Nat} {P1 P2 : Nat → Value → Prop} {St1 St2 : Nat → Heap → Prop}
theorem ZSt.frame {h h' : Heap} (D1 : Draws prog w A i1 fp1 n1 P1 St1) (D2 : Draws prog w A i2 fp2 n2 P2 St2) (st : ZSt z TI TO i1 i2 St1 St2 i h) (k : ∀ b ∈ z :: TI :: TO :: (fp1 ++ fp2), ∀ o, h.get? b = some o → h'.get? b = some o) : ZSt z TI TO i1 i2 St1 St2 i h' := by
  obtain ⟨⟨x, f, hz, hx⟩, hTI, ⟨a1, a2, hTO⟩, st1, st2⟩ := st
  exact ⟨⟨x, f, k z (by simp) _ hz, hx⟩, k TI (by simp) _ hTI, ⟨a1, a2, k TO (by simp) _ hTO⟩, D1.frame _ _ _ st1 fun b hb o e => k b (by simp [hb]) o e, D2.frame _ _ _ st2 fun b hb o e => k b (by simp [hb]) o e⟩
theorem ZSt.new {h : Heap} (hz : IsZip h z TI TO .none) (hTI : IsTupOf2 h TI (.ref i1) (.ref i2)) (hTO : ∃ a1 a2, IsTupOf2 h TO a1 a2) (st1 : St1 0 h) (st2 : St2 0 h) : ZSt z TI TO i1 i2 St1 St2 0 h :=
  ⟨⟨_, _, hz, .inl rfl⟩, hTI, hTO, st1, st2⟩
end
/-- the pairs of which the list at D tells -/
def Pairs (H : Hp) (D : Addr) (xs ys : List V) (Ts : List Addr) : Prop := ∀ (j : Nat) (T : Addr), Ts[j]? = some T → T ≠ D ∧ ∃ x y, xs[j]? = some x ∧ ys[j]? = some y ∧ H T = some (.tup [x, y])
section
variable {X : Cx} {pins : List (Addr × Obj)} {σ : L2.St} {z TI TO i1 i2 D : Addr} {fp1 fp2 : List Addr} {n1 n2 : Nat} {P1 P2 : Nat → Value → Prop} {St1 St2 : Nat → Heap → Prop} {xs ys : List V}
/-- one turn, as the layer sees it -/
theorem turn_one {A : Around} {i : Nat} {H : Hp} {s : Shared} {E : Value → Shared → Prop} {Q : Option Value → Shared → Prop} (hh : A.handled = none) (S : ZipSep2 z TI TO i1 i2 fp1 fp2) (hT1 : TI ∉ fp1) (hT2 : TI ∉ fp2)
    (D1 : ∀ A, A.handled = none → Draws X.prog X.w A i1 fp1 n1 P1 St1) (D2 : ∀ A, A.handled = none → Draws X.prog X.w A i2 fp2 n2 P2 St2) (hp1 : ∀ i v, P1 i v → ∃ x, xs[i]? = some x ∧ L2.RelV x v) (hp2 : ∀ i v, P2 i v → ∃ x, ys[i]? = some x ∧ L2.RelV x v)
    (I : L2.Inv X pins σ H s) (st : ZSt z TI TO i1 i2 St1 St2 i s.heap) (hf : ∀ b ∈ [z, TI, TO, i1, i2], FpOk X pins H b) (h1 : i < n1) (h2 : i < n2)
    (hQ : ∀ x y h' tk, xs[i]? = some x → ys[i]? = some y → ZSt z TI TO i1 i2 St1 St2 (i + 1) h' → H s.heap.objs.size = none → L2.Inv X pins σ (upd H s.heap.objs.size (.tup [x, y])) { s with heap := h', toks := tk } →
      (∀ c o, c ∉ [z, TI, TO, i1, i2] → s.heap.get? c = some o → h'.get? c = some o) → h'.objs.size = s.heap.objs.size + 1 → Q (some (.ref s.heap.objs.size)) { s with heap := h', toks := tk }) : wpAny (model X.prog X.w) A (pyNext (.ref z)) Q E s := by
  refine next_zip S (D1 _ hh) (D2 _ hh) st hT1 hT2 h1 h2 fun x1 x2 h' tk q1 q2 st' hT hsz hk => ?_
  obtain ⟨x, ex, rx⟩ := hp1 _ _ q1
  obtain ⟨y, ey, ry⟩ := hp2 _ _ q2
  have hk' : ∀ c o, c ∉ [z, TI, TO, i1, i2] → s.heap.get? c = some o → h'.get? c = some o := fun c o hc e => hk c o (fun q => hc (by simp [q])) (fun q => hc (by simp [q])) (fun q => hc (by simp [q])) (fun q => hc (by simp [q])) e
  have new : ObjOk X.prog X.w (upd H s.heap.objs.size (.tup [x, y])) h' s.heap.objs.size (.tup [x, y]) := ⟨by show 2 ≤ sizeLine; decide, [x1, x2], .cons rx (.cons ry .nil), ⟨_, hT, rfl, _, rfl⟩⟩
  exact hQ x y h' tk ex ey st' (I.hok.fresh (Nat.le_refl _)) (I.turnedNew (ch := [z, TI, TO, i1, i2]) hk' hf (Nat.le_refl _) new) hk' hsz
theorem loop_zip {R : Result → Shared → Prop} {A : Around} (hh : A.handled = none) (S : ZipSep2 z TI TO i1 i2 fp1 fp2) (hT1 : TI ∉ fp1) (hT2 : TI ∉ fp2) (D1 : ∀ A, A.handled = none → Draws X.prog X.w A i1 fp1 n1 P1 St1) (D2 : ∀ A, A.handled = none → Draws X.prog X.w A i2 fp2 n2 P2 St2)
    (hp1 : ∀ i v, P1 i v → ∃ x, xs[i]? = some x ∧ L2.RelV x v) (hp2 : ∀ i v, P2 i v → ∃ x, ys[i]? = some x ∧ L2.RelV x v) (hD : D ∉ z :: TI :: TO :: (fp1 ++ fp2)) (hi1 : D ≠ i1) (hi2 : D ≠ i2) (hn : n1 ≤ sizeLine) (res : Value) {H0 : Hp} (h0D : H0 D = none) :
    ∀ (k i : Nat) (s : Shared) (H : Hp) (Ts : List Addr), min n1 n2 - i = k → i ≤ min n1 n2 → L2.Inv X pins σ H s → ZSt z TI TO i1 i2 St1 St2 i s.heap → (∀ b ∈ [z, TI, TO, i1, i2], FpOk X pins H b) → H D = some (.lst (Ts.map V.ref)) → Ts.length = i → Pairs H D xs ys Ts → (∀ b o, H0 b = some o → H b = some o) → (∀ T ∈ Ts, H0 T = none) →
    (∀ s' H' Ts', L2.Inv X pins σ H' s' → (∀ b o, H0 b = some o → H' b = some o) → H' D = some (.lst (Ts'.map V.ref)) → Ts'.length = min n1 n2 → Pairs H' D xs ys Ts' → (∀ T ∈ Ts', H0 T = none) → R (.ok (.ret res)) s') →
    codeAny (model X.prog X.w) A (.builtin "list.extend.loop" ⟨[.ref D, .ref z, res], []⟩) R s := by
  intro k
  induction k with
  | zero =>
    intro i s H Ts hk hi I st hf hH hl hp hx0 hT0 hR
    have e : i = min n1 n2 := by omega
    refine codeAny_builtin F.entry_extend_loop ?_
    rw [Around.under_plainId F.plain_extend_loop _]
    show wpAny _ A.in1 (pyNext (.ref z) >>= _) _ _ s
    refine wpAny_bind (next_zip_end S (D1 _ hh) (D2 _ hh) st (by omega) (by omega) (by omega) fun h' tk kk => ?_)
    exact wpAny_pure (hR { s with heap := h', toks := tk } H Ts (I.turnedL (ch := [z, TI, TO, i1, i2]) (fun c o hc q => kk c o (fun q' => hc (by simp [q'])) (fun q' => hc (by simp [q'])) (fun q' => hc (by simp [q'])) (fun q' => hc (by simp [q'])) q) hf) hx0 hH (by omega) hp hT0)
  | succ k ih =>
    intro i s H Ts hk hi I st hf hH hl hp hx0 hT0 hR
    refine codeAny_builtin F.entry_extend_loop ?_
    rw [Around.under_plainId F.plain_extend_loop _]
    show wpAny _ A.in1 (pyNext (.ref z) >>= _) _ _ s
    refine wpAny_bind (turn_one (A := A.in1) hh S hT1 hT2 D1 D2 hp1 hp2 I st hf (by omega) (by omega) fun x y h' tk ex ey st' hN I1 hk' hsz => ?_)
    show wpAny _ A.in1 (updateSeq D (·.push (.ref s.heap.objs.size)) >>= _) _ _ _
    have nD : D ≠ s.heap.objs.size := fun q => by rw [q, hN] at hH; cases hH
    have hH1 : upd H s.heap.objs.size (.tup [x, y]) D = some (.lst (Ts.map V.ref)) := by rw [upd_ne nD]; exact hH
    obtain ⟨zz, its, nn, r, hlen, e⟩ := I1.lstM hH1
    have hil : its.toArray.size = i := by rw [List.size_toArray, ← hlen, List.length_map, hl]
    refine wpAny_bind (wpAny_updateSeq e rfl (wpAny_pure ⟨plainId_quiet F.plain_extend_loop _, ?_⟩) (by rw [hil]; omega) (by show (its.toArray.push (Value.ref s.heap.objs.size)).size ≤ sizeLine + 1; rw [Array.size_push, hil]; omega))
    have I2 := I1.lset (its' := its ++ [.ref s.heap.objs.size]) (ys := Ts.map V.ref ++ [.ref s.heap.objs.size]) (t' := tk) (f := (·.push (.ref s.heap.objs.size))) hH1 e (by simp) (r.append (.cons (show L2.RelV (.ref s.heap.objs.size) (.ref s.heap.objs.size) from rfl) .nil)) (by rw [List.length_append, List.length_map, List.length_singleton, hl]; omega)
    have eT : Ts.map V.ref ++ [.ref s.heap.objs.size] = (Ts ++ [s.heap.objs.size]).map V.ref := by simp
    rw [eT] at I2
    have at_ : ∀ b, b ≠ D → b ≠ s.heap.objs.size → upd (upd H s.heap.objs.size (.tup [x, y])) D (.lst ((Ts ++ [s.heap.objs.size]).map V.ref)) b = H b := fun b h1 h2 => by rw [upd_ne h1, upd_ne h2]
    refine ih (i + 1) _ _ (Ts ++ [s.heap.objs.size]) (by omega) (by omega) I2 (st'.frame (D1 A hh) (D2 A hh) fun b hb o eb => (Heap.get?_update_other _ _ (fun q : D = b => hD (by rw [q]; exact hb))).trans eb) (fun b hb => ?_) upd_same (by simp [hl]) (fun (j : Nat) (T : Addr) ej => ?_) (fun b o eb => ?_) (fun T hT => ?_) hR
    · obtain ⟨q1, q2⟩ := hf b hb
      refine ⟨?_, q2⟩
      rw [at_ b (fun q => ?_) (fun q => ?_)]
      · exact q1
      · rw [q, hH] at q1
        cases q1
      · have : b < s.heap.objs.size := by
          obtain ⟨⟨vx, vf, hz, _⟩, hTI, ⟨a1, a2, hTO⟩, st1, st2⟩ := st
          have e' : b = z ∨ b = TI ∨ b = TO ∨ b = i1 ∨ b = i2 := by simpa using hb
          rcases e' with q | q | q | q | q
          · rw [q]; exact Heap.lt_size hz
          · rw [q]; exact Heap.lt_size hTI
          · rw [q]; exact Heap.lt_size hTO
          · rw [q]; obtain ⟨_, e1⟩ := (D1 A hh).live _ _ st1; exact Heap.lt_size e1
          · rw [q]; obtain ⟨_, e1⟩ := (D2 A hh).live _ _ st2; exact Heap.lt_size e1
        rw [q] at this
        exact absurd this (Nat.lt_irrefl _)
    · by_cases hj : j < Ts.length
      · rw [List.getElem?_append_left hj] at ej
        obtain ⟨n0, x0, y0, e1, e2, e3⟩ := hp j T ej
        refine ⟨n0, x0, y0, e1, e2, ?_⟩
        rw [at_ T n0 (fun q => by rw [q, hN] at e3; cases e3)]
        exact e3
      · rw [List.getElem?_append_right (by omega)] at ej
        have ej0 : j - Ts.length = 0 := by
          rcases Nat.eq_zero_or_pos (j - Ts.length) with q | q
          · exact q
          · rw [List.getElem?_eq_none (by simp; omega)] at ej
            cases ej
        rw [ej0] at ej
        obtain rfl := Option.some.inj ej
        have : j = i := by omega
        subst this
        refine ⟨fun q => nD q.symm, x, y, ex, ey, ?_⟩
        rw [upd_ne (fun q => nD q.symm), upd_same]
    · have hb : b ≠ D := fun q => by rw [q, h0D] at eb; cases eb
      have hz := hx0 b o eb
      rw [at_ b hb fun q => by rw [q, hN] at hz; cases hz]
      exact hz
    · rcases List.mem_append.mp hT with hT | hT
      · exact hT0 T hT
      · rw [List.mem_singleton.mp hT]
        cases q : H0 s.heap.objs.size with
        | none => rfl
        | some u => rw [hx0 _ u q] at hN; cases hN
end
end Zx

/-! Zx3: what may be walked (lists, tuples, texts); list(zip(a, b)) as a rule. -/
namespace Zx
open PySem L2 PyProof.Rows
def signV (z : Str) : List V := z.cps.toList.map fun c => .str ⟨#[c]⟩
/-- what v gives one by one -/
def Src (K : PySem.W.Frag) (H : Hp) (v : V) (xs : List V) : Prop := (∃ a, v = .ref a ∧ SqL K H a xs) ∨ (∃ a, v = .ref a ∧ SqT K H a xs) ∨ ∃ z : Str, v = .str z ∧ xs = signV z
/-- .. as the library draws it -/
structure Drawn (prog : Program) (w : World) (s : Shared) (u : Value) (xs : List V) (o : Obj) (Hb : Heap → Prop) (fp : List Addr) (P : Nat → Value → Prop) (St : Addr → Nat → Heap → Prop) : Prop where
  beg : Begins u o Hb
  now : Hb s.heap
  low : ∀ b ∈ fp, b < s.heap.objs.size
  start : ∀ it h, h.get? it = some o → Hb h → St it 0 h
  draws : ∀ (A : Around) (it : Addr), it ∉ fp → A.handled = none → Draws prog w A it (it :: fp) xs.length P (St it)
  rel : ∀ i v, P i v → ∃ x, xs[i]? = some x ∧ L2.RelV x v
  len : xs.length ≤ sizeLine
section
variable {X : Cx} {pins : List (Addr × Obj)} {σ : L2.St} {H : Hp} {s : Shared}
theorem src_drawn {v : V} {u : Value} {xs : List V} (I : L2.Inv X pins σ H s) (h : Src X.K H v xs) (hz : ∀ z, v = .str z → z.cps.size ≤ sizeLine) (r : L2.RelV v u) : ∃ o Hb fp P St, Drawn X.prog X.w s u xs o Hb fp P St := by
  rcases h with ⟨a, rfl, h⟩ | ⟨a, rfl, h⟩ | ⟨z, rfl, rfl⟩
  · cases r
    obtain ⟨its, rv, p, hz⟩ := I.list h
    have hlen := rv.length
    refine ⟨_, _, [a], fun i v => its.toArray[i]? = some v, fun it i h => h.IsListIter it a i ∧ h.IsList a its.toArray, begins_list a its.toArray, p.isList, fun b hb => ?_, fun it h e q => ⟨⟨_, e, rfl, rfl⟩, q⟩, fun A it hn hh => ?_, fun i v e => ?_, hz⟩
    · rw [List.mem_singleton.mp hb]; exact p.lt
    · rw [hlen, ← List.size_toArray]
      exact Draws.list hh it a (fun q => hn (by rw [q]; simp)) its.toArray
    · rw [List.getElem?_toArray] at e
      cases q : xs[i]? with
      | none =>
        rw [List.getElem?_eq_none_iff] at q
        rw [List.getElem?_eq_none (by omega)] at e
        cases e
      | some x =>
        obtain ⟨u, eu, ru⟩ := rv.get q
        rw [eu] at e
        cases e
        exact ⟨x, rfl, ru⟩
  · cases r
    obtain ⟨its, rv, p, hz⟩ := I.tuple h
    have hlen := rv.length
    refine ⟨_, _, [a], fun i v => its.toArray[i]? = some v, fun it i h => h.IsTupleIter it a i ∧ h.IsTuple a its.toArray, begins_tuple a its.toArray, p, fun b hb => ?_, fun it h e q => ⟨⟨_, e, rfl, rfl⟩, q⟩, fun A it hn hh => ?_, fun i v e => ?_, hz⟩
    · rw [List.mem_singleton.mp hb]
      obtain ⟨_, e, _⟩ := p
      exact Heap.lt_size e
    · rw [hlen, ← List.size_toArray]
      exact Draws.tuple hh it a (fun q => hn (by rw [q]; simp)) its.toArray
    · rw [List.getElem?_toArray] at e
      cases q : xs[i]? with
      | none =>
        rw [List.getElem?_eq_none_iff] at q
        rw [List.getElem?_eq_none (by omega)] at e
        cases e
      | some x =>
        obtain ⟨u, eu, ru⟩ := rv.get q
        rw [eu] at e
        cases e
        exact ⟨x, rfl, ru⟩
  · obtain ⟨t, rfl⟩ := r
    refine ⟨_, _, [], fun i v => ∃ c u, z.cps[i]? = some c ∧ v = .str ⟨#[c]⟩ u, fun it i h => h.IsStrIter it (strIterType z) z t i, begins_text z t, trivial, by simp, fun it h e _ => ⟨_, e, rfl, rfl⟩, fun A it hn hh => ?_, fun i v ⟨c, u, e, e2⟩ => ?_, ?_⟩
    · have e : (signV z).length = z.cps.size := by simp [signV]
      rw [e]
      exact Draws.text hh it z t
    · subst e2
      refine ⟨.str ⟨#[c]⟩, ?_, u, rfl⟩
      have e' : z.cps.toList[i]? = some c := by simpa using e
      simp [signV, e']
    · simpa [signV] using hz z rfl
theorem iter_zip {prog : Program} {w : World} {A : Around} {E : Value → Shared → Prop} {s : Shared} {z TI TO : Addr} {x : Value} {f : Bool} {Q : Value → Shared → Prop} (hz : ZF s.heap z TI TO x f) (h : Q (.ref z) s) : wpAny (model prog w) A (pyIter (.ref z)) Q E s := by
  have hT : s.TypeIs (.ref z) "zip" := ⟨_, hz, rfl⟩
  refine wpAny_pyIter_slot hT F.slot_zip_iter (wpAny_call_entry F.slot_zip_iter hT F.entry_zip_iter ?_ (F.args_zip_iter_1 _))
  show wpAny _ _ (ret (.ref z)) _ _ s
  exact wpAny_pure ⟨_, rfl, "zip", _, hT, F.slot_zip_next.lookup, h⟩
/-- the call -/
theorem call_listZip {A : Around} {z TI TO i1 i2 : Addr} {fp1 fp2 : List Addr} {n1 n2 : Nat} {P1 P2 : Nat → Value → Prop} {St1 St2 : Nat → Heap → Prop} {xs ys : List V} {Q : Value → Shared → Prop} {E : Value → Shared → Prop} (hh : A.handled = none)
    (S : ZipSep2 z TI TO i1 i2 fp1 fp2) (hT1 : TI ∉ fp1) (hT2 : TI ∉ fp2) (D1 : ∀ A, A.handled = none → Draws X.prog X.w A i1 fp1 n1 P1 St1) (D2 : ∀ A, A.handled = none → Draws X.prog X.w A i2 fp2 n2 P2 St2)
    (hp1 : ∀ i v, P1 i v → ∃ x, xs[i]? = some x ∧ L2.RelV x v) (hp2 : ∀ i v, P2 i v → ∃ x, ys[i]? = some x ∧ L2.RelV x v) (hlow : ∀ b ∈ z :: TI :: TO :: (fp1 ++ fp2), b < s.heap.objs.size) (hn : n1 ≤ sizeLine)
    (I : L2.Inv X pins σ H s) (st : ZSt z TI TO i1 i2 St1 St2 0 s.heap) (hf : ∀ b ∈ [z, TI, TO, i1, i2], FpOk X pins H b)
    (hQ : ∀ s' D H' Ts, L2.Inv X pins σ H' s' → (∀ b o, H b = some o → H' b = some o) → H D = none → H' D = some (.lst (Ts.map V.ref)) → Ts.length = min n1 n2 → Pairs H' D xs ys Ts → (∀ T ∈ Ts, H T = none) → Q (.ref D) s') :
    wpAny (model X.prog X.w) A (call (.type "list") [.ref z]) Q E s := by
  refine callType_codes (Q₁ := fun obj s₁ => obj = .ref s.heap.objs.size ∧ s₁ = { s with heap := s.heap.push { cls := .type "list", data := .seq #[] } }) F.called_list (F.typeCall_list_1 _) F.entry_list_init
    (code_list_new _ ⟨rfl, rfl⟩) fun obj s₁ h₁ => ?_
  obtain ⟨rfl, rfl⟩ := h₁
  have nD : H s.heap.objs.size = none := I.hok.fresh (Nat.le_refl _)
  have hS : (s.heap.push { cls := .type "list", data := .seq #[] }).get? s.heap.objs.size = some { cls := .type "list", data := .seq #[] } := Heap.get?_push_size _ rfl
  have I1 : L2.Inv X pins σ (upd H s.heap.objs.size (.lst [])) { s with heap := s.heap.push { cls := .type "list", data := .seq #[] } } := I.lnew (t' := s.toks) (its := []) .nil (Nat.zero_le _)
  have hDl : s.heap.objs.size ∉ z :: TI :: TO :: (fp1 ++ fp2) := fun q => Nat.lt_irrefl _ (hlow _ q)
  have st1 : ZSt z TI TO i1 i2 St1 St2 0 (s.heap.push { cls := .type "list", data := .seq #[] }) := st.frame (D1 A hh) (D2 A hh) fun b hb o e => Heap.get?_push_of_some _ e
  have hf1 : ∀ b ∈ [z, TI, TO, i1, i2], FpOk X pins (upd H s.heap.objs.size (.lst [])) b := fun b hb => by
    obtain ⟨q1, q2⟩ := hf b hb
    have hbl : b < s.heap.objs.size := by
      have e' : b = z ∨ b = TI ∨ b = TO ∨ b = i1 ∨ b = i2 := by simpa using hb
      rcases e' with q | q | q | q | q
      · rw [q]; exact hlow _ (by simp)
      · rw [q]; exact hlow _ (by simp)
      · rw [q]; exact hlow _ (by simp)
      · rw [q]; exact hlow _ (by simp [S.mem1])
      · rw [q]; exact hlow _ (by simp [S.mem2])
    exact ⟨by rw [upd_ne (Nat.ne_of_lt hbl)]; exact q1, q2⟩
  refine ⟨⟨_, hS, rfl⟩, F.args_list_init_2 _ _, ?_⟩
  show wpAny _ A.in1.in1 (do let old ← Builtin.List.listItems (.ref s.heap.objs.size); Builtin.List.listUpdate (.ref s.heap.objs.size) (fun _ => #[]); letGo old.toList.reverse; Builtin.List.listExtendWith (.ref s.heap.objs.size) (.ref z) .none) _ _ _
  refine wpAny_bind ?_
  unfold Builtin.List.listItems
  refine wpAny_bind (wpAny_seqItems hS rfl (wpAny_pure ?_))
  show wpAny _ A.in1.in1 (updateSeq s.heap.objs.size (fun _ => #[]) >>= fun _ => letGo (#[] : Array Value).toList.reverse >>= fun _ => Builtin.List.listExtendWith (.ref s.heap.objs.size) (.ref z) .none) _ _ _
  refine wpAny_bind (wpAny_updateSeq hS rfl ?_)
  have I2 := I1.lset (its := []) (its' := []) (ys := []) (t' := s.toks) (f := fun _ => #[]) upd_same hS rfl .nil (Nat.zero_le _)
  rw [upd_upd] at I2
  have hS2 := Heap.get?_update_self (Obj.mapSeq (fun _ => (#[] : Array Value))) hS rfl
  have fr : ∀ {h : Heap} {f : Array Value → Array Value}, ZSt z TI TO i1 i2 St1 St2 0 h → ZSt z TI TO i1 i2 St1 St2 0 (h.update s.heap.objs.size (Obj.mapSeq f)) := fun q => q.frame (D1 A hh) (D2 A hh) fun b hb o e => (Heap.get?_update_other _ _ (fun q : s.heap.objs.size = b => hDl (by rw [q]; exact hb))).trans e
  have st2 := fr (f := fun _ => #[]) st1
  refine wpAny_bind (wpAny_letGo ?_)
  obtain ⟨vx, vf, hz2, _⟩ := st2.1
  have hTz : Shared.TypeIs { s with heap := (s.heap.push { cls := .type "list", data := .seq #[] }).update s.heap.objs.size (Obj.mapSeq fun _ => #[]) } (.ref z) "zip" := ⟨_, hz2, rfl⟩
  have hzD : s.heap.objs.size ≠ z := fun q => hDl (by rw [q]; simp)
  unfold Builtin.List.listExtendWith
  refine wpAny_bind (wpAny_typeOf hTz ?_)
  have h1 : Builtin.List.listSameRef (.ref s.heap.objs.size) (.ref z) = false := by simp [Builtin.List.listSameRef, hzD]
  have h2 : (Value.type "zip" == Value.type "list") = false := by decide
  have h3 : (Value.type "zip" == Value.type "tuple") = false := by decide
  simp only [h1, h2, h3, Bool.or_false, Bool.false_eq_true, if_false]
  refine wpAny_bind (iter_zip hz2 ?_)
  refine wpAny_bind (wpAny_holding ?_)
  unfold Builtin.List.listLengthHint
  refine wpAny_bind (wpAny_specialOf hTz zip_no_len ?_)
  show wpAny _ A.in1.in1 (specialOf (Value.ref z) (Str.ofString "__length_hint__") >>= _) _ _ _
  refine wpAny_bind (wpAny_specialOf hTz zip_no_hint ?_)
  refine wpAny_pure ?_
  show wpAny _ A.in1.in1 (rule "list.extend.makes-room" >>= fun _ => Builtin.List.listTouch (.ref s.heap.objs.size) >>= fun _ =>
    again (.builtin "list.extend.loop" ⟨[.ref s.heap.objs.size, .ref z, .none], []⟩)) _ _ _
  refine wpAny_bind (wpAny_rule ?_)
  refine wpAny_bind ?_
  show wpAny _ A.in1.in1 (updateSeq s.heap.objs.size (·.push .none) >>= fun _ => updateSeq s.heap.objs.size (·.pop)) _ _ _
  obtain ⟨_, its2, nn2, r2, hl2, e2⟩ := I2.lstM upd_same
  cases r2
  refine wpAny_bind (wpAny_updateSeq e2 rfl ?_)
  have I3 := I2.lset (its' := [.none]) (ys := [.non]) (t' := s.toks) (f := (·.push .none)) upd_same e2 rfl (.cons (show L2.RelV .non .none from rfl) .nil) (by decide)
  rw [upd_upd] at I3
  have e3 := Heap.get?_update_self (Obj.mapSeq (·.push Value.none)) e2 rfl
  refine wpAny_updateSeq e3 rfl ?_
  have I4 := I3.lset (its := [.none]) (its' := []) (ys := []) (t' := s.toks) (f := (·.pop)) upd_same e3 rfl .nil (Nat.zero_le _)
  rw [upd_upd] at I4
  have st4 := fr (f := (·.pop)) (fr (f := (·.push Value.none)) st2)
  refine wpAny_pure ⟨plainId_quiet F.plain_extend_loop _, loop_zip (A := A.in1) hh S hT1 hT2 D1 D2 hp1 hp2 hDl (fun q => hDl (by rw [q]; simp [S.mem1])) (fun q => hDl (by rw [q]; simp [S.mem2])) hn .none nD _ 0 _ _ [] rfl (Nat.zero_le _) I4 st4 hf1 upd_same rfl (fun j T e => by simp at e) (fun b o e => ?_) (by simp) fun s' H' Ts' J ext hD hl hp hT => ?_⟩
  · rw [upd_ne (fun q => by rw [q, nD] at e; cases e)]
    exact e
  · exact ⟨rfl, hQ s' s.heap.objs.size H' Ts' J ext nD hD hl hp hT⟩
end
/-! ### zip(a, b) as an argument -/
/-- an expression that makes a zip of two things -/
def PZp (X : Cx) (e : Expr) (t : L2.St → Hp → (List V → List V → Hp → Prop) → Prop) : Prop :=
  ∀ (pins : List (Addr × Obj)) (s : Shared) (σ : L2.St) (H : Hp) (Q : List V → List V → Hp → Prop), L2.Inv X pins σ H s → t σ H Q →
    wpAny (model X.prog X.w) X.A (eval e X.env) (fun u s' => ∃ (z TI TO i1 i2 : Addr) (fp1 fp2 : List Addr) (n1 n2 : Nat) (P1 P2 : Nat → Value → Prop) (St1 St2 : Nat → Heap → Prop) (xs ys : List V) (H' : Hp), u = .ref z ∧ L2.Inv X pins σ H' s' ∧ ZipSep2 z TI TO i1 i2 fp1 fp2 ∧ TI ∉ fp1 ∧ TI ∉ fp2 ∧
      (∀ A, A.handled = none → Draws X.prog X.w A i1 fp1 n1 P1 St1) ∧ (∀ A, A.handled = none → Draws X.prog X.w A i2 fp2 n2 P2 St2) ∧ (∀ i v, P1 i v → ∃ x, xs[i]? = some x ∧ L2.RelV x v) ∧ (∀ i v, P2 i v → ∃ x, ys[i]? = some x ∧ L2.RelV x v) ∧
      (∀ b ∈ z :: TI :: TO :: (fp1 ++ fp2), b < s'.heap.objs.size) ∧ n1 = xs.length ∧ n2 = ys.length ∧ n1 ≤ sizeLine ∧ ZSt z TI TO i1 i2 St1 St2 0 s'.heap ∧ (∀ b ∈ [z, TI, TO, i1, i2], FpOk X pins H' b) ∧ Q xs ys H') X.xe s
def tZp (K : PySem.W.Frag) (ta : TA) : L2.St → Hp → (List V → List V → Hp → Prop) → Prop := fun σ H Q => ta σ H fun vs H1 => ∃ v u xs ys, vs = [v, u] ∧ Src K H1 v xs ∧ Src K H1 u ys ∧ (∀ z, v = .str z → z.cps.size ≤ sizeLine) ∧ (∀ z, u = .str z → z.cps.size ≤ sizeLine) ∧ Q xs ys H1
section
variable {X : Cx} {e e2 : Expr} {ta : TA} {p pos : Pos}
theorem pzp (hg : Gl X "zip") (hm : X.mg "zip" = none) (ha : PA X [e, e2] ta) (hs : starEach [e, e2] X.env = (false, eval e X.env) :: starEach [e2] X.env := by rfl) (hpl : (backTo pos (starEach [e2] X.env)).any (·.1) = false := by rfl) :
    PZp X (.Call (.Name "zip" p) [e, e2] [] pos) (tZp X.K ta) := by
  intro pins s σ H Q I h
  refine Call_ (ld_blt I hg hm PyProof.Rows.boot_zip (PyProof.Rows.callWith_type1 (thn (ha.run pos pins s σ H _ I h) fun us s1 ⟨vs, H1, I1, r1, q1⟩ => ?_) hs hpl))
  obtain ⟨v, u, xs, ys, rfl, h1, h2, z1, z2, q⟩ := q1
  cases r1 with
  | @cons _ u1 _ _ ra rb =>
    cases rb with
    | @cons _ u2 _ _ rb rc =>
      cases rc
      obtain ⟨o1, Hb1, f1, P1, St1, d1⟩ := src_drawn I1 h1 z1 ra
      obtain ⟨o2, Hb2, f2, P2, St2, d2⟩ := src_drawn I1 h2 z2 rb
      refine zip_begins2 d1.beg d2.beg d1.now d2.now fun h' hz hTI hTO e1 e2 hsz hk => ?_
      have I2 : L2.Inv X pins σ H1 { s1 with heap := h' } := I1.kept (t' := s1.toks) hk
      have lt1 : ∀ b ∈ f1, b < s1.heap.objs.size := d1.low
      have lt2 : ∀ b ∈ f2, b < s1.heap.objs.size := d2.low
      have n1 : ∀ k : Nat, s1.heap.objs.size + k ∉ f1 := fun k q => absurd (lt1 _ q) (by show ¬ (s1.heap.objs.size + k : Nat) < s1.heap.objs.size; omega)
      have n2 : ∀ k : Nat, s1.heap.objs.size + k ∉ f2 := fun k q => absurd (lt2 _ q) (by show ¬ (s1.heap.objs.size + k : Nat) < s1.heap.objs.size; omega)
      have hle : ∀ c, c ∈ [s1.heap.objs.size + 4, s1.heap.objs.size + 2, s1.heap.objs.size + 3, s1.heap.objs.size, s1.heap.objs.size + 1] → s1.heap.objs.size ≤ c := fun c hc => by
        have e' : c = s1.heap.objs.size + 4 ∨ c = s1.heap.objs.size + 2 ∨ c = s1.heap.objs.size + 3 ∨ c = s1.heap.objs.size ∨ c = s1.heap.objs.size + 1 := by simpa using hc
        rcases e' with z | z | z | z | z
        · rw [z]; exact Nat.le_add_right _ _
        · rw [z]; exact Nat.le_add_right _ _
        · rw [z]; exact Nat.le_add_right _ _
        · rw [z]; exact Nat.le_refl _
        · rw [z]; exact Nat.le_add_right _ _
      refine ⟨s1.heap.objs.size + 4, s1.heap.objs.size + 2, s1.heap.objs.size + 3, s1.heap.objs.size, s1.heap.objs.size + 1, s1.heap.objs.size :: f1, (s1.heap.objs.size + 1) :: f2, xs.length, ys.length, P1, P2, St1 s1.heap.objs.size, St2 (s1.heap.objs.size + 1), xs, ys, H1, rfl, I2, zip_sep2 lt1 lt2, ?_, ?_, fun A hh => d1.draws A _ (n1 0) hh, fun A hh => d2.draws A _ (n2 1) hh, d1.rel, d2.rel, fun b hb => ?_, rfl, rfl, d1.len,
        ZSt.new hz hTI ⟨_, _, hTO⟩ (d1.start _ _ e1 (d1.beg.keeps _ _ d1.now hk)) (d2.start _ _ e2 (d2.beg.keeps _ _ d2.now hk)), fun c hc => I1.fpOk (hle c hc) (I1.hok.fresh (hle c hc)), q⟩
      · exact notIn_new (j := 2) (i := 0) lt1 (by omega)
      · exact notIn_new (j := 2) (i := 1) lt2 (by omega)
      · show (b : Nat) < h'.objs.size
        rw [hsz]
        simp only [List.mem_cons, List.mem_append] at hb
        rcases hb with q | q | q | (q | q) | q | q
        · rw [q]; exact Nat.lt_succ_self _
        · rw [q]; show (s1.heap.objs.size + 2 : Nat) < s1.heap.objs.size + 5; omega
        · rw [q]; show (s1.heap.objs.size + 3 : Nat) < s1.heap.objs.size + 5; omega
        · rw [q]; show (s1.heap.objs.size : Nat) < s1.heap.objs.size + 5; omega
        · have := lt1 b q
          exact Nat.lt_of_lt_of_le this (Nat.le_add_right _ _)
        · rw [q]; show (s1.heap.objs.size + 1 : Nat) < s1.heap.objs.size + 5; omega
        · have := lt2 b q
          exact Nat.lt_of_lt_of_le this (Nat.le_add_right _ _)
variable {te : L2.St → Hp → (List V → List V → Hp → Prop) → Prop}
def tLstZp (te : L2.St → Hp → (List V → List V → Hp → Prop) → Prop) : TE := fun σ H Q => te σ H fun xs ys H1 => ∀ D H' Ts, (∀ b o, H1 b = some o → H' b = some o) → H1 D = none → H' D = some (.lst (Ts.map V.ref)) → Ts.length = min xs.length ys.length → Pairs H' D xs ys Ts → (∀ T ∈ Ts, H1 T = none) → Q (.ref D) H'
/-- list(zip(a, b)) -/
theorem pe_listZp (hc : X.calm = true) (hg : Gl X "list") (hm : X.mg "list" = none) (he : PZp X e te) (na : starEach [e] X.env = (false, eval e X.env) :: starEach [] X.env := by rfl) : PE X (.Call (.Name "list" p) [e] [] pos) (tLstZp te) := by
  refine ⟨fun pins s σ H Q I h => ?_⟩
  refine Call_ (ld_blt I hg hm boot_list (PyProof.Rows.callWith_type1 (args_cons (thn (he pins s σ H _ I h) fun x s1 hx => args_nil ?_) na) na))
  obtain ⟨z, TI, TO, i1, i2, fp1, fp2, n1, n2, P1, P2, St1, St2, xs, ys, H1, rfl, I1, S, hT1, hT2, D1, D2, hp1, hp2, hlow, rfl, rfl, hn, st, hf, q⟩ := hx
  exact call_listZip (I1.ok.hd hc) S hT1 hT2 D1 D2 hp1 hp2 hlow hn I1 st hf fun s' D H' Ts J ext nD hD hl hp hT => ⟨.ref D, H', J, rfl, q D H' Ts ext nD hD hl hp hT⟩
end
end Zx

/-! Zx4: for k, pair in enumerate(zip(text, text)). -/
namespace Zx
open PySem L2 PyProof.Rows
theorem meets_enumerate_newZ (z TI TO : Addr) (x : Value) (f : Bool) :
    Meets (Builtin.«enumerate.__new__» ⟨[.type "enumerate", .ref z], []⟩) (fun _ R s => ZF s.heap z TI TO x f ∧
      R (.ok (.ret (.ref s.heap.objs.size))) { s with heap := s.heap.push { cls := .type "enumerate", data := .fields #[.none, .bool false, .ref z, rawInt 0, .none, .none] } }) :=
  .of_wp fun prog w A R s h => by
    obtain ⟨hp, g, d, tk, os⟩ := s
    obtain ⟨hl, h⟩ := h
    have hsub := sub_enumerate
    have q1 : ∀ {A' : Around} {E : Value → Shared → Prop} {Q : Value → Shared → Prop}, Q (.ref z) ⟨hp, g, d, tk, os⟩ → wpAny (model prog w) A' (pyIter (.ref z)) Q E ⟨hp, g, d, tk, os⟩ := fun q => iter_zip (s := ⟨hp, g, d, tk, os⟩) hl q
    wp_walk using AutoSeq1.wpAny_loadPart' hl
    refine wpAny_stack_any fun st => wpAny_pure ?_
    split
    · rename_i c _ _ _ _ _
      cases (c == Value.type "enumerate")
      · wp_walk using AutoSeq1.wpAny_loadPart' hl, q1
        exact ⟨_, rfl, h⟩
      · wp_walk using AutoSeq1.wpAny_loadPart' hl, q1
        exact ⟨_, rfl, h⟩
    · wp_walk using AutoSeq1.wpAny_loadPart' hl, q1
      exact ⟨_, rfl, h⟩
section
variable {prog : Program} {w : World} {A : Around} {E : Value → Shared → Prop} {s : Shared} {z TI TO i1 i2 e : Addr} {fp1 fp2 : List Addr} {n1 n2 i : Nat} {P1 P2 : Nat → Value → Prop} {St1 St2 : Nat → Heap → Prop}
theorem call_enumerate_zip {x : Value} {f : Bool} {Q : Value → Shared → Prop} (hz : ZF s.heap z TI TO x f) (h : ∀ h', IsEnum h' s.heap.objs.size z 0 .none → h'.objs.size = s.heap.objs.size + 1 → (∀ b o, s.heap.get? b = some o → h'.get? b = some o) → Q (.ref s.heap.objs.size) { s with heap := h' }) :
    wpAny (model prog w) A (call (.type "enumerate") [.ref z]) Q E s := by
  refine callType_new F.called_enumerate (by decide) (F.typeCall_enumerate_1 _) (F.newCall_enumerate_1 _) (fun obj => F.args_object_init_2 obj _) F.entry_enumerate_new (meets_enumerate_newZ z TI TO x f) ⟨hz, ?_⟩
  exact ⟨⟨_, Heap.get?_push_size _ rfl, rfl⟩, h _ (Heap.get?_push_size _ rfl) (Heap.size_push ..) fun b o q => Heap.get?_push_of_some _ q⟩
theorem nextOf_zip {Q : Value → Shared → Prop} (S : ZipSep2 z TI TO i1 i2 fp1 fp2) (hT1 : TI ∉ fp1) (hT2 : TI ∉ fp2) (D1 : ∀ A, A.handled = none → Draws prog w A i1 fp1 n1 P1 St1) (D2 : ∀ A, A.handled = none → Draws prog w A i2 fp2 n2 P2 St2) (hh : A.handled = none) (st : ZSt z TI TO i1 i2 St1 St2 i s.heap) (h1 : i < n1) (h2 : i < n2)
    (hQ : ∀ x1 x2 h' tk, P1 i x1 → P2 i x2 → ZSt z TI TO i1 i2 St1 St2 (i + 1) h' → IsTupOf2 h' s.heap.objs.size x1 x2 → h'.objs.size = s.heap.objs.size + 1 →
      (∀ c o, c ≠ z → c ≠ TO → c ≠ i1 → c ≠ i2 → s.heap.get? c = some o → h'.get? c = some o) → Q (.ref s.heap.objs.size) { s with heap := h', toks := tk }) :
    wpAny (model prog w) A (Builtin.SmallTypes.nextOf (.ref z)) Q E s := by
  obtain ⟨x, f, hz, _⟩ := st.1
  have hT : s.TypeIs (.ref z) "zip" := ⟨_, hz, rfl⟩
  unfold Builtin.SmallTypes.nextOf
  exact wpAny_bind (wpAny_callSpecial?_slot (name := Str.ofString "__next__") hT F.slot_zip_next
    (wpAny_call_entry F.slot_zip_next hT F.entry_zip_next
      (zip_item S (D1 _ hh) (D2 _ hh) st hT1 hT2 h1 h2 fun x1 x2 h' tk y1 y2 b1 b2 b3 b4 => wpAny_pure (hQ x1 x2 h' tk y1 y2 b1 b2 b3 b4)) (F.args_zip_next_1 _)))
theorem nextOf_zip_end {Q : Value → Shared → Prop} (S : ZipSep2 z TI TO i1 i2 fp1 fp2) (D1 : ∀ A, A.handled = none → Draws prog w A i1 fp1 n1 P1 St1) (D2 : ∀ A, A.handled = none → Draws prog w A i2 fp2 n2 P2 St2) (hh : A.handled = none) (st : ZSt z TI TO i1 i2 St1 St2 i s.heap) (h1 : i ≤ n1) (h2 : i ≤ n2) (hend : i = n1 ∨ i = n2)
    (hE : ∀ h' tk e, (∀ c o, c ≠ z → c ≠ TO → c ≠ i1 → c ≠ i2 → s.heap.get? c = some o → h'.get? c = some o) → (∃ o, h'.get? e = some o ∧ o.cls = .type "StopIteration") → E (.ref e) { s with heap := h', toks := tk }) :
    wpAny (model prog w) A (Builtin.SmallTypes.nextOf (.ref z)) Q E s := by
  obtain ⟨x, f, hz, _⟩ := st.1
  have hT : s.TypeIs (.ref z) "zip" := ⟨_, hz, rfl⟩
  unfold Builtin.SmallTypes.nextOf
  exact wpAny_bind (wpAny_callSpecial?_slot (name := Str.ofString "__next__") hT F.slot_zip_next
    (wpAny_call_entry F.slot_zip_next hT F.entry_zip_next (zip_end S (D1 _ hh) (D2 _ hh) st h1 h2 hend hE) (F.args_zip_next_1 _)))
/-- one turn: the zip's pair first (heap h₁), then the pair of its number and it -/
theorem enum_zip_item {c : Int} {old : Value} {Q : Value → Shared → Prop} (S : ZipSep2 z TI TO i1 i2 fp1 fp2) (hT1 : TI ∉ fp1) (hT2 : TI ∉ fp2) (D1 : ∀ A, A.handled = none → Draws prog w A i1 fp1 n1 P1 St1) (D2 : ∀ A, A.handled = none → Draws prog w A i2 fp2 n2 P2 St2) (hh : A.handled = none)
    (he : IsEnum s.heap e z c old) (st : ZSt z TI TO i1 i2 St1 St2 i s.heap) (h1 : i < n1) (h2 : i < n2) (hef : e ∉ z :: TI :: TO :: (fp1 ++ fp2))
    (hQ : ∀ x1 x2 h₁ h' tk, P1 i x1 → P2 i x2 → IsTupOf2 h₁ s.heap.objs.size x1 x2 → h₁.objs.size = s.heap.objs.size + 1 → (∀ b o, b ∉ [z, TI, TO, i1, i2] → s.heap.get? b = some o → h₁.get? b = some o) → ZSt z TI TO i1 i2 St1 St2 (i + 1) h₁ →
      IsEnumOut h' e z (c + 1) (.ref s.heap.objs.size) (s.heap.objs.size + 1) → h'.get? (s.heap.objs.size + 1) = some { cls := .type "tuple", data := .seq #[.int c tk, .ref s.heap.objs.size] } → (∀ b o, b ≠ e → h₁.get? b = some o → h'.get? b = some o) → Q (.ref (s.heap.objs.size + 1)) { s with heap := h', toks := tk + 1 }) :
    wpAny (model prog w) A (Builtin.«enumerate.__next__» ⟨[.ref e], []⟩) (fun fin s' => ∃ v, fin = .done (.ret v) ∧ Q v s') E s := by
  obtain ⟨hp, g, d, tk₀, os⟩ := s
  have ne : ∀ b, b ∈ z :: TI :: TO :: (fp1 ++ fp2) → e ≠ b := fun b hb q => hef (by rw [q]; exact hb)
  have nez : e ≠ z := ne z (by simp)
  have neO : e ≠ TO := ne TO (by simp)
  have ne1 : e ≠ i1 := ne i1 (by simp [S.mem1])
  have ne2 : e ≠ i2 := ne i2 (by simp [S.mem2])
  show wpAny _ _ (field (.ref e) 2 >>= _) _ _ _
  refine wpAny_bind (wpAny_field he rfl (x := .ref z) rfl ?_)
  refine wpAny_bind (nextOf_zip S hT1 hT2 D1 D2 hh st h1 h2 fun x1 x2 h₁ tk p1 p2 st₁ hT hsz₁ hk₁ => ?_)
  replace hsz₁ : h₁.objs.size = hp.objs.size + 1 := hsz₁
  replace hk₁ : ∀ c o, c ≠ z → c ≠ TO → c ≠ i1 → c ≠ i2 → hp.get? c = some o → h₁.get? c = some o := hk₁
  have he₁ : IsEnum h₁ e z c old := hk₁ _ _ nez neO ne1 ne2 he
  have hel : e < hp.objs.size := Heap.lt_size he
  show wpAny _ _ (field (.ref e) 3 >>= _) _ _ ⟨h₁, g, d, tk, os⟩
  refine wpAny_bind (wpAny_field he₁ rfl (x := rawInt c) rfl ?_)
  show wpAny _ _ (field (.ref e) 4 >>= _) _ _ ⟨h₁, g, d, tk, os⟩
  refine wpAny_bind (wpAny_field he₁ rfl (x := .none) rfl ?_)
  show wpAny _ _ (mkInt c >>= _) _ _ ⟨h₁, g, d, tk, os⟩
  refine wpAny_bind (wpAny_mkInt ?_)
  show wpAny _ _ (setField (.ref e) 3 (rawInt (c + 1)) >>= _) _ _ ⟨h₁, g, d, tk + 1, os⟩
  refine wpAny_bind (wpAny_setField_rec he₁ (by simp) fun h₂ he₂ hs₂ => ?_)
  replace hs₂ : Heap.SameBut e h₁ h₂ := hs₂
  replace he₂ : IsEnum h₂ e z (c + 1) old := he₂
  show wpAny _ _ (setField (.ref e) 4 .none >>= _) _ _ ⟨h₂, g, d, tk + 1, os⟩
  refine wpAny_bind (wpAny_setField_rec he₂ (by simp) fun h₃ he₃ hs₃ => ?_)
  replace hs₃ : Heap.SameBut e h₂ h₃ := hs₃
  replace he₃ : IsEnum h₃ e z (c + 1) old := he₃
  show wpAny _ _ (newTuple [.int c tk, .ref hp.objs.size] >>= _) _ _ ⟨h₃, g, d, tk + 1, os⟩
  refine wpAny_bind (wpAny_newTuple ?_)
  have he₄ : IsEnum (h₃.push { cls := .type "tuple", data := .seq #[.int c tk, .ref hp.objs.size] }) e z (c + 1) old := Heap.get?_push_of_some _ he₃
  generalize hh₄ : h₃.push { cls := .type "tuple", data := .seq #[.int c tk, .ref hp.objs.size] } = h₄ at he₄
  have hsz : h₃.objs.size = hp.objs.size + 1 := by rw [hs₃.1, hs₂.1, hsz₁]
  have ht₄ : h₄.get? (hp.objs.size + 1) = some { cls := .type "tuple", data := .seq #[.int c tk, .ref hp.objs.size] } := by rw [← hh₄, ← hsz]; exact Heap.get?_push_size _ rfl
  have hk₄ : ∀ b o, b ≠ e → h₁.get? b = some o → h₄.get? b = some o := fun b o hbe hb => by
    rw [← hh₄]; exact Heap.get?_push_of_some _ (hs₃.extBut b o hbe (hs₂.extBut b o hbe hb))
  show wpAny _ _ (Builtin.SmallTypes.ownedTupleIsFree (.ref e) >>= _) _ _ ⟨h₄, g, d, tk + 1, os⟩
  rw [hsz]
  have hne : hp.objs.size + 1 ≠ e := Nat.ne_of_gt (Nat.lt_succ_of_lt hel)
  clear hh₄ he₃ hs₃ he₂ hs₂ he₁ hsz h₃ h₂
  refine wpAny_bind ?_
  · unfold Builtin.SmallTypes.ownedTupleIsFree
    refine wpAny_bind (wpAny_field he₄ rfl (x := .none) rfl (wpAny_pure ?_))
    simp only [if_true]
    refine wpAny_bind (wpAny_rule ?_)
    refine wpAny_bind (wpAny_field he₄ rfl (x := old) rfl ?_)
    refine wpAny_bind (wpAny_setField_rec he₄ (by simp) fun h₅ he₅ hs₅ => ?_)
    replace hs₅ : Heap.SameBut e h₄ h₅ := hs₅
    replace he₅ : IsEnum h₅ e z (c + 1) (.ref hp.objs.size) := he₅
    show wpAny _ _ (Builtin.SmallTypes.ownedTupleHandOut (.ref e) (.ref (hp.objs.size + 1)) >>= _) _ _ ⟨h₅, g, d, tk + 1, os⟩
    refine wpAny_bind ?_
    · unfold Builtin.SmallTypes.ownedTupleHandOut
      refine wpAny_bind (wpAny_setField_rec he₅ (by simp) fun h₆ he₆ hs₆ => ?_)
      replace hs₆ : Heap.SameBut e h₅ h₆ := hs₆
      replace he₆ : IsEnumOut h₆ e z (c + 1) (.ref hp.objs.size) (hp.objs.size + 1) := he₆
      refine wpAny_setField_rec he₆ (by simp) fun h₇ he₇ hs₇ => ?_
      replace hs₇ : Heap.SameBut e h₆ h₇ := hs₇
      replace he₇ : IsEnumOut h₇ e z (c + 1) (.ref hp.objs.size) (hp.objs.size + 1) := he₇
      have k7 : ∀ b o, b ≠ e → h₄.get? b = some o → h₇.get? b = some o := fun b o hb q => hs₇.extBut b o hb (hs₆.extBut b o hb (hs₅.extBut b o hb q))
      refine wpAny_bind (wpAny_letGo (wpAny_pure ⟨_, rfl, hQ x1 x2 h₁ h₇ tk p1 p2 hT hsz₁ (fun b o hb q => hk₁ b o (fun z => hb (by simp [z])) (fun z => hb (by simp [z])) (fun z => hb (by simp [z])) (fun z => hb (by simp [z])) q) st₁ he₇ (k7 _ _ hne ht₄) fun b o hb q => k7 b o hb (hk₄ b o hb q)⟩))
theorem next_enum_zip {c : Int} {old : Value} {Q : Option Value → Shared → Prop} (S : ZipSep2 z TI TO i1 i2 fp1 fp2) (hT1 : TI ∉ fp1) (hT2 : TI ∉ fp2) (D1 : ∀ A, A.handled = none → Draws prog w A i1 fp1 n1 P1 St1) (D2 : ∀ A, A.handled = none → Draws prog w A i2 fp2 n2 P2 St2) (hh : A.handled = none)
    (he : IsEnum s.heap e z c old) (st : ZSt z TI TO i1 i2 St1 St2 i s.heap) (h1 : i < n1) (h2 : i < n2) (hef : e ∉ z :: TI :: TO :: (fp1 ++ fp2))
    (hQ : ∀ x1 x2 h₁ h' tk, P1 i x1 → P2 i x2 → IsTupOf2 h₁ s.heap.objs.size x1 x2 → h₁.objs.size = s.heap.objs.size + 1 → (∀ b o, b ∉ [z, TI, TO, i1, i2] → s.heap.get? b = some o → h₁.get? b = some o) → ZSt z TI TO i1 i2 St1 St2 (i + 1) h₁ →
      IsEnumOut h' e z (c + 1) (.ref s.heap.objs.size) (s.heap.objs.size + 1) → h'.get? (s.heap.objs.size + 1) = some { cls := .type "tuple", data := .seq #[.int c tk, .ref s.heap.objs.size] } → (∀ b o, b ≠ e → h₁.get? b = some o → h'.get? b = some o) → Q (some (.ref (s.heap.objs.size + 1))) { s with heap := h', toks := tk + 1 }) :
    wpAny (model prog w) A (pyNext (.ref e)) Q E s := by
  have hT : s.TypeIs (.ref e) "enumerate" := ⟨_, he, rfl⟩
  unfold pyNext
  exact wpAny_bind (wpAny_attempt (wpAny_callSpecial?_slot (name := Str.ofString "__next__") hT F.slot_enumerate_next
    (wpAny_call_entry F.slot_enumerate_next hT F.entry_enumerate_next
      (enum_zip_item S hT1 hT2 D1 D2 hh he st h1 h2 hef fun x1 x2 a b tk c1 c2 c3 c4 c5 c6 c7 c8 c9 => wpAny_pure (hQ x1 x2 a b tk c1 c2 c3 c4 c5 c6 c7 c8 c9)) (F.args_enumerate_next_1 _))))
theorem next_enum_zip_end {c : Int} {old : Value} {Q : Option Value → Shared → Prop} (S : ZipSep2 z TI TO i1 i2 fp1 fp2) (D1 : ∀ A, A.handled = none → Draws prog w A i1 fp1 n1 P1 St1) (D2 : ∀ A, A.handled = none → Draws prog w A i2 fp2 n2 P2 St2) (hh : A.handled = none)
    (he : IsEnum s.heap e z c old) (st : ZSt z TI TO i1 i2 St1 St2 i s.heap) (h1 : i ≤ n1) (h2 : i ≤ n2) (hend : i = n1 ∨ i = n2)
    (hQ : ∀ h' tk, (∀ b o, b ∉ [z, TI, TO, i1, i2] → s.heap.get? b = some o → h'.get? b = some o) → Q none { s with heap := h', toks := tk }) : wpAny (model prog w) A (pyNext (.ref e)) Q E s := by
  have hT : s.TypeIs (.ref e) "enumerate" := ⟨_, he, rfl⟩
  unfold pyNext
  refine wpAny_bind (wpAny_attempt (wpAny_callSpecial?_slot (name := Str.ofString "__next__") hT F.slot_enumerate_next
    (wpAny_call_entry F.slot_enumerate_next hT F.entry_enumerate_next ?_ (F.args_enumerate_next_1 _))))
  show wpAny _ _ (field (.ref e) 2 >>= _) _ _ _
  refine wpAny_bind (wpAny_field he rfl (x := .ref z) rfl ?_)
  refine wpAny_bind (nextOf_zip_end S D1 D2 hh st h1 h2 hend fun h' tk x hk hx => ?_)
  obtain ⟨o, ho, hc⟩ := hx
  refine wpAny_bind (wpAny_isInstance (T := "StopIteration") (b := true) ⟨o, ho, hc⟩ isSubtype_stop ?_)
  exact wpAny_pure (hQ _ _ fun b o hb q => hk b o (fun z => hb (by simp [z])) (fun z => hb (by simp [z])) (fun z => hb (by simp [z])) (fun z => hb (by simp [z])) q)
end
/-- the numbers and the pairs of two rows of signs -/
def Iez (xs ys : List V) : It :=
  ⟨fun i _ => i < xs.length ∧ i < ys.length, fun i H v H' => ∃ T U x y, v = .ref U ∧ H T = none ∧ H U = none ∧ U ≠ T ∧ H' = upd (upd H T (.tup [x, y])) U (.tup [.int (i : Nat), .ref T]) ∧ xs[i]? = some x ∧ ys[i]? = some y, fun i _ => i = xs.length ∧ i ≤ ys.length ∨ i = ys.length ∧ i ≤ xs.length⟩
theorem turn_enumZip {P : Program} {w : World} {K : PySem.W.Frag} {elts : List Expr} {kk : Nat} {tpos : Pos} {z TI TO i1 i2 e : Addr} {P1 P2 : Nat → Value → Prop} {St1 St2 : Nat → Heap → Prop} {xs ys : List V} (S : ZipSep2 z TI TO i1 i2 [i1] [i2])
    (D1 : ∀ A, A.handled = none → Draws P w A i1 [i1] xs.length P1 St1) (D2 : ∀ A, A.handled = none → Draws P w A i2 [i2] ys.length P2 St2) (hp1 : ∀ i v, P1 i v → ∃ x, xs[i]? = some x ∧ L2.RelV x v) (hp2 : ∀ i v, P2 i v → ∃ x, ys[i]? = some x ∧ L2.RelV x v)
    (o1 : ∀ i h, St1 i h → ∃ o, h.get? i1 = some o ∧ ∀ v, o.data ≠ .cell v) (o2 : ∀ i h, St2 i h → ∃ o, h.get? i2 = some o ∧ ∀ v, o.data ≠ .cell v) (hef : e ∉ [z, TI, TO, i1, i2]) :
    Turn P w K (.Tuple elts kk tpos) (Iez xs ys) [e, z, TI, TO, i1, i2] e (fun i h => (∃ old, IsEnum h e z ((i : Nat) : Int) old) ∧ ZSt z TI TO i1 i2 St1 St2 i h) where
  mem := by simp
  obj := fun i h st b hb => by
    obtain ⟨⟨old, he⟩, ⟨x, f, hz, _⟩, hTI, ⟨a1, a2, hTO⟩, st1, st2⟩ := st
    have e' : b = e ∨ b = z ∨ b = TI ∨ b = TO ∨ b = i1 ∨ b = i2 := by simpa using hb
    rcases e' with q | q | q | q | q | q
    · rw [q]; exact ⟨_, he, fun v q => nomatch q⟩
    · rw [q]; exact ⟨_, hz, fun v q => nomatch q⟩
    · rw [q]; exact ⟨_, hTI, fun v q => nomatch q⟩
    · rw [q]; exact ⟨_, hTO, fun v q => nomatch q⟩
    · rw [q]; exact o1 i h st1
    · rw [q]; exact o2 i h st2
  keep := fun i h h' st k => by
    obtain ⟨⟨old, he⟩, ⟨x, f, hz, hx⟩, hTI, ⟨a1, a2, hTO⟩, st1, st2⟩ := st
    refine ⟨⟨old, k e (by simp) _ he⟩, ⟨x, f, k z (by simp) _ hz, hx⟩, k TI (by simp) _ hTI, ⟨a1, a2, k TO (by simp) _ hTO⟩, (D1 ({} : Around) rfl).frame _ _ _ st1 fun b hb o q => k b ?_ o q, (D2 ({} : Around) rfl).frame _ _ _ st2 fun b hb o q => k b ?_ o q⟩
    · rw [List.mem_singleton.mp hb]; simp
    · rw [List.mem_singleton.mp hb]; simp
  item := by
    intro X hP hw hK hc i pins s σ H E I hf st hg
    subst hP hw hK
    obtain ⟨⟨old, he⟩, st⟩ := st
    have hef' : e ∉ z :: TI :: TO :: ([i1] ++ [i2]) := hef
    have hel : e < s.heap.objs.size := Heap.lt_size he
    refine next_enum_zip S (by simp [S.TIi1]) (by simp [S.TIi2]) D1 D2 (I.ok.hd hc) he st hg.1 hg.2 hef' fun x1 x2 h₁ h' tk p1 p2 hT hsz hk₁ st₁ ho hU hk => ?_
    refine ⟨_, rfl, wpAny_letOwnedTupleGo_enum (s := { s with heap := h', toks := tk + 1 }) ho fun h'' he' sb => ?_⟩
    obtain ⟨x, ex, rx⟩ := hp1 _ _ p1
    obtain ⟨y, ey, ry⟩ := hp2 _ _ p2
    have hN := I.hok.fresh (Nat.le_refl s.heap.objs.size)
    have hfz : ∀ b ∈ [z, TI, TO, i1, i2], FpOk X pins H b := fun b hb => hf b (List.mem_cons_of_mem _ hb)
    have new1 : ObjOk X.prog X.w (upd H s.heap.objs.size (.tup [x, y])) h₁ s.heap.objs.size (.tup [x, y]) := ⟨by show 2 ≤ sizeLine; decide, [x1, x2], .cons rx (.cons ry .nil), ⟨_, hT, rfl, _, rfl⟩⟩
    have I1 : L2.Inv X pins σ (upd H s.heap.objs.size (.tup [x, y])) { s with heap := h₁, toks := tk } := I.turnedNew (t' := tk) (ch := [z, TI, TO, i1, i2]) hk₁ hfz (Nat.le_refl _) new1
    have hN1 : upd H s.heap.objs.size (.tup [x, y]) (s.heap.objs.size + 1) = none := by
      rw [upd_ne (Nat.succ_ne_self _)]
      exact I.hok.fresh (Nat.le_succ _)
    have hlt : ∀ b ∈ [e, z, TI, TO, i1, i2], b < s.heap.objs.size := fun b hb => by
      obtain ⟨⟨vx, vf, hz, _⟩, hTI, ⟨a1, a2, hTO⟩, st1, st2⟩ := st
      have e' : b = e ∨ b = z ∨ b = TI ∨ b = TO ∨ b = i1 ∨ b = i2 := by simpa using hb
      rcases e' with q | q | q | q | q | q
      · rw [q]; exact hel
      · rw [q]; exact Heap.lt_size hz
      · rw [q]; exact Heap.lt_size hTI
      · rw [q]; exact Heap.lt_size hTO
      · rw [q]; obtain ⟨_, e1, _⟩ := o1 _ _ st1; exact Heap.lt_size e1
      · rw [q]; obtain ⟨_, e1, _⟩ := o2 _ _ st2; exact Heap.lt_size e1
    have fE : FpOk X pins (upd H s.heap.objs.size (.tup [x, y])) e := by
      obtain ⟨q1, q2⟩ := hf e (by simp)
      exact ⟨by rw [upd_ne (Nat.ne_of_lt hel)]; exact q1, q2⟩
    have hk2 : ∀ b o, b ≠ e → h₁.get? b = some o → h''.get? b = some o := fun b o hb q => sb.extBut b o hb (hk b o hb q)
    have hU2 : h''.get? (s.heap.objs.size + 1) = some { cls := .type "tuple", data := .seq #[.int (i : Nat) tk, .ref s.heap.objs.size] } := sb.extBut _ _ (Nat.ne_of_gt (Nat.lt_succ_of_lt hel)) hU
    have new2 : ObjOk X.prog X.w (upd (upd H s.heap.objs.size (.tup [x, y])) (s.heap.objs.size + 1) (.tup [.int (i : Nat), .ref s.heap.objs.size])) h'' (s.heap.objs.size + 1) (.tup [.int (i : Nat), .ref s.heap.objs.size]) :=
      ⟨by show 2 ≤ sizeLine; decide, [.int i tk, .ref s.heap.objs.size], .cons ⟨_, rfl⟩ (.cons (show L2.RelV (.ref s.heap.objs.size) (.ref s.heap.objs.size) from rfl) .nil), ⟨_, hU2, rfl, _, rfl⟩⟩
    have I2 : L2.Inv X pins σ (upd (upd H s.heap.objs.size (.tup [x, y])) (s.heap.objs.size + 1) (.tup [.int (i : Nat), .ref s.heap.objs.size])) { s with heap := h'', toks := tk + 1 } :=
      I1.turnedNew (t' := tk + 1) (ch := [e]) (fun b o hb q => hk2 b o (fun z => hb (by simp [z])) q) (fun b hb => by rw [List.mem_singleton.mp hb]; exact fE) (by show h₁.objs.size ≤ _; rw [hsz]; exact Nat.le_refl _) new2
    refine ⟨.ref (s.heap.objs.size + 1), _, I2, rfl, ⟨s.heap.objs.size, s.heap.objs.size + 1, x, y, rfl, hN, I.hok.fresh (Nat.le_succ _), Nat.succ_ne_self _, rfl, ex, ey⟩, ⟨⟨.ref s.heap.objs.size, ?_⟩, st₁.frame (D1 X.A (I.ok.hd hc)) (D2 X.A (I.ok.hd hc)) fun b hb o q => hk2 b o (fun z => hef' (by rw [← z]; exact hb)) q⟩, fun b hb => ?_⟩
    · have e1 : ((i + 1 : Nat) : Int) = (i : Int) + 1 := by omega
      rw [e1]
      exact he'
    · have := hlt b hb
      rw [upd_ne (Nat.ne_of_lt (Nat.lt_succ_of_lt this)), upd_ne (Nat.ne_of_lt this)]
      exact (hf b hb).1
  done := by
    intro X hP hw hK hc i pins s σ H E I hf st hg
    subst hP hw hK
    obtain ⟨⟨old, he⟩, st⟩ := st
    have hle : i ≤ xs.length ∧ i ≤ ys.length ∧ (i = xs.length ∨ i = ys.length) := by
      rcases hg with ⟨h1, h2⟩ | ⟨h1, h2⟩ <;> omega
    exact next_enum_zip_end S D1 D2 (I.ok.hd hc) he st hle.1 hle.2.1 hle.2.2 fun h' tk hk => ⟨rfl, I.turnedL (t' := tk) (ch := [z, TI, TO, i1, i2]) hk fun b hb => hf b (List.mem_cons_of_mem _ hb)⟩
  self := fun A i s Q E st h => let ⟨⟨_, he⟩, _⟩ := st; wpAny_pyIter_enum he h
end Zx

/-! Zx5: the rule of for k, pair in enumerate(zip(text, text)). -/
namespace Zx
open PySem L2 PyProof.Rows
def iEnumZip (ta : TA) : TI := fun σ H R => ta σ H fun vs H1 => ∃ a b : Str, vs = [.str a, .str b] ∧ R (Iez (signV a) (signV b)) H1
section
variable {X : Cx} {e e2 : Expr} {ta : TA} {p pos p2 pos2 tpos : Pos} {elts : List Expr} {kk : Nat}
theorem str_cell {it : Addr} {ty : String} {x : Str} {t : Tok} {i : Nat} {h : Heap} (q : h.IsStrIter it ty x t i) : ∃ o, h.get? it = some o ∧ ∀ v, o.data ≠ .cell v := by
  obtain ⟨o, e, c, d⟩ := q
  exact ⟨o, e, fun v z => by rw [d] at z; cases z⟩
/-- an expression that makes a zip of two texts -/
def PZt (X : Cx) (e : Expr) (ta : TA) : Prop :=
  ∀ (pins : List (Addr × Obj)) (s : Shared) (σ : L2.St) (H : Hp) (Q : Str → Str → Hp → Prop), L2.Inv X pins σ H s → ta σ H (fun vs H1 => ∃ a b : Str, vs = [.str a, .str b] ∧ Q a b H1) →
    wpAny (model X.prog X.w) X.A (eval e X.env) (fun u s' => ∃ (z TI TO i1 i2 : Addr) (a b : Str) (t1 t2 : Tok) (H' : Hp), u = .ref z ∧ L2.Inv X pins σ H' s' ∧ ZipSep2 z TI TO i1 i2 [i1] [i2] ∧
      ZSt z TI TO i1 i2 (fun i h => h.IsStrIter i1 (strIterType a) a t1 i) (fun i h => h.IsStrIter i2 (strIterType b) b t2 i) 0 s'.heap ∧ (∀ c ∈ [z, TI, TO, i1, i2], FpOk X pins H' c ∧ c < s'.heap.objs.size) ∧ Q a b H') X.xe s
theorem pzt (hg : Gl X "zip") (hm : X.mg "zip" = none) (ha : PA X [e, e2] ta) (hs : starEach [e, e2] X.env = (false, eval e X.env) :: starEach [e2] X.env := by rfl) (hpl : (backTo pos (starEach [e2] X.env)).any (·.1) = false := by rfl) : PZt X (.Call (.Name "zip" p) [e, e2] [] pos) ta := by
  intro pins s σ H Q I h
  refine Call_ (ld_blt I hg hm PyProof.Rows.boot_zip (PyProof.Rows.callWith_type1 (thn (ha.run pos pins s σ H _ I h) fun us s1 ⟨vs, H1, I1, r1, q1⟩ => ?_) hs hpl))
  obtain ⟨a, b, rfl, q⟩ := q1
  cases r1 with
  | @cons _ u1 _ _ ra rb =>
    cases rb with
    | @cons _ u2 _ _ rb rc =>
      cases rc
      obtain ⟨t1, rfl⟩ := ra
      obtain ⟨t2, rfl⟩ := rb
      refine zip_begins2 (begins_text a t1) (begins_text b t2) trivial trivial fun h' hz hTI hTO e1 e2 hsz hk => ?_
      have I2 : L2.Inv X pins σ H1 { s1 with heap := h' } := I1.kept (t' := s1.toks) hk
      refine ⟨s1.heap.objs.size + 4, s1.heap.objs.size + 2, s1.heap.objs.size + 3, s1.heap.objs.size, s1.heap.objs.size + 1, a, b, t1, t2, H1, rfl, I2, zip_sep2 (by simp) (by simp), ZSt.new hz hTI ⟨_, _, hTO⟩ ⟨_, e1, rfl, rfl⟩ ⟨_, e2, rfl, rfl⟩, fun c hc => ?_, q⟩
      have e' : c = s1.heap.objs.size + 4 ∨ c = s1.heap.objs.size + 2 ∨ c = s1.heap.objs.size + 3 ∨ c = s1.heap.objs.size ∨ c = s1.heap.objs.size + 1 := by simpa using hc
      have hle : s1.heap.objs.size ≤ c := by
        rcases e' with z | z | z | z | z
        · rw [z]; exact Nat.le_add_right _ _
        · rw [z]; exact Nat.le_add_right _ _
        · rw [z]; exact Nat.le_add_right _ _
        · rw [z]; exact Nat.le_refl _
        · rw [z]; exact Nat.le_add_right _ _
      refine ⟨I1.fpOk hle (I1.hok.fresh hle), ?_⟩
      show (c : Nat) < h'.objs.size
      rw [hsz]
      rcases e' with q | q | q | q | q
      · rw [q]; show (s1.heap.objs.size + 4 : Nat) < s1.heap.objs.size + 5; omega
      · rw [q]; show (s1.heap.objs.size + 2 : Nat) < s1.heap.objs.size + 5; omega
      · rw [q]; show (s1.heap.objs.size + 3 : Nat) < s1.heap.objs.size + 5; omega
      · rw [q]; show (s1.heap.objs.size : Nat) < s1.heap.objs.size + 5; omega
      · rw [q]; show (s1.heap.objs.size + 1 : Nat) < s1.heap.objs.size + 5; omega
theorem pi_enumZip (hg : Gl X "enumerate") (hm : X.mg "enumerate" = none) (he : PZt X e ta) (na : starEach [e] X.env = (false, eval e X.env) :: starEach [] X.env := by rfl) :
    PI X (.Tuple elts kk tpos) (.Call (.Name "enumerate" p) [e] [] pos) (iEnumZip ta) := by
  refine ⟨fun pins s σ H R I h => ?_⟩
  refine Call_ (ld_blt I hg hm boot_enumerate (PyProof.Rows.callWith_type1 (args_cons (thn (he pins s σ H (fun a b H1 => R (Iez (signV a) (signV b)) H1) I h) fun x s1 hx => args_nil ?_) na) na))
  obtain ⟨z, TI, TO, i1, i2, a, b, t1, t2, H1, rfl, I1, S, st, hf, q⟩ := hx
  obtain ⟨vx, vf, hz, _⟩ := id st.1
  refine call_enumerate_zip hz fun h' he' hsz hk => wpAny_pyIter_enum he' ?_
  have I2 : L2.Inv X pins σ H1 { s1 with heap := h' } := I1.kept (t' := s1.toks) hk
  have la : (signV a).length = a.cps.size := by simp [signV]
  have lb : (signV b).length = b.cps.size := by simp [signV]
  have rel : ∀ (z : Str) (i : Nat) (v : Value), (∃ c u, z.cps[i]? = some c ∧ v = .str ⟨#[c]⟩ u) → ∃ x, (signV z)[i]? = some x ∧ L2.RelV x v := fun z i v ⟨c, u, e, e2⟩ => by
    subst e2
    refine ⟨.str ⟨#[c]⟩, ?_, u, rfl⟩
    have e' : z.cps.toList[i]? = some c := by simpa using e
    simp [signV, e']
  have hef : s1.heap.objs.size ∉ [z, TI, TO, i1, i2] := fun hm => Nat.lt_irrefl _ (hf _ hm).2
  refine ⟨s1.heap.objs.size, [s1.heap.objs.size, z, TI, TO, i1, i2], _, _, H1, rfl, I2, turn_enumZip (P1 := fun i v => ∃ c u, a.cps[i]? = some c ∧ v = .str ⟨#[c]⟩ u) (P2 := fun i v => ∃ c u, b.cps[i]? = some c ∧ v = .str ⟨#[c]⟩ u) S (fun A hh => by rw [la]; exact Draws.text hh i1 a t1) (fun A hh => by rw [lb]; exact Draws.text hh i2 b t2) (rel a) (rel b) (fun i h q => str_cell q) (fun i h q => str_cell q) hef, ⟨⟨.none, he'⟩, ?_⟩, fun c hc => ?_, q⟩
  · obtain ⟨⟨x, f, hz, hx⟩, hTI, ⟨a1, a2, hTO⟩, ⟨o1, q1, r1⟩, ⟨o2, q2, r2⟩⟩ := st
    exact ⟨⟨x, f, hk _ _ hz, hx⟩, hk _ _ hTI, ⟨a1, a2, hk _ _ hTO⟩, ⟨o1, hk _ _ q1, r1⟩, ⟨o2, hk _ _ q2, r2⟩⟩
  · rcases List.mem_cons.mp hc with q | q
    · rw [q]; exact I1.fpOk (Nat.le_refl _) (I1.hok.fresh (Nat.le_refl _))
    · exact (hf c q).1
end
end Zx

/-! Zx6: xs[a:b:c]; s.ljust(n, sign). -/
namespace Zx
open PySem L2 PyProof.Rows
/-- the places of a slice -/
def places (n : Nat) (lo hi st : Option Int) : List Nat := sliceRange (sliceBounds lo hi st n).1 (sliceBounds lo hi st n).2.1 (sliceBounds lo hi st n).2.2
def pick {α : Type} (xs : List α) (lo hi st : Option Int) : List α := (places xs.length lo hi st).filterMap fun i => xs[i]?
theorem vals_pick {xs : List V} {us : List Value} (h : Vals xs us) : ∀ π : List Nat, Vals (π.filterMap fun i => xs[i]?) (π.filterMap fun i => us[i]?)
  | [] => .nil
  | i :: π => by
    rw [List.filterMap_cons, List.filterMap_cons]
    have hl := h.length
    cases q : xs[i]? with
    | none =>
      have q2 : us[i]? = none := by
        rw [List.getElem?_eq_none_iff] at q ⊢
        omega
      rw [q2]
      exact vals_pick h π
    | some x =>
      obtain ⟨u, e, r⟩ := h.get q
      rw [e]
      exact .cons r (vals_pick h π)
theorem pick_arr (its : List Value) (lo hi st : Option Int) : slicePick its.toArray lo hi st = (pick its lo hi st).toArray := by
  unfold slicePick pick places
  rw [List.size_toArray]
  congr 2
  funext i
  simp
def tSlS (K : PySem.W.Frag) (te : TE) (tl th ts : TO) : TE := fun σ H Q => te σ H fun x H1 => tl σ H1 fun l H2 => th σ H2 fun u H3 => ts σ H3 fun o H4 => ∃ a xs c, x = .ref a ∧ o = some c ∧ c ≠ 0 ∧ SqL K H4 a xs ∧ (pick xs l u (some c)).length ≤ sizeLine ∧ ∀ p, H4 p = none → Q (.ref p) (upd H4 p (.lst (pick xs l u (some c))))
section
variable {X : Cx}
theorem pe_slS {e st : Expr} {lo hi : Option Expr} {te : TE} {tl th ts : TO} {p3 pos : Pos} (he : PE X e te) (hl : PO X lo tl) (hu : PO X hi th) (hst : PO X (some st) ts)
    (htail : ∀ (a b : Addr), subscripted (.Slice lo hi (some st) p3) false (.ref a) (.ref b) = operate [.ref a, .ref b] (getItem (.ref a) (.ref b)) := by intros; with_unfolding_all rfl) : PE X (.Subscript e (.Slice lo hi (some st) p3) pos) (tSlS X.K te tl th ts) := by
  refine ⟨fun pins s σ H Q I h => ?_⟩
  refine Subscript_ (thn (he.run pins s σ H _ I h) fun v s1 ⟨x, H1, I1, r1, q1⟩ => ?_)
  refine wpAny_Slice (thn (hl.run pins s1 σ H1 _ I1 q1) fun vl s2 ⟨l, H2, I2, pl, q2⟩ => ?_)
  refine thn (hu.run pins s2 σ H2 _ I2 q2) fun vu s3 ⟨u, H3, I3, pu, q3⟩ => ?_
  refine thn (hst.run pins s3 σ H3 _ I3 q3) fun vs s4 ⟨o, H4, I4, ps, q4⟩ => ?_
  obtain ⟨a, xs, c, ex, eo, hc, hx, hz2, q⟩ := q4
  subst ex eo
  cases r1
  have I5 : L2.Inv X pins σ H4 { s4 with heap := s4.heap.push { cls := .type "slice", data := .fields #[vl, vu, vs] } } := I4.kept (t' := s4.toks) fun b ob q => Heap.get?_push_of_some _ q
  obtain ⟨its, r, ht, hz⟩ := I5.list hx
  have hlen := r.length
  show wpAny (model X.prog X.w) X.A (subscriptTail e (.Slice lo hi (some st) p3) (.ref a) (.ref s4.heap.objs.size)) (EP X pins σ Q) X.xe { s4 with heap := s4.heap.push { cls := .type "slice", data := .fields #[vl, vu, vs] } }
  refine tail_any (ops := [.ref a, .ref s4.heap.objs.size]) ht.isList.typeIs (PySem.slot_list_getitem.lookup) ?_ (by first | exact htail _ _ | with_unfolding_all rfl)
  refine wpAny_getItem_list_slice ht.isList (Heap.IsSliceOf.new _ vl vu vs) pl pu ps (by simpa using hc) ?_ (by rw [List.size_toArray]; omega)
  rw [pick_arr]
  have rp : Vals (pick xs l u (some c)) (pick its l u (some c)) := by
    unfold pick
    rw [hlen]
    exact vals_pick r _
  refine ⟨.ref _, _, I5.laid (t' := s4.toks) (o := .lst (pick xs l u (some c))) (fun b ob q => Heap.get?_push_of_some _ q) (Nat.le_refl _) ?_, rfl, q _ (I5.hok.fresh (Nat.le_refl _))⟩
  exact ⟨hz2, _, 0, rp, Heap.get?_push_size _ rfl⟩
/-- s.ljust(n, sign) -/
def rLjF : V → List V → Hp → VK → Prop := fun x xs H Q => ∃ (a f : Str) (i : Int), x = .str a ∧ xs = [.int i, .str f] ∧ PadOk i = true ∧ f.length = 1 ∧ Q (.str (Txt.ljustF a i (f.cps.getD 0 0))) H
theorem mt_ljustF : MtR X "str.ljust" rLjF := by
  intro pins s σ H x xs v us Q I rx rs h
  obtain ⟨a, f, i, rfl, rfl, hp, hf, h⟩ := h
  obtain ⟨t, rfl⟩ := rx
  cases rs with
  | cons r1 rs =>
    cases rs with
    | cons r2 rs =>
      cases rs
      obtain ⟨u, rfl⟩ := r1
      obtain ⟨u2, rfl⟩ := r2
      exact ljust_fill hp hf fun t' k => ⟨.str (Txt.ljustF a i (f.cps.getD 0 0)), H, I.tok k, ⟨t', rfl⟩, h⟩
end
end Zx

/-! Zx7: for c in reversed(text). -/
namespace Zx
open PySem PySem.Spec L2 PyProof.Rows
theorem rv_none : typeLookup (.type "str") "__reversed__" = pure none := by
  rw [typeLookup_type, builtinLookup_eq_fast]
  kernel_rfl
theorem rv_item : typeLookup (.type "str") "__getitem__" = pure (some (.builtin "str.__getitem__")) := by
  rw [typeLookup_type, builtinLookup_eq_fast]
  kernel_rfl
theorem rv_sub : isSubtype (.type "str") (.type "dict") = pure false := by
  rw [isSubtype_type]
  kernel_rfl
/-- a reversed text z: the next place is i -/
def IsRz (h : Heap) (a : Addr) (z : Str) (t : Tok) (i : Int) : Prop := ∃ o, h.get? a = some o ∧ o.cls = .type "reversed" ∧ o.data = .fields #[.str z t, rawInt i]
section
variable {prog : Program} {w : World} {A : Around} {E : Value → Shared → Prop} {s : Shared} {z : Str} {t : Tok} {a : Addr}
theorem IsRz.ty {i : Int} (x : IsRz s.heap a z t i) : s.TypeIs (.ref a) "reversed" := let ⟨o, h1, h2, _⟩ := x; ⟨o, h1, h2⟩
theorem IsRz.keep {i : Int} {h h' : Heap} (x : IsRz h a z t i) (e : ∀ o, h.get? a = some o → h'.get? a = some o) : IsRz h' a z t i := let ⟨o, h1, r⟩ := x; ⟨o, e _ h1, r⟩
theorem rz_code {Q1 : Value → Shared → Prop} (hz : (z.length : Int) < 2 ^ 63)
    (h : ∀ tk, Q1 (.ref s.heap.objs.size) { s with heap := s.heap.push { cls := .type "reversed", data := .fields #[.str z t, rawInt ((z.length : Int) - 1)] }, toks := tk }) :
    codeAny (model prog w) A (.call (.builtin "reversed.__new__") ⟨[.type "reversed", .str z t], []⟩) (wants Q1 E) s := by
  have hT : s.TypeIs (.str z t) "str" := typeIs_str s z t
  refine codeAny_of_tree ?_
  show wpAny _ A.in1 (do checkBuiltinCall "reversed.__new__" ⟨[.type "reversed", .str z t], []⟩; again (.builtin "reversed.__new__" ⟨[.type "reversed", .str z t], []⟩)) _ _ s
  refine wpAny_bind (wpAny_of_eq (F.newCall_reversed_1 _) (wpAny_pure ⟨plainId_quiet F.plain_reversed_new _, codeAny_builtin F.entry_reversed_new ?_⟩))
  rw [Around.under_plainId F.plain_reversed_new _]
  unfold Builtin.«reversed.__new__»
  refine wpAny_bind (wpAny_of_eq (newClass_reversed _) ?_)
  try dsimp only
  refine wpAny_bind (wpAny_of_eq (a := ()) (by first | rfl | kernel_rfl) ?_)
  try dsimp only
  refine wpAny_bind (wpAny_of_eq (a := ()) (by first | rfl | kernel_rfl) ?_)
  try dsimp only
  refine wpAny_bind (wpAny_specialOf hT rv_none ?_)
  try dsimp only
  refine wpAny_bind ?_
  wp_delta
  refine wpAny_bind (wpAny_isInstance (T := "str") (U := "dict") (b := false) hT rv_sub ?_)
  try dsimp only
  try rw [if_neg Bool.false_ne_true]
  try dsimp only
  refine wpAny_bind (wpAny_specialOf hT rv_item ?_)
  try dsimp only
  try rw [if_pos (by decide +kernel)]
  refine wpAny_pure ?_
  try dsimp only
  try rw [if_neg (by decide)]
  try dsimp only
  refine wpAny_bind (len_str (by omega) ?_)
  refine wpAny_bind (wpAny_of_eq (a := some ((z.length : Nat) : Int)) rfl ?_)
  try dsimp only
  refine wpAny_bind ?_
  show wpAny _ _ (newObj (.type "reversed") (.fields #[.str z t, rawInt ((z.length : Int) - 1)])) _ _ _
  refine wpAny_newObj_type ?_
  exact wpAny_pure (h _)
theorem rz_call {Q : Value → Shared → Prop} (hz : (z.length : Int) < 2 ^ 63)
    (h : ∀ tk, Q (.ref s.heap.objs.size) { s with heap := s.heap.push { cls := .type "reversed", data := .fields #[.str z t, rawInt ((z.length : Int) - 1)] }, toks := tk }) : wpAny (model prog w) A (call (.type "reversed") [.str z t]) Q E s := by
  refine callType_codes (Q₁ := fun obj s₁ => s₁.TypeIs obj "reversed" ∧ Q obj s₁) RT.called_rt (F.typeCall_reversed_1 _) F.entry_object_init (rz_code (A := A.in1) hz fun tk => ⟨⟨_, Heap.get?_push_size _ rfl, rfl⟩, h tk⟩) fun obj s₁ g => ?_
  exact ⟨g.1, F.args_object_init_2 obj _, object_init_meets RT.called_rt.init.lookup RT.called_rt.made (by decide) prog w A.in1 _ s₁ ⟨g.1, rfl, g.2⟩⟩
theorem rz_next {i c : Nat} {Q : Option Value → Shared → Prop} (hit : IsRz s.heap a z t (i : Int)) (hc : z.cps[i]? = some c) (hz : (z.length : Int) < 2 ^ 63)
    (h : ∀ h' tk u, IsRz h' a z t ((i : Int) - 1) → Heap.SameBut a s.heap h' → Q (some (.str ⟨#[c]⟩ u)) { s with heap := h', toks := tk }) : wpAny (model prog w) A (pyNext (.ref a)) Q E s := by
  obtain ⟨o, ho, hcl, hd⟩ := id hit
  have hi : i < z.length := (Array.getElem?_eq_some_iff.mp hc).1
  have hT : s.TypeIs (.str z t) "str" := typeIs_str s z t
  unfold pyNext
  refine wpAny_bind (wpAny_attempt (wpAny_callSpecial?_slot (name := Str.ofString "__next__") hit.ty RT.slot_rt_next
    (wpAny_call_entry RT.slot_rt_next hit.ty RT.entry_rt_next ?_ (RT.args_rt_next _))))
  unfold Builtin.«reversed.__next__»
  refine wpAny_bind (wpAny_of_eq (a := (Value.ref a, [])) rfl ?_)
  try dsimp only
  refine wpAny_bind (wpAny_field ho hd (x := .str z t) rfl ?_)
  try dsimp only
  refine wpAny_bind (wpAny_field ho hd (x := rawInt (i : Int)) rfl ?_)
  show wpAny _ _ (if (i : Int) < 0 then _ else _) _ _ s
  rw [if_neg (by omega)]
  try dsimp only
  refine wpAny_bind (wpAny_specialOf hT rv_item ?_)
  try dsimp only
  try rw [if_neg (by decide)]
  try dsimp only
  refine wpAny_bind (wpAny_mkInt ?_)
  refine wpAny_bind (wpAny_attempt ?_)
  refine PyProof.Rows.getItem_str (c := c) (by rw [decide_eq_false (by omega), decide_eq_false (by omega)]; rfl) (by rw [show seqIndex? (i : Int) z.length = some i from seqIndex_of (by omega) (by omega)]; exact hc) ?_
  try dsimp only
  refine wpAny_bind (wpAny_field (s := { s with toks := s.toks + 1 + 1 }) ho hd (x := rawInt (i : Int)) rfl ?_)
  try dsimp only
  refine wpAny_bind (wpAny_setField (s := { s with toks := s.toks + 1 + 1 }) ho hd (by simp) ?_)
  have hst : IsRz (s.heap.update a (Obj.mapFields (·.setIfInBounds 1 (rawInt ((i : Int) - 1))))) a z t ((i : Int) - 1) := ⟨_, Heap.get?_update_self _ ho (Obj.isFreed_of_fields (Obj.data_mapFields hd _)), (Obj.cls_mapFields ..).trans hcl, by
    rw [Obj.data_mapFields hd]
    simp⟩
  first
  | exact wpAny_pure ⟨_, rfl, wpAny_pure (h _ _ _ hst (Heap.SameBut.update ..))⟩
  | exact wpAny_bind (wpAny_pure (wpAny_pure ⟨_, rfl, wpAny_pure (h _ _ _ hst (Heap.SameBut.update ..))⟩))
theorem rz_end {Q : Option Value → Shared → Prop} (hh : A.handled = none) (hit : IsRz s.heap a z t (-1)) (h : ∀ h', Heap.ExtBut a s.heap h' → Q none { s with heap := h' }) : wpAny (model prog w) A (pyNext (.ref a)) Q E s := by
  obtain ⟨o, ho, hcl, hd⟩ := id hit
  unfold pyNext
  refine wpAny_bind (wpAny_attempt (wpAny_callSpecial?_slot (name := Str.ofString "__next__") hit.ty RT.slot_rt_next
    (wpAny_call_entry RT.slot_rt_next hit.ty RT.entry_rt_next ?_ (RT.args_rt_next _))))
  unfold Builtin.«reversed.__next__»
  refine wpAny_bind (wpAny_of_eq (a := (Value.ref a, [])) rfl ?_)
  try dsimp only
  refine wpAny_bind (wpAny_field ho hd (x := .str z t) rfl ?_)
  try dsimp only
  refine wpAny_bind (wpAny_field ho hd (x := rawInt (-1)) rfl ?_)
  show wpAny _ _ (if (-1 : Int) < 0 then _ else _) _ _ s
  rw [if_pos (by decide)]
  try dsimp only
  refine wpAny_bind (wpAny_rule ?_)
  refine wpAny_bind ?_
  wp_delta
  refine wpAny_bind (wpAny_setField ho hd (by simp) ?_)
  have ho2 := Heap.get?_update_self (Obj.mapFields (·.setIfInBounds 1 (rawInt (-1)))) ho (Obj.isFreed_of_fields (Obj.data_mapFields hd _))
  refine wpAny_setField (s := { s with heap := s.heap.update a (Obj.mapFields (·.setIfInBounds 1 (rawInt (-1)))) }) ho2 (Obj.data_mapFields hd _) (by simp) ?_
  try dsimp only
  first
  | show wpAny _ _ (newExc (.type "StopIteration") [] >>= _) _ _ _
  | (refine wpAny_bind ?_; show wpAny _ _ (newExc (.type "StopIteration") [] >>= _) _ _ _)
  | (refine wpAny_bind ?_; wp_delta; show wpAny _ _ (newExc (.type "StopIteration") [] >>= _) _ _ _)
  refine wpAny_bind ?_
  simp only [newExc, newTuple]
  refine wpAny_bind (wpAny_newObj_type ?_ (by size_fits))
  refine wpAny_bind (m := firstArgMember _ _) (wpAny_of_eq (a := Value.none) (by first | rfl | (simp only [firstArgMember]; rfl)) ?_)
  refine wpAny_newObj_type ?_ (by size_fits)
  simp only [raiseNew]
  refine wpAny_bind (wpAny_handled ?_)
  first | rw [show A.in1.handled = none from hh] | rw [hh]
  refine wpAny_bind (wpAny_pure (wpAny_throw ?_))
  refine wpAny_bind (wpAny_isInstance (T := "StopIteration") (b := true) ⟨_, Heap.get?_push_size _ rfl, rfl⟩ isSubtype_stop ?_)
  refine wpAny_pure (h _ (Heap.ExtBut.push (Heap.ExtBut.push ?_ _) _))
  exact fun b ob hb e => (Heap.get?_update_other _ _ (Ne.symm hb)).trans ((Heap.get?_update_other _ _ (Ne.symm hb)).trans e)
theorem rz_iter {i : Int} {Q : Value → Shared → Prop} (hit : IsRz s.heap a z t i) (h : Q (.ref a) s) : wpAny (model prog w) A (pyIter (.ref a)) Q E s := by
  refine wpAny_pyIter_slot hit.ty RT.slot_rt_iter (wpAny_call_entry RT.slot_rt_iter hit.ty RT.entry_rt_iter ?_ (RT.args_rt_iter _))
  show wpAny _ _ (ret (.ref a)) _ _ s
  exact wpAny_pure ⟨_, rfl, "reversed", _, hit.ty, RT.slot_rt_next.lookup, h⟩
end
/-- the walk over a text from its end -/
def Irz (z : Str) : It := ⟨fun i _ => i < z.cps.size, fun i H v H' => H' = H ∧ ∃ c, z.cps[z.cps.size - 1 - i]? = some c ∧ v = .str ⟨#[c]⟩, fun i _ => z.cps.size ≤ i⟩
theorem turn_rz {P : Program} {w : World} {K : PySem.W.Frag} {tg : Expr} (a : Addr) (z : Str) (t : Tok) (hz : (z.length : Int) < 2 ^ 63) : Turn P w K tg (Irz z) [a] a (fun i h => i ≤ z.cps.size ∧ IsRz h a z t ((z.cps.size : Int) - 1 - (i : Nat))) where
  mem := by simp
  obj := fun i h st b hb => by
    obtain rfl := List.mem_singleton.mp hb
    obtain ⟨_, o, e, c, d⟩ := st
    exact ⟨o, e, fun v y => by rw [d] at y; cases y⟩
  keep := fun i h h' st k => ⟨st.1, st.2.keep fun o e => k a (by simp) o e⟩
  item := by
    intro X hP hw hK hc i pins s σ H E I hf st hg
    subst hP hw hK
    obtain ⟨f0, f1, f2, f3, f4, f5⟩ := hf a (by simp)
    obtain ⟨_, hit⟩ := st
    have hg : i < z.cps.size := hg
    have e1 : (z.cps.size : Int) - 1 - ((i : Nat) : Int) = ((z.cps.size - 1 - i : Nat) : Int) := by omega
    rw [e1] at hit
    have hx : z.cps[z.cps.size - 1 - i]? = some z.cps[z.cps.size - 1 - i] := Array.getElem?_eq_getElem (by omega)
    refine rz_next hit hx hz fun h' tk u st' sb => ?_
    have e2 : ((z.cps.size - 1 - i : Nat) : Int) - 1 = (z.cps.size : Int) - 1 - ((i + 1 : Nat) : Int) := by omega
    rw [e2] at st'
    have I1 : L2.Inv X pins σ H { s with heap := h', toks := tk } := I.turned (t' := tk) (fun b o hb e => (sb.2 b hb).trans e) f0 f1 f3 f4 f5
    obtain ⟨o, e, c, d⟩ := id st'
    exact ⟨_, rfl, go_of (s := { s with heap := h', toks := tk }) e c d (by decide) ⟨.str ⟨#[z.cps[z.cps.size - 1 - i]]⟩, H, I1, ⟨u, rfl⟩, ⟨rfl, _, hx, rfl⟩, ⟨hg, st'⟩, fun b hb => (hf b hb).1⟩⟩
  done := by
    intro X hP hw hK hc i pins s σ H E I hf st hg
    subst hP hw hK
    obtain ⟨f0, f1, f2, f3, f4, f5⟩ := hf a (by simp)
    obtain ⟨hin, hit⟩ := st
    have hge : z.cps.size ≤ i := hg
    have e1 : (z.cps.size : Int) - 1 - ((i : Nat) : Int) = -1 := by omega
    rw [e1] at hit
    exact rz_end (I.ok.hd hc) hit fun h' eb => ⟨rfl, I.turned (t' := s.toks) (fun b o hb e => eb b o hb e) f0 f1 f3 f4 f5⟩
  self := fun A i s Q E st h => rz_iter st.2 h
def iRevS (te : TE) : TI := fun σ H R => te σ H fun v H1 => ∃ z, v = .str z ∧ z.length ≤ sizeLine ∧ R (Irz z) H1
section
variable {X : Cx} {tg : Expr}
theorem pi_revS {e : Expr} {te : TE} {p pos : Pos} (hg : Gl X "reversed") (hm : X.mg "reversed" = none) (he : PE X e te) (hs : starEach [e] X.env = (false, eval e X.env) :: starEach [] X.env := by rfl) : PI X tg (.Call (.Name "reversed" p) [e] [] pos) (iRevS te) := by
  refine ⟨fun pins s σ H R I h => ?_⟩
  refine Call_ (ld_blt I hg hm boot_reversed (callWith_type1 (args_cons (thn (he.run pins s σ H _ I h) fun u s1 ⟨v, H1, I1, r1, z, ez, hz, q⟩ => args_nil ?_) hs) hs rfl))
  subst ez
  obtain ⟨t, rfl⟩ := r1
  have hn := line63
  have hz2 : (z.length : Int) < 2 ^ 63 := by omega
  refine rz_call hz2 fun tk => rz_iter (z := z) (t := t) (i := (z.length : Int) - 1) ⟨_, Heap.get?_push_size _ rfl, rfl, rfl⟩ ?_
  refine pi_one (tk := tk) I1 _ (turn_rz _ z t hz2) ⟨Nat.zero_le _, ?_⟩ q
  have e1 : (z.cps.size : Int) - 1 - ((0 : Nat) : Int) = (z.length : Int) - 1 := by
    show (z.length : Int) - 1 - 0 = _
    omega
  rw [e1]
  exact ⟨_, Heap.get?_push_size _ rfl, rfl, rfl⟩
end
end Zx

/-! Zx8: int(text, 2). -/
namespace Zx
open PySem PySem.Calls PySem.NumText L2 PyProof.Rows
def Bit (c : Nat) : Prop := c = 48 ∨ c = 49
/-- what noughts and ones tell -/
def binV (cs : List Nat) : Nat := cs.foldl (fun n c => n * 2 + (c - 48)) 0
theorem bit_step {d : Array Nat} {b : Bool} {c : Nat} (h : Bit c) : PySem.NumText.step 2 (d, b) c = some (d.push (c - 48), true) := by
  rcases h with rfl | rfl <;> rfl
theorem bit_fold : ∀ (cs : List Nat) (d : Array Nat) (b : Bool), (∀ c ∈ cs, Bit c) → cs ≠ [] ∨ b = true → cs.foldlM (PySem.NumText.step 2) (d, b) = some (cs.foldl (fun e c => e.push (c - 48)) d, true)
  | [], d, b, _, hb => by
    rcases hb with hb | rfl
    · exact absurd rfl hb
    · rfl
  | c :: cs, d, b, h, _ => by
    rw [List.foldlM_cons, bit_step (h c (by simp))]
    exact bit_fold cs _ true (fun x hx => h x (by simp [hx])) (.inr rfl)
theorem bit_push : ∀ (cs : List Nat) (d : Array Nat), (cs.foldl (fun e c => e.push (c - 48)) d).foldl (fun n k => n * 2 + k) 0 = cs.foldl (fun n c => n * 2 + (c - 48)) (d.foldl (fun n k => n * 2 + k) 0)
  | [], _ => rfl
  | c :: cs, d => by
    rw [List.foldl_cons, List.foldl_cons, bit_push cs, Array.foldl_push]
theorem bit_digits {cs : List Nat} (h : ∀ c ∈ cs, Bit c) (hn : cs ≠ []) : digits? 2 cs = some (cs.foldl (fun e c => e.push (c - 48)) #[]) := by
  unfold digits?
  rw [bit_fold cs #[] false h (.inl hn)]
  rfl
theorem bit_drop {cs : List Nat} (h : ∀ c ∈ cs, Bit c) : cs.dropWhile blank = cs := by
  cases cs with
  | nil => rfl
  | cons c cs =>
    rw [List.dropWhile_cons_of_neg]
    rcases h c (by simp) with rfl | rfl <;> decide
theorem bit_sign {cs : List Nat} (h : ∀ c ∈ cs, Bit c) : sign cs = (false, cs) := by
  cases cs with
  | nil => rfl
  | cons c cs => rcases h c (by simp) with rfl | rfl <;> rfl
theorem bit_based {cs : List Nat} (h : ∀ c ∈ cs, Bit c) : based 2 cs = (2, false, cs) := by
  match cs, h with
  | [], _ => rfl
  | [c], h => rcases h c (by simp) with rfl | rfl <;> rfl
  | c :: d :: r, h => rcases h c (by simp) with rfl | rfl <;> rcases h d (by simp) with rfl | rfl <;> rfl
theorem bit_read {cs : List Nat} (h : ∀ c ∈ cs, Bit c) (hn : cs ≠ []) : (int_private% "readNumeral") 0 2 cs = (int_private% "Numeral.value") ((binV cs : Nat) : Int) := by
  have hr : ∀ c ∈ cs.reverse, Bit c := fun c hc => h c (List.mem_reverse.mp hc)
  rw [readNumeral_eq, bit_drop h, bit_sign h]
  dsimp only
  rw [bit_based h]
  dsimp only
  rw [bit_drop hr, List.reverse_reverse, bit_digits h hn]
  unfold judge
  dsimp only
  rw [bit_push]
  rfl
theorem bit_seen {x : Str} (h : ∀ c ∈ x.cps.toList, Bit c) : numTextOf x = x.cps.toList ∧ numSeenOf x = x.cps.toList := by
  have e : numTextOf x = x.cps.toList := if_pos (by
    rw [← Array.all_toList]
    refine List.all_eq_true.mpr fun c hc => ?_
    rcases h c hc with rfl | rfl <;> decide)
  refine ⟨e, ?_⟩
  show List.takeWhile _ (numTextOf x) = _
  rw [e]
  refine takeWhile_all fun c hc => ?_
  rcases h c hc with rfl | rfl <;> decide
structure Safe (p : Prop) : Prop where
  go : p
theorem gives_bin {x : PySem.Str} {u t : Tok} (hl : x.length ≤ 640) (h : ∀ c ∈ x.cps.toList, Bit c) (hn : x.cps.toList ≠ []) :
    Gives (Builtin.«int.__new__» ⟨[.type "int", .str x u, .int 2 t], []⟩) (.int ((binV x.cps.toList : Nat) : Int)) :=
  .of_wp fun M A E s Q hq => by
    obtain ⟨hp, g, d, tk, os⟩ := s
    have k1 := F.conv_sub_int
    have k2 := F.madeHere_int
    have k3 : typeOf (.str x u) = pure (.type "str") := rfl
    have kk : Safe ((numSeenOf x).length ≤ 640 ∧ (int_private% "readNumeral") 0 2 (numSeenOf x) = (int_private% "Numeral.value") ((binV x.cps.toList : Nat) : Int) ∧ ((numSeenOf x).length == (numTextOf x).length) = true) := by
      obtain ⟨e1, e2⟩ := bit_seen h
      rw [e1, e2]
      exact ⟨by rw [Array.length_toList]; exact hl, bit_read h hn, by simp⟩
    clear hl hn h
    repeat (any_goals (first
      | assumption
      | ((with_reducible show wpAny _ _ ((int_private% "intFromText") _ _ _) _ _ _); refine Hx.wp_textB kk.go.1 kk.go.2.1 kk.go.2.2 ?_)
      | wp_step))
    all_goals first | exact ⟨_, rfl, hq⟩ | skip
/-- int(text of noughts and ones, 2) -/
def rIntB : List V → Hp → VK → Prop := fun xs H Q => ∃ x : Str, xs = [.str x, .int 2] ∧ x.cps.toList ≠ [] ∧ x.length ≤ 640 ∧ (∀ c ∈ x.cps.toList, Bit c) ∧ Q (.int ((binV x.cps.toList : Nat) : Int)) H
theorem call_intB {X : Cx} : CallR X (.type "int") rIntB := by
  intro pins s σ H xs us Q I r h
  obtain ⟨x, rfl, hn, hl, hb, q⟩ := h
  obtain ⟨u, v, rfl, r1, r2⟩ := vals2 r
  obtain ⟨t1, rfl⟩ := r1
  obtain ⟨t2, rfl⟩ := r2
  exact callType_new F.called_int F.newNe_int (Hx.typeCall_int_2 _ _) (Hx.newCall_int_2 _ _) (fun obj => F.initArgs_range_2 obj _ _) F.entry_int_new (gives_bin hl hb hn).meets
    (show (Made.int ((binV x.cps.toList : Nat) : Int)).post _ s from ⟨rfl, .int ((binV x.cps.toList : Nat) : Int), H, I.tok _, ⟨_, rfl⟩, q⟩)
end Zx

/-! Zx9: f"{n:b}". -/
namespace Zx
open PySem PySem.Calls PySem.W L2 PyProof.Rows
open Builtin Builtin.Str Builtin.Int
/-- the number's noughts and ones -/
def binS (n : Nat) : PySem.Str := ⟨((Nat.toDigits 2 n).map Char.toNat).toArray⟩
theorem ret_t {M : Model} {A : Around} {E : Value → Shared → Prop} {s : Shared} {X T : PySem.Str} {Q : PySem.Fin → Shared → Prop} (e : X = T) (h : T.length ≤ sizeLine) (q : ∀ t k, Q (.done (.ret (.str T t))) { s with toks := k }) : wpAny M A (retStr X) Q E s :=
  KXf.ret_text e (by rw [e]; exact h) q
theorem meets_b (a : Int) (t u : Tok) (h0 : 0 ≤ a) (hn : (binS a.natAbs).length ≤ sizeLine) : Meets («int.__format__» ⟨[.int a t, .str ⟨#[98]⟩ u], []⟩) (fun _ R s => ∀ t' k, R (.ok (.ret (.str (binS a.natAbs) t'))) { s with toks := k }) := by
  apply KPc.meets_of
  intro _ _ _ _ _ _ hq
  unfold Builtin.«int.__format__»
  refine wpAny_bind (wpAny_of_eq (a := (_, _)) rfl ?_)
  refine wpAny_bind (wpAny_of_eq (a := _) rfl ?_)
  kxf_if
  refine wpAny_bind (wpAny_typeNameOf (T := "str") (typeIs_str _ _ _) (by decide) fun _ => ?_)
  refine wpAny_bind (wpAny_of_eq (a := some _) rfl ?_)
  kxf_if
  kxf_if
  refine wpAny_bind (wpAny_typeNameOfCut_int ?_)
  have e1 : Float.parseFormatSpec (⟨#[98]⟩ : PySem.Str).cps.toList "int" 62 = .ok { align := 62, type := some 98 } := by kernel_rfl
  rw [e1]
  show wpAny _ _ (if _ then _ else _) _ _ _
  rw [if_pos (by decide +kernel)]
  wp_delta
  show wpAny _ _ (retStr _) _ _ _
  have ed : ((Nat.toDigits 2 a.natAbs).map Char.toNat).isEmpty = false := by
    rw [List.isEmpty_map]
    exact List.isEmpty_eq_false_iff.mpr Nat.toDigits_ne_nil
  refine ret_t ?_ hn hq
  rw [decide_eq_false (show ¬ a < 0 by omega)]
  have em : (List.map (fun c => (if (({ align := 62, type := some 98 } : Float.FormatSpec).type.getD (if ((⟨#[98]⟩ : PySem.Str).cps.back? == some 0) = true then 0 else 100) == 88) = true then c.toUpper else c).toNat) (Nat.toDigits 2 a.natAbs)) = (Nat.toDigits 2 a.natAbs).map Char.toNat := rfl
  rw [em]
  unfold binS
  generalize (Nat.toDigits 2 a.natAbs).map Char.toNat = D at ed ⊢
  cases D with
  | nil => cases ed
  | cons x xs =>
  conv => lhs; whnf
  clear em e1 hq hn
  simp
  all_goals omega
/-- f"{e:b}" -/
def tFmtB (te : TE) : TE := fun σ H Q => te σ H fun v H1 => ∃ a : Int, v = .int a ∧ 0 ≤ a ∧ (binS a.natAbs).length ≤ sizeLine ∧ Q (.str (binS a.natAbs)) H1
section
variable {X : Cx}
theorem pe_fmtB {e es : Expr} {te : TE} {p p2 : Pos} (he : PE X e te) (hs : PE X es (tC (.str ⟨#[98]⟩))) : PE X (.JoinedStr [.FormattedValue e (-1) (some es) p] p2) (tFmtB te) := by
  refine pe_joined1 ⟨fun pins s σ H Q I h => ?_⟩
  refine wpAny_FormattedValue_spec (thn (he.run pins s σ H _ I h) fun v s1 ⟨y, H1, I1, r1, a, ey, h0, hn, q⟩ => ?_)
  subst ey
  obtain ⟨t, rfl⟩ := r1
  refine thn (hs.run pins s1 σ H1 (fun z H2 => z = .str ⟨#[98]⟩ ∧ H2 = H1) I1 ⟨rfl, rfl⟩) fun v2 s2 ⟨z, H2, I2, r2, ez, eH⟩ => ?_
  subst ez eH
  obtain ⟨t2, rfl⟩ := r2
  refine ⟨_, t2, rfl, KXf.field_int (spec' := ⟨#[98]⟩) (y := binS a.natAbs) rfl (by decide) (by decide) (fun u => meets_b a t u h0 hn) fun t' k => ?_⟩
  exact ⟨.str (binS a.natAbs), H2, I2.tok _, ⟨_, rfl⟩, q⟩
end
end Zx

/-! Dv: a calculus of weakest preconditions over plain data (PyData) above the layer's readings: heaps and addresses stay hidden. G: the part of the heap that holds still (data), H: the whole; F: what stood at the entry and is nobody's here. -/
namespace Dv
open PySem L2

theorem same_upd {H : Hp} {p : Addr} {o : HO} (h : H p = none) : Same H (upd H p o) := fun b x e => by
  rw [upd_ne (ne_of_none e h)]
  exact e
theorem same_upd2 {G H : Hp} {p : Addr} {o : HO} (s : Same G H) (h : G p = none) : Same G (upd H p o) := fun b x e => by
  rw [upd_ne (ne_of_none e h)]
  exact s b x e
theorem same_both {G H : Hp} {p : Addr} {o : HO} (s : Same G H) : Same (upd G p o) (upd H p o) := fun b x e => by
  by_cases hb : b = p
  · subst hb
    rw [upd_same] at e ⊢
    exact e
  · rw [upd_ne hb] at e ⊢
    exact s b x e

/-! ### values that hold data -/
def keyD : Key → PyData
  | .inl i => .int i
  | .inr s => .str s
mutual
inductive Rp (H : Hp) : V → PyData → Prop
  | non : Rp H .non .none
  | bl (b : Bool) : Rp H (.bl b) (.bool b)
  | int (i : Int) : Rp H (.int i) (.int i)
  | str (x : Str) : Rp H (.str x) (.str x)
  | lst {a : Addr} {xs : List V} {ds : List PyData} : H a = some (.lst xs) → RpA H xs ds → Rp H (.ref a) (.list ds)
  | tup {a : Addr} {xs : List V} {ds : List PyData} : H a = some (.tup xs) → RpA H xs ds → Rp H (.ref a) (.tuple ds)
  | dct {a : Addr} {kvs : List (Key × V)} {ds : List (PyData × PyData)} : H a = some (.dK kvs) → RpD H kvs ds → Rp H (.ref a) (.dict ds)
inductive RpA (H : Hp) : List V → List PyData → Prop
  | nil : RpA H [] []
  | cons {v : V} {vs : List V} {d : PyData} {ds : List PyData} : Rp H v d → RpA H vs ds → RpA H (v :: vs) (d :: ds)
inductive RpD (H : Hp) : List (Key × V) → List (PyData × PyData) → Prop
  | nil : RpD H [] []
  | cons {k : Key} {v : V} {kvs : List (Key × V)} {d : PyData} {ds : List (PyData × PyData)} : Rp H v d → RpD H kvs ds → RpD H ((k, v) :: kvs) ((keyD k, d) :: ds)
end
mutual
theorem Rp.mono {G H : Hp} (e : Same G H) : ∀ {d : PyData} {v : V}, Rp G v d → Rp H v d
  | .none, _, h => by cases h; exact .non
  | .bool b, _, h => by cases h; exact .bl b
  | .int b, _, h => by cases h; exact .int b
  | .str b, _, h => by cases h; exact .str b
  | .list ds, _, h => by
    cases h with
    | lst h1 h2 => exact .lst (e _ _ h1) (RpA.mono e h2)
  | .tuple ds, _, h => by
    cases h with
    | tup h1 h2 => exact .tup (e _ _ h1) (RpA.mono e h2)
  | .dict ds, _, h => by
    cases h with
    | dct h1 h2 => exact .dct (e _ _ h1) (RpD.mono e h2)
theorem RpA.mono {G H : Hp} (e : Same G H) : ∀ {ds : List PyData} {vs : List V}, RpA G vs ds → RpA H vs ds
  | [], _, h => by cases h; exact .nil
  | d :: ds, _, h => by
    cases h with
    | cons h1 h2 => exact .cons (Rp.mono e h1) (RpA.mono e h2)
theorem RpD.mono {G H : Hp} (e : Same G H) : ∀ {ds : List (PyData × PyData)} {vs : List (Key × V)}, RpD G vs ds → RpD H vs ds
  | [], _, h => by cases h; exact .nil
  | (_, d) :: ds, _, h => by
    cases h with
    | cons h1 h2 => exact .cons (Rp.mono e h1) (RpD.mono e h2)
end
theorem RpA.len {H : Hp} : ∀ {ds : List PyData} {vs : List V}, RpA H vs ds → vs.length = ds.length
  | [], _, h => by cases h; rfl
  | d :: ds, _, h => by
    cases h with
    | cons h1 h2 => simp [RpA.len h2]
theorem RpA.app {H : Hp} : ∀ {ds es : List PyData} {vs ws : List V}, RpA H vs ds → RpA H ws es → RpA H (vs ++ ws) (ds ++ es)
  | [], _, _, _, h, k => by cases h; exact k
  | d :: ds, _, _, _, h, k => by
    cases h with
    | cons h1 h2 => exact .cons h1 (RpA.app h2 k)
theorem RpA.one {H : Hp} {v : V} {d : PyData} (h : Rp H v d) : RpA H [v] [d] := .cons h .nil
theorem RpA.get {H : Hp} : ∀ {ds : List PyData} {vs : List V} {i : Nat} {d : PyData}, RpA H vs ds → ds[i]? = some d → ∃ v, vs[i]? = some v ∧ Rp H v d
  | [], _, _, _, h, e => by simp at e
  | d :: ds, _, 0, _, h, e => by
    cases h with
    | cons h1 h2 =>
      simp at e
      subst e
      exact ⟨_, rfl, h1⟩
  | d :: ds, _, i + 1, _, h, e => by
    cases h with
    | cons h1 h2 =>
      obtain ⟨v, e1, e2⟩ := RpA.get h2 (i := i) (by simpa using e)
      exact ⟨v, by simpa using e1, e2⟩
theorem RpA.getV {H : Hp} {ds : List PyData} {vs : List V} {i : Nat} {v : V} (h : RpA H vs ds) (e : vs[i]? = some v) : ∃ d, ds[i]? = some d ∧ Rp H v d := by
  have hl := h.len
  have hi : i < ds.length := by
    have := (List.getElem?_eq_some_iff.mp e).1
    omega
  obtain ⟨w, e1, e2⟩ := h.get (List.getElem?_eq_getElem hi)
  rw [e] at e1
  cases e1
  exact ⟨_, List.getElem?_eq_getElem hi, e2⟩
theorem RpA.set {H : Hp} {v : V} {d : PyData} (r : Rp H v d) : ∀ {ds : List PyData} {vs : List V} (i : Nat), RpA H vs ds → RpA H (vs.set i v) (ds.set i d)
  | [], _, _, h => by cases h; exact .nil
  | _ :: _, _, 0, h => by
    cases h with
    | cons h1 h2 => exact .cons r h2
  | _ :: _, _, i + 1, h => by
    cases h with
    | cons h1 h2 => exact .cons h1 (RpA.set r i h2)
theorem RpA.take {H : Hp} : ∀ {ds : List PyData} {vs : List V} (n : Nat), RpA H vs ds → RpA H (vs.take n) (ds.take n)
  | _, _, 0, _ => .nil
  | [], _, n + 1, h => by cases h; exact .nil
  | _ :: _, _, n + 1, h => by
    cases h with
    | cons h1 h2 => exact .cons h1 (RpA.take n h2)
theorem RpA.drop {H : Hp} : ∀ {ds : List PyData} {vs : List V} (n : Nat), RpA H vs ds → RpA H (vs.drop n) (ds.drop n)
  | _, _, 0, h => h
  | [], _, n + 1, h => by cases h; exact .nil
  | _ :: _, _, n + 1, h => by
    cases h with
    | cons h1 h2 => exact RpA.drop n h2
theorem RpA.of_map {H : Hp} {α : Type} {f : α → V} {g : α → PyData} (h : ∀ x, Rp H (f x) (g x)) : ∀ xs : List α, RpA H (xs.map f) (xs.map g)
  | [] => .nil
  | x :: r => .cons (h x) (RpA.of_map h r)
/-- a value of the plain kinds is its data -/
def flat : PyData → Bool
  | .none => true
  | .bool _ => true
  | .int _ => true
  | .str _ => true
  | _ => false
theorem Rp.flat {G H : Hp} {v : V} {d : PyData} (r : Rp G v d) (h : flat d = true) : Rp H v d := by
  cases r with
  | non => exact .non
  | bl b => exact .bl b
  | int i => exact .int i
  | str x => exact .str x
  | lst _ _ => cases h
  | tup _ _ => cases h
  | dct _ _ => cases h

/-! ### growing: new data comes, all else stays -/
structure Grow (G H G' H' : Hp) : Prop where
  g : Same G G'
  h : Same H H'
  gh : Same G' H'
  new : ∀ a o, G' a = some o → H a ≠ none → G a = some o
theorem Grow.refl {G H : Hp} (s : Same G H) : Grow G H G H := ⟨Same.refl G, Same.refl H, s, fun _ _ e _ => e⟩
theorem Grow.trans {G H G1 H1 G2 H2 : Hp} (a : Grow G H G1 H1) (b : Grow G1 H1 G2 H2) : Grow G H G2 H2 :=
  ⟨a.g.trans b.g, a.h.trans b.h, b.gh, fun x o e n => a.new x o (b.new x o e (by
    cases q : H x with
    | none => exact absurd q n
    | some u => rw [a.h x u q]; simp)) n⟩
theorem Grow.laid {G H : Hp} {p : Addr} {o : HO} (s : Same G H) (n : H p = none) : Grow G H (upd G p o) (upd H p o) := by
  have ng : G p = none := by
    cases q : G p with
    | none => rfl
    | some u => rw [s p u q] at n; cases n
  refine ⟨same_upd ng, same_upd n, same_both s, fun a u e na => ?_⟩
  by_cases ha : a = p
  · subst ha
    exact absurd n na
  · rw [upd_ne ha] at e
    exact e

/-! ### slots -/
/-- a thing that may change: the addresses it lies at, what is so of it (it leans on these and on data alone) -/
structure Res where
  fp : List Addr
  ok : Hp → Hp → V → Prop
  mono : ∀ {G H G' H' : Hp} {v : V}, ok G H v → Same G G' → (∀ a ∈ fp, H' a = H a) → ok G' H' v
/-- a list at p whose items are data of which P -/
def lstP (p : Addr) (P : List PyData → Prop) : Res where
  fp := [p]
  ok := fun G H v => v = .ref p ∧ ∃ xs ds, H p = some (.lst xs) ∧ RpA G xs ds ∧ P ds
  mono := by
    rintro G H G' H' v ⟨e, xs, ds, h1, h2, h3⟩ g k
    exact ⟨e, xs, ds, (k p List.mem_cons_self).trans h1, h2.mono g, h3⟩
abbrev lst (p : Addr) (ds : List PyData) : Res := lstP p (fun x => x = ds)
inductive Slot where
  | any
  | val (d : PyData)
  | res (r : Res)
abbrev Rho := List Slot
def SlotOk (F G H : Hp) (x : Option V) : Slot → Prop
  | .any => True
  | .val d => ∃ v, x = some v ∧ Rp G v d
  | .res r => ∃ v, x = some v ∧ r.ok G H v ∧ ∀ a ∈ r.fp, F a = none ∧ G a = none ∧ H a ≠ none
def Slot.fp : Slot → List Addr
  | .res r => r.fp
  | _ => []
/-- the state: slots and heaps -/
structure Sta (F G0 G H : Hp) (σ : L2.St) (ρ : Rho) : Prop where
  fh : Same F H
  gh : Same G H
  g0 : Same G0 G
  new : ∀ a o, G a = some o → F a ≠ none → G0 a = some o
  len : σ.length = ρ.length
  slot : ∀ (i : Nat) (x : Slot), ρ[i]? = some x → SlotOk F G H (σ[i]?.join) x
  apart : ∀ (i j : Nat) (x y : Slot), i < j → ρ[i]? = some x → ρ[j]? = some y → ∀ a ∈ x.fp, a ∉ y.fp
theorem join_set {σ : L2.St} {i : Nat} {x : Option V} (h : i < σ.length) : ((σ.set i x)[i]?).join = x := by
  rw [List.getElem?_set_self h]
  rfl
section
variable {F G0 G H G' H' : Hp} {σ : L2.St} {ρ : Rho}
theorem SlotOk.grow {F G H G' H' : Hp} {x : Option V} {s : Slot} (h : SlotOk F G H x s) (w : Grow G H G' H') : SlotOk F G' H' x s := by
  cases s with
  | any => trivial
  | val d =>
    obtain ⟨v, e, r⟩ := h
    exact ⟨v, e, r.mono w.g⟩
  | res r =>
    obtain ⟨v, e, k, n⟩ := h
    refine ⟨v, e, r.mono k w.g fun a ha => ?_, fun a ha => ?_⟩
    · obtain ⟨_, _, n3⟩ := n a ha
      cases q : H a with
      | none => exact absurd q n3
      | some u => exact w.h a u q
    · obtain ⟨n1, n2, n3⟩ := n a ha
      refine ⟨n1, ?_, ?_⟩
      · cases q : G' a with
        | none => rfl
        | some u =>
          rw [w.new a u q n3] at n2
          cases n2
      · cases q : H a with
        | none => exact absurd q n3
        | some u => rw [w.h a u q]; simp
theorem Sta.grow (s : Sta F G0 G H σ ρ) (w : Grow G H G' H') : Sta F G0 G' H' σ ρ where
  fh := s.fh.trans w.h
  gh := w.gh
  g0 := s.g0.trans w.g
  new := fun a o e n => s.new a o (w.new a o e (by
    cases q : F a with
    | none => exact absurd q n
    | some u => rw [s.fh a u q]; simp)) n
  len := s.len
  slot := fun i x e => (s.slot i x e).grow w
  apart := s.apart
theorem Sta.get (s : Sta F G0 G H σ ρ) {i : Nat} {d : PyData} (h : ρ[i]? = some (.val d)) : ∃ v, σ[i]? = some (some v) ∧ Rp G v d := by
  obtain ⟨v, e, r⟩ := s.slot i _ h
  refine ⟨v, ?_, r⟩
  cases q : σ[i]? with
  | none => rw [q] at e; cases e
  | some z =>
    rw [q] at e
    exact congrArg some e
theorem Sta.getR (s : Sta F G0 G H σ ρ) {i : Nat} {r : Res} (h : ρ[i]? = some (.res r)) : ∃ v, σ[i]? = some (some v) ∧ r.ok G H v ∧ ∀ a ∈ r.fp, F a = none ∧ G a = none ∧ H a ≠ none := by
  obtain ⟨v, e, r⟩ := s.slot i _ h
  refine ⟨v, ?_, r⟩
  cases q : σ[i]? with
  | none => rw [q] at e; cases e
  | some z =>
    rw [q] at e
    exact congrArg some e
/-- a slot gets a value that holds data -/
theorem Sta.setV (s : Sta F G0 G H σ ρ) {i : Nat} {v : V} {d : PyData} (r : Rp G v d) : Sta F G0 G H (σ.set i (some v)) (ρ.set i (.val d)) where
  fh := s.fh
  gh := s.gh
  g0 := s.g0
  new := s.new
  len := by rw [List.length_set, List.length_set, s.len]
  slot := fun j x e => by
    by_cases hj : i = j
    · subst hj
      by_cases hi : i < ρ.length
      · rw [List.getElem?_set_self hi] at e
        cases e
        exact ⟨v, by rw [join_set (by rw [s.len]; exact hi)], r⟩
      · rw [List.getElem?_eq_none (by rw [List.length_set]; omega)] at e
        cases e
    · rw [List.getElem?_set_ne hj] at e ⊢
      exact s.slot j x e
  apart := fun j k x y hjk e1 e2 a ha hb => by
    by_cases hj : i = j
    · subst hj
      by_cases hi : i < ρ.length
      · rw [List.getElem?_set_self hi] at e1
        cases e1
        cases ha
      · rw [List.getElem?_eq_none (by rw [List.length_set]; omega)] at e1
        cases e1
    · rw [List.getElem?_set_ne hj] at e1
      by_cases hk : i = k
      · subst hk
        by_cases hi : i < ρ.length
        · rw [List.getElem?_set_self hi] at e2
          cases e2
          cases hb
        · rw [List.getElem?_eq_none (by rw [List.length_set]; omega)] at e2
          cases e2
      · rw [List.getElem?_set_ne hk] at e2
        exact s.apart j k x y hjk e1 e2 a ha hb
/-- a slot is forgotten -/
theorem Sta.setN (s : Sta F G0 G H σ ρ) {i : Nat} {x : Option V} : Sta F G0 G H (σ.set i x) (ρ.set i .any) where
  fh := s.fh
  gh := s.gh
  g0 := s.g0
  new := s.new
  len := by rw [List.length_set, List.length_set, s.len]
  slot := fun j x e => by
    by_cases hj : i = j
    · subst hj
      by_cases hi : i < ρ.length
      · rw [List.getElem?_set_self hi] at e
        cases e
        trivial
      · rw [List.getElem?_eq_none (by rw [List.length_set]; omega)] at e
        cases e
    · rw [List.getElem?_set_ne hj] at e ⊢
      exact s.slot j x e
  apart := fun j k x y hjk e1 e2 a ha hb => by
    by_cases hj : i = j
    · subst hj
      by_cases hi : i < ρ.length
      · rw [List.getElem?_set_self hi] at e1
        cases e1
        cases ha
      · rw [List.getElem?_eq_none (by rw [List.length_set]; omega)] at e1
        cases e1
    · rw [List.getElem?_set_ne hj] at e1
      by_cases hk : i = k
      · subst hk
        by_cases hi : i < ρ.length
        · rw [List.getElem?_set_self hi] at e2
          cases e2
          cases hb
        · rw [List.getElem?_eq_none (by rw [List.length_set]; omega)] at e2
          cases e2
      · rw [List.getElem?_set_ne hk] at e2
        exact s.apart j k x y hjk e1 e2 a ha hb
/-- a slot gets a thing that lies at new addresses (nobody's so far) -/
theorem Sta.setR (s : Sta F G0 G H σ ρ) {i : Nat} {v : V} {r : Res} (k : r.ok G H v) (n : ∀ a ∈ r.fp, F a = none ∧ G a = none ∧ H a ≠ none) (ap : ∀ (j : Nat) (x : Slot), j ≠ i → ρ[j]? = some x → ∀ a ∈ x.fp, a ∉ r.fp) :
    Sta F G0 G H (σ.set i (some v)) (ρ.set i (.res r)) where
  fh := s.fh
  gh := s.gh
  g0 := s.g0
  new := s.new
  len := by rw [List.length_set, List.length_set, s.len]
  slot := fun j x e => by
    by_cases hj : i = j
    · subst hj
      by_cases hi : i < ρ.length
      · rw [List.getElem?_set_self hi] at e
        cases e
        exact ⟨v, by rw [join_set (by rw [s.len]; exact hi)], k, n⟩
      · rw [List.getElem?_eq_none (by rw [List.length_set]; omega)] at e
        cases e
    · rw [List.getElem?_set_ne hj] at e ⊢
      exact s.slot j x e
  apart := fun j k x y hjk e1 e2 a ha hb => by
    by_cases hj : i = j
    · subst hj
      by_cases hi : i < ρ.length
      · rw [List.getElem?_set_self hi] at e1
        cases e1
        rw [List.getElem?_set_ne (by omega)] at e2
        exact ap k y (by omega) e2 a hb ha
      · rw [List.getElem?_eq_none (by rw [List.length_set]; omega)] at e1
        cases e1
    · rw [List.getElem?_set_ne hj] at e1
      by_cases hk : i = k
      · subst hk
        by_cases hi : i < ρ.length
        · rw [List.getElem?_set_self hi] at e2
          cases e2
          exact ap j x (by omega) e1 a ha hb
        · rw [List.getElem?_eq_none (by rw [List.length_set]; omega)] at e2
          cases e2
      · rw [List.getElem?_set_ne hk] at e2
        exact s.apart j k x y hjk e1 e2 a ha hb
end
end Dv

namespace Dv
open PySem L2

/-! ### what is to be shown -/
def We (te : TE) (ρ : Rho) (Φ : PyData → Rho → Prop) : Prop := ∀ (F G0 G H : Hp) (σ : L2.St), Sta F G0 G H σ ρ → ∀ Q : VK, (∀ v d ρ' G' H', Sta F G0 G' H' σ ρ' → Same G G' → Rp G' v d → Φ d ρ' → Q v H') → te σ H Q
def Wa (ta : TA) (ρ : Rho) (Φ : List PyData → Rho → Prop) : Prop := ∀ (F G0 G H : Hp) (σ : L2.St), Sta F G0 G H σ ρ → ∀ Q : List V → Hp → Prop, (∀ vs ds ρ' G' H', Sta F G0 G' H' σ ρ' → Same G G' → RpA G' vs ds → Φ ds ρ' → Q vs H') → ta σ H Q
def Wt (tt : TT) (ρ : Rho) (Φ : Bool → Rho → Prop) : Prop := ∀ (F G0 G H : Hp) (σ : L2.St), Sta F G0 G H σ ρ → ∀ Q : Bool → Hp → Prop, (∀ b ρ' G' H', Sta F G0 G' H' σ ρ' → Same G G' → Φ b ρ' → Q b H') → tt σ H Q
/-- a new list -/
def Wn (te : TE) (ρ : Rho) (Φ : List PyData → Rho → Prop) : Prop := ∀ (F G0 G H : Hp) (σ : L2.St), Sta F G0 G H σ ρ → ∀ Q : VK, (∀ p xs ds ρ' G' H', Sta F G0 G' H' σ ρ' → Same G G' → H' p = some (.lst xs) → RpA G' xs ds → F p = none → G' p = none → (∀ (j : Nat) (x : Slot), ρ'[j]? = some x → p ∉ x.fp) → Φ ds ρ' → Q (.ref p) H') → te σ H Q
/-- a target -/
def Wg (g : TG) (js : List Nat) (d : PyData) (ρ : Rho) (Φ : Rho → Prop) : Prop := ∀ (F G0 G H : Hp) (σ : L2.St) (v : V), Sta F G0 G H σ ρ → Rp G v d → ∀ Q : L2.St → Hp → Prop, (∀ σ' ρ', Sta F G0 G H σ' ρ' → (σ'.length = σ.length ∧ ∀ k, k ∉ js → σ'[k]? = σ[k]?) → Φ ρ' → Q σ' H) → g v σ H Q
def Wgs (g : TGs) (js : List Nat) (ds : List PyData) (ρ : Rho) (Φ : Rho → Prop) : Prop := ∀ (F G0 G H : Hp) (σ : L2.St) (vs : List V), Sta F G0 G H σ ρ → RpA G vs ds → ∀ Q : L2.St → Hp → Prop, (∀ σ' ρ', Sta F G0 G H σ' ρ' → (σ'.length = σ.length ∧ ∀ k, k ∉ js → σ'[k]? = σ[k]?) → Φ ρ' → Q σ' H) → g vs σ H Q
/-- what is wanted behind a statement -/
structure Outs where
  nx : Rho → Prop
  rt : PyData → Rho → Prop
  bk : Rho → Prop := fun _ => False
  ct : Rho → Prop := fun _ => False
def Ws (F G0 : Hp) (ts : TS) (ρ : Rho) (Ψ : Outs) : Prop := ∀ (G H : Hp) (σ : L2.St), Sta F G0 G H σ ρ → ∀ D : Ends,
  (∀ σ' ρ' G' H', Sta F G0 G' H' σ' ρ' → Same G G' → Ψ.nx ρ' → D.nx σ' H') → (∀ v d σ' ρ' G' H', Sta F G0 G' H' σ' ρ' → Same G G' → Rp G' v d → Ψ.rt d ρ' → D.rt v H') →
  (∀ σ' ρ' G' H', Sta F G0 G' H' σ' ρ' → Same G G' → Ψ.bk ρ' → D.bk σ' H') → (∀ σ' ρ' G' H', Sta F G0 G' H' σ' ρ' → Same G G' → Ψ.ct ρ' → D.ct σ' H') → ts D σ H
/-- by values -/
def Op2 (r : R2) (x y : PyData) (φ : PyData → Prop) : Prop := ∀ (G H : Hp) (v u : V), Same G H → Rp G v x → Rp G u y → ∀ Q : VK, (∀ w z G' H', Grow G H G' H' → Rp G' w z → φ z → Q w H') → r v u H Q
def Op1 (r : V → Hp → VK → Prop) (x : PyData) (φ : PyData → Prop) : Prop := ∀ (G H : Hp) (v : V), Same G H → Rp G v x → ∀ Q : VK, (∀ w z G' H', Grow G H G' H' → Rp G' w z → φ z → Q w H') → r v H Q
def OpC (r : List V → Hp → VK → Prop) (xs : List PyData) (φ : PyData → Prop) : Prop := ∀ (G H : Hp) (vs : List V), Same G H → RpA G vs xs → ∀ Q : VK, (∀ w z G' H', Grow G H G' H' → Rp G' w z → φ z → Q w H') → r vs H Q
/-- a new list, by values -/
def OpN (r : List V → Hp → VK → Prop) (xs : List PyData) (φ : List PyData → Prop) : Prop := ∀ (G H : Hp) (vs : List V), Same G H → RpA G vs xs → ∀ Q : VK, (∀ p ws zs G' H', Grow G H G' H' → H' p = none → RpA G' ws zs → φ zs → Q (.ref p) (upd H' p (.lst ws))) → r vs H Q

section
variable {te ta tb tc : TE} {tt tu : TT} {tas : TA} {ts tsu : TS} {ρ : Rho} {Φ Φ' : PyData → Rho → Prop} {Φb : Bool → Rho → Prop} {Ψ : Outs} {r : R2}
theorem We.imp (h : We te ρ Φ) (k : ∀ d ρ', Φ d ρ' → Φ' d ρ') : We te ρ Φ' := fun F G0 G H σ s Q q => h F G0 G H σ s Q fun v d ρ' G' H' s' g r p => q v d ρ' G' H' s' g r (k d ρ' p)
theorem Wt.imp {Φ Φ' : Bool → Rho → Prop} (h : Wt tt ρ Φ) (k : ∀ d ρ', Φ d ρ' → Φ' d ρ') : Wt tt ρ Φ' := fun F G0 G H σ s Q q => h F G0 G H σ s Q fun d ρ' G' H' s' g p => q d ρ' G' H' s' g (k d ρ' p)
theorem Wn.imp {Φ Φ' : List PyData → Rho → Prop} (h : Wn te ρ Φ) (k : ∀ d ρ', Φ d ρ' → Φ' d ρ') : Wn te ρ Φ' := fun F G0 G H σ s Q q => h F G0 G H σ s Q fun p xs ds ρ' G' H' s' g a b c d e f => q p xs ds ρ' G' H' s' g a b c d e (k ds ρ' f)
theorem Wa.imp {Φ Φ' : List PyData → Rho → Prop} (h : Wa tas ρ Φ) (k : ∀ d ρ', Φ d ρ' → Φ' d ρ') : Wa tas ρ Φ' := fun F G0 G H σ s Q q => h F G0 G H σ s Q fun v d ρ' G' H' s' g r p => q v d ρ' G' H' s' g r (k d ρ' p)
theorem Ws.imp {F G0 : Hp} {Ψ Ψ' : Outs} (h : Ws F G0 ts ρ Ψ) (k1 : ∀ ρ', Ψ.nx ρ' → Ψ'.nx ρ') (k2 : ∀ d ρ', Ψ.rt d ρ' → Ψ'.rt d ρ') (k3 : ∀ ρ', Ψ.bk ρ' → Ψ'.bk ρ') (k4 : ∀ ρ', Ψ.ct ρ' → Ψ'.ct ρ') : Ws F G0 ts ρ Ψ' :=
  fun G H σ s D q1 q2 q3 q4 => h G H σ s D (fun σ' ρ' G' H' a b c => q1 σ' ρ' G' H' a b (k1 _ c)) (fun v d σ' ρ' G' H' a b e c => q2 v d σ' ρ' G' H' a b e (k2 _ _ c)) (fun σ' ρ' G' H' a b c => q3 σ' ρ' G' H' a b (k3 _ c)) (fun σ' ρ' G' H' a b c => q4 σ' ρ' G' H' a b (k4 _ c))

/-! ### leaves -/
theorem we_var {i : Nat} {d : PyData} (h : ρ[i]? = some (.val d)) (q : Φ d ρ) : We (tVar i) ρ Φ := fun F G0 G H σ s Q k => by
  obtain ⟨v, e, r⟩ := s.get h
  exact ⟨v, e, k v d ρ G H s (Same.refl G) r q⟩
theorem we_c {v : V} {d : PyData} (h : ∀ G, Rp G v d) (q : Φ d ρ) : We (tC v) ρ Φ := fun F G0 G H σ s Q k => k v d ρ G H s (Same.refl G) (h G) q
theorem we_int {i : Int} (q : Φ (.int i) ρ) : We (tC (.int i)) ρ Φ := we_c (fun _ => .int i) q
theorem we_bl {i : Bool} (q : Φ (.bool i) ρ) : We (tC (.bl i)) ρ Φ := we_c (fun _ => .bl i) q
theorem we_str {i : Str} (q : Φ (.str i) ρ) : We (tC (.str i)) ρ Φ := we_c (fun _ => .str i) q
theorem we_non (q : Φ .none ρ) : We (tC .non) ρ Φ := we_c (fun _ => .non) q

/-! ### operators -/
theorem we_op (h : We ta ρ fun x ρ1 => We tb ρ1 fun y ρ2 => Op2 r x y fun z => Φ z ρ2) : We (tOp r ta tb) ρ Φ := fun F G0 G H σ s Q k =>
  h F G0 G H σ s _ fun v x ρ1 G1 H1 s1 g1 r1 h1 => h1 F G0 G1 H1 σ s1 _ fun u y ρ2 G2 H2 s2 g2 r2 h2 => h2 G2 H2 v u s2.gh (r1.mono g2) r2 Q fun w z G' H' gr rz p => k w z ρ2 G' H' (s2.grow gr) ((g1.trans g2).trans gr.g) rz p
theorem we_un {r : V → Hp → VK → Prop} (h : We ta ρ fun x ρ1 => Op1 r x fun z => Φ z ρ1) : We (tUn r ta) ρ Φ := fun F G0 G H σ s Q k =>
  h F G0 G H σ s _ fun v x ρ1 G1 H1 s1 g1 r1 h1 => h1 G1 H1 v s1.gh r1 Q fun w z G' H' gr rz p => k w z ρ1 G' H' (s1.grow gr) (g1.trans gr.g) rz p
theorem we_cb {r : List V → Hp → VK → Prop} (h : Wa tas ρ fun xs ρ1 => OpC r xs fun z => Φ z ρ1) : We (tCB r tas) ρ Φ := fun F G0 G H σ s Q k =>
  h F G0 G H σ s _ fun v x ρ1 G1 H1 s1 g1 r1 h1 => h1 G1 H1 v s1.gh r1 Q fun w z G' H' gr rz p => k w z ρ1 G' H' (s1.grow gr) (g1.trans gr.g) rz p
theorem Op2.flat {x y z : PyData} {w : V} {φ : PyData → Prop} (hw : ∀ G, Rp G w z) (h : ∀ (G H : Hp) (v u : V), Rp G v x → Rp G u y → ∀ Q : VK, Q w H → r v u H Q) (q : φ z) : Op2 r x y φ :=
  fun G H v u s r1 r2 Q k => h G H v u r1 r2 Q (k w z G H (.refl s) (hw G) q)
theorem OpC.flat {r : List V → Hp → VK → Prop} {xs : List PyData} {z : PyData} {w : V} {φ : PyData → Prop} (hw : ∀ G, Rp G w z) (h : ∀ (G H : Hp) (vs : List V), Same G H → RpA G vs xs → ∀ Q : VK, Q w H → r vs H Q) (q : φ z) : OpC r xs φ :=
  fun G H v s r1 Q k => h G H v s r1 Q (k w z G H (.refl s) (hw G) q)
theorem op2_I0 {g : Int → Int → Int} {i j : Int} {φ : PyData → Prop} (q : φ (.int (g i j))) : Op2 (rI0 fun i j => .int (g i j)) (.int i) (.int j) φ := .flat (fun _ => .int _) (fun G H v u r1 r2 Q k => by cases r1; cases r2; exact ⟨i, j, rfl, rfl, k⟩) q
theorem op2_I {C : Int → Int → Prop} {g : Int → Int → Int} {i j : Int} {φ : PyData → Prop} (hc : C i j) (q : φ (.int (g i j))) : Op2 (rI C fun i j => .int (g i j)) (.int i) (.int j) φ := .flat (fun _ => .int _) (fun G H v u r1 r2 Q k => by cases r1; cases r2; exact ⟨i, j, rfl, rfl, hc, k⟩) q
theorem op2_B0 {g : Int → Int → Bool} {i j : Int} {φ : PyData → Prop} (q : φ (.bool (g i j))) : Op2 (rI0 fun i j => .bl (g i j)) (.int i) (.int j) φ := .flat (fun _ => .bl _) (fun G H v u r1 r2 Q k => by cases r1; cases r2; exact ⟨i, j, rfl, rfl, k⟩) q
theorem op1_U {g : Int → Int} {i : Int} {φ : PyData → Prop} (q : φ (.int (g i))) : Op1 (rU fun i => .int (g i)) (.int i) φ := fun G H v s r Q k => by
  cases r
  exact ⟨i, rfl, k _ _ G H (.refl s) (.int _) q⟩
/-- one of two rules -/
theorem Op2.orl {r' : R2} {x y : PyData} {φ : PyData → Prop} (h : Op2 r x y φ) : Op2 (fun x y H Q => r x y H Q ∨ r' x y H Q) x y φ := fun G H v u s r1 r2 Q k => .inl (h G H v u s r1 r2 Q k)
theorem Op2.orr {r' : R2} {x y : PyData} {φ : PyData → Prop} (h : Op2 r' x y φ) : Op2 (fun x y H Q => r x y H Q ∨ r' x y H Q) x y φ := fun G H v u s r1 r2 Q k => .inr (h G H v u s r1 r2 Q k)

/-! ### tests -/
theorem wt_test (h : We te ρ fun d ρ' => ∃ b, d = .bool b ∧ Φb b ρ') : Wt (tTest te) ρ Φb := fun F G0 G H σ s Q k =>
  h F G0 G H σ s _ fun v d ρ' G' H' s' g r ⟨b, e, p⟩ => by
    subst e
    cases r
    exact ⟨b, rfl, k b ρ' G' H' s' g p⟩
theorem wt_B (h : We te ρ fun d ρ' => ∃ b, d = .bool b ∧ Φb b ρ') : Wt (tB te) ρ Φb := wt_test h
theorem wt_and (h : Wt tt ρ fun b ρ1 => (b = true → Wt tu ρ1 Φb) ∧ (b = false → Φb false ρ1)) : Wt (tAnd tt tu) ρ Φb := fun F G0 G H σ s Q k =>
  h F G0 G H σ s _ fun b ρ1 G1 H1 s1 g1 ⟨p1, p2⟩ => by
    cases b with
    | true => exact p1 rfl F G0 G1 H1 σ s1 Q fun b ρ' G' H' s' g p => k b ρ' G' H' s' (g1.trans g) p
    | false => exact k false ρ1 G1 H1 s1 g1 (p2 rfl)
theorem wt_or (h : Wt tt ρ fun b ρ1 => (b = true → Φb true ρ1) ∧ (b = false → Wt tu ρ1 Φb)) : Wt (tOr tt tu) ρ Φb := fun F G0 G H σ s Q k =>
  h F G0 G H σ s _ fun b ρ1 G1 H1 s1 g1 ⟨p1, p2⟩ => by
    cases b with
    | false => exact p2 rfl F G0 G1 H1 σ s1 Q fun b ρ' G' H' s' g p => k b ρ' G' H' s' (g1.trans g) p
    | true => exact k true ρ1 G1 H1 s1 g1 (p1 rfl)
theorem wt_not (h : Wt tt ρ fun b ρ1 => Φb (!b) ρ1) : Wt (tNot tt) ρ Φb := fun F G0 G H σ s Q k =>
  h F G0 G H σ s _ fun b ρ1 G1 H1 s1 g1 p => k _ ρ1 G1 H1 s1 g1 p
theorem we_andV (h : We ta ρ fun x ρ1 => ∃ b, x = .bool b ∧ (b = true → We tb ρ1 Φ) ∧ (b = false → Φ (.bool false) ρ1)) : We (tAndV ta tb) ρ Φ := fun F G0 G H σ s Q k =>
  h F G0 G H σ s _ fun v d ρ1 G1 H1 s1 g1 r1 ⟨b, e, p1, p2⟩ => by
    subst e
    cases r1
    refine ⟨b, rfl, ?_⟩
    cases b with
    | true => exact p1 rfl F G0 G1 H1 σ s1 Q fun v d ρ' G' H' s' g r p => k v d ρ' G' H' s' (g1.trans g) r p
    | false => exact k _ _ ρ1 G1 H1 s1 g1 (.bl false) (p2 rfl)
theorem we_orV (h : We ta ρ fun x ρ1 => ∃ b, x = .bool b ∧ (b = true → Φ (.bool true) ρ1) ∧ (b = false → We tb ρ1 Φ)) : We (tOrV ta tb) ρ Φ := fun F G0 G H σ s Q k =>
  h F G0 G H σ s _ fun v d ρ1 G1 H1 s1 g1 r1 ⟨b, e, p1, p2⟩ => by
    subst e
    cases r1
    refine ⟨b, rfl, ?_⟩
    cases b with
    | false => exact p2 rfl F G0 G1 H1 σ s1 Q fun v d ρ' G' H' s' g r p => k v d ρ' G' H' s' (g1.trans g) r p
    | true => exact k _ _ ρ1 G1 H1 s1 g1 (.bl true) (p1 rfl)
theorem we_notV (h : We ta ρ fun x ρ1 => ∃ b, x = .bool b ∧ Φ (.bool (!b)) ρ1) : We (tNotV ta) ρ Φ := fun F G0 G H σ s Q k =>
  h F G0 G H σ s _ fun v d ρ1 G1 H1 s1 g1 r1 ⟨b, e, p⟩ => by
    subst e
    cases r1
    exact ⟨b, rfl, k _ _ ρ1 G1 H1 s1 g1 (.bl _) p⟩
theorem we_if (h : Wt tt ρ fun b ρ1 => (b = true → We ta ρ1 Φ) ∧ (b = false → We tb ρ1 Φ)) : We (tIf tt ta tb) ρ Φ := fun F G0 G H σ s Q k =>
  h F G0 G H σ s _ fun b ρ1 G1 H1 s1 g1 ⟨p1, p2⟩ => by
    cases b with
    | true => exact p1 rfl F G0 G1 H1 σ s1 Q fun v d ρ' G' H' s' g r p => k v d ρ' G' H' s' (g1.trans g) r p
    | false => exact p2 rfl F G0 G1 H1 σ s1 Q fun v d ρ' G' H' s' g r p => k v d ρ' G' H' s' (g1.trans g) r p
/-- truth -/
def Tru : PyData → Bool → Prop
  | .none, b => b = false
  | .bool k, b => b = k
  | .int i, b => b = (i != 0)
  | .str x, b => x.length ≤ sizeLine ∧ b = ((x.length : Int) != 0)
  | .list xs, b => b = !xs.isEmpty
  | .tuple xs, b => b = !xs.isEmpty
  | .dict xs, b => b = !xs.isEmpty
theorem RpD.len {H : Hp} : ∀ {ds : List (PyData × PyData)} {vs : List (Key × V)}, RpD H vs ds → vs.length = ds.length
  | [], _, h => by cases h; rfl
  | _ :: _, _, h => by
    cases h with
    | cons h1 h2 => simp [RpD.len h2]
theorem emp_eq {α β : Type} {xs : List α} {ys : List β} (h : xs.length = ys.length) : xs.isEmpty = ys.isEmpty := by
  cases xs <;> cases ys <;> first | rfl | simp at h
theorem Tru.v {K : PySem.W.Frag} {G H : Hp} {v : V} {d : PyData} {b : Bool} (s : Same G H) (r : Rp G v d) (h : Tru d b) : TruV K v H b := by
  cases r with
  | non => exact h
  | bl k => exact h
  | int i => exact h
  | str x => exact h
  | lst h1 h2 => exact .inl ⟨_, .inl (.inl (s _ _ h1)), by rw [emp_eq h2.len]; exact h⟩
  | tup h1 h2 => exact .inr (.inl ⟨_, .inl (.inl (s _ _ h1)), by rw [emp_eq h2.len]; exact h⟩)
  | dct h1 h2 => exact .inr (.inr ⟨_, s _ _ h1, by rw [emp_eq h2.len]; exact h⟩)
theorem wt_tru {K : PySem.W.Frag} (h : We te ρ fun d ρ' => ∃ b, Tru d b ∧ Φb b ρ') : Wt (fun σ H Q => te σ H fun x H' => ∃ k, TruV K x H' k ∧ Q k H') ρ Φb := fun F G0 G H σ s Q k =>
  h F G0 G H σ s _ fun v d ρ' G' H' s' g r ⟨b, e, p⟩ => ⟨b, e.v s'.gh r, k b ρ' G' H' s' g p⟩
theorem we_orT {K : PySem.W.Frag} (h : We ta ρ fun x ρ1 => ∃ b, Tru x b ∧ (b = true → Φ x ρ1) ∧ (b = false → We tb ρ1 Φ)) : We (tOrT K ta tb) ρ Φ := fun F G0 G H σ s Q k =>
  h F G0 G H σ s _ fun v d ρ1 G1 H1 s1 g1 r1 ⟨b, e, p1, p2⟩ => by
    refine ⟨b, e.v s1.gh r1, ?_⟩
    cases b with
    | false => exact p2 rfl F G0 G1 H1 σ s1 Q fun v d ρ' G' H' s' g r p => k v d ρ' G' H' s' (g1.trans g) r p
    | true => exact k _ _ ρ1 G1 H1 s1 g1 r1 (p1 rfl)
theorem we_andT {K : PySem.W.Frag} (h : We ta ρ fun x ρ1 => ∃ b, Tru x b ∧ (b = true → We tb ρ1 Φ) ∧ (b = false → Φ x ρ1)) : We (tAndT K ta tb) ρ Φ := fun F G0 G H σ s Q k =>
  h F G0 G H σ s _ fun v d ρ1 G1 H1 s1 g1 r1 ⟨b, e, p1, p2⟩ => by
    refine ⟨b, e.v s1.gh r1, ?_⟩
    cases b with
    | true => exact p1 rfl F G0 G1 H1 σ s1 Q fun v d ρ' G' H' s' g r p => k v d ρ' G' H' s' (g1.trans g) r p
    | false => exact k _ _ ρ1 G1 H1 s1 g1 r1 (p2 rfl)
theorem we_notT {K : PySem.W.Frag} (h : We ta ρ fun x ρ1 => ∃ b, Tru x b ∧ Φ (.bool (!b)) ρ1) : We (tNotT K ta) ρ Φ := fun F G0 G H σ s Q k =>
  h F G0 G H σ s _ fun v d ρ1 G1 H1 s1 g1 r1 ⟨b, e, p⟩ => ⟨b, e.v s1.gh r1, k _ _ ρ1 G1 H1 s1 g1 (.bl _) p⟩

/-! ### arguments, tuples, lists -/
theorem wa_nil {Φ : List PyData → Rho → Prop} (q : Φ [] ρ) : Wa tNil ρ Φ := fun F G0 G H σ s Q k => k [] [] ρ G H s (Same.refl G) .nil q
theorem wa_cons {Φ : List PyData → Rho → Prop} (h : We te ρ fun d ρ1 => Wa tas ρ1 fun ds ρ2 => Φ (d :: ds) ρ2) : Wa (tCons te tas) ρ Φ := fun F G0 G H σ s Q k =>
  h F G0 G H σ s _ fun v x ρ1 G1 H1 s1 g1 r1 h1 => h1 F G0 G1 H1 σ s1 _ fun vs ds ρ2 G2 H2 s2 g2 r2 p => k _ _ ρ2 G2 H2 s2 (g1.trans g2) (.cons (r1.mono g2) r2) p
theorem szl {n : Nat} (h : n ≤ 100000) : n ≤ sizeLine := Nat.le_trans h (by decide)
theorem szs {n : Nat} (h : n < 100000) : n < sizeLine := Nat.lt_of_lt_of_le h (by decide)
theorem we_tup (h : Wa tas ρ fun ds ρ1 => ds.length ≤ 100000 ∧ Φ (.tuple ds) ρ1) : We (tTup tas) ρ Φ := fun F G0 G H σ s Q k =>
  h F G0 G H σ s _ fun vs ds ρ1 G1 H1 s1 g1 r1 ⟨hl, p⟩ => ⟨by rw [r1.len]; exact szl hl, fun p' hp => by
    have w : Grow G1 H1 (upd G1 p' (.tup vs)) (upd H1 p' (.tup vs)) := .laid s1.gh hp
    exact k _ _ ρ1 _ _ (s1.grow w) (g1.trans w.g) (.tup upd_same (r1.mono w.g)) p⟩
theorem none_of {G H : Hp} {p : Addr} (s : Same G H) (h : H p = none) : G p = none := by
  cases q : G p with
  | none => rfl
  | some u => rw [s p u q] at h; cases h
/-- something new of nobody's is laid that is no data yet -/
theorem Sta.laid {F G0 G H : Hp} {σ : L2.St} {p : Addr} {o : HO} (s : Sta F G0 G H σ ρ) (n : H p = none) : Sta F G0 G (upd H p o) σ ρ where
  fh := s.fh.trans (same_upd n)
  gh := s.gh.trans (same_upd n)
  g0 := s.g0
  new := s.new
  len := s.len
  slot := fun i x e => by
    have q := s.slot i x e
    cases x with
    | any => trivial
    | val d => exact q
    | res r =>
      obtain ⟨v, e, k, n'⟩ := q
      refine ⟨v, e, r.mono k (Same.refl G) fun a ha => ?_, fun a ha => ?_⟩
      · rw [upd_ne fun z => (n' a ha).2.2 (by rw [z]; exact n)]
      · refine ⟨(n' a ha).1, (n' a ha).2.1, ?_⟩
        rw [upd_ne fun z => (n' a ha).2.2 (by rw [z]; exact n)]
        exact (n' a ha).2.2
  apart := s.apart
theorem Sta.nofp {F G0 G H : Hp} {σ : L2.St} {p : Addr} (s : Sta F G0 G H σ ρ) (n : H p = none) : ∀ (j : Nat) (x : Slot), ρ[j]? = some x → p ∉ x.fp := fun j x e hp => by
  have q := s.slot j x e
  cases x with
  | any => cases hp
  | val d => cases hp
  | res r =>
    obtain ⟨v, e, k, n'⟩ := q
    exact (n' p hp).2.2 n
theorem wn_lst {Φ : List PyData → Rho → Prop} (h : Wa tas ρ fun ds ρ1 => ds.length ≤ 100000 ∧ Φ ds ρ1) : Wn (tLst tas) ρ Φ := fun F G0 G H σ s Q k =>
  h F G0 G H σ s _ fun vs ds ρ1 G1 H1 s1 g1 r1 ⟨hl, p⟩ => ⟨by rw [r1.len]; exact szl hl, fun p' hp =>
    k p' vs ds ρ1 G1 _ (s1.laid hp) g1 upd_same r1 (none_of s1.fh hp) (none_of s1.gh hp) (s1.nofp hp) p⟩
theorem wn_cb {r : List V → Hp → VK → Prop} {Φ : List PyData → Rho → Prop} (h : Wa tas ρ fun xs ρ1 => OpN r xs fun z => Φ z ρ1) : Wn (tCB r tas) ρ Φ := fun F G0 G H σ s Q k =>
  h F G0 G H σ s _ fun v x ρ1 G1 H1 s1 g1 r1 h1 => h1 G1 H1 v s1.gh r1 Q fun p ws zs G' H' gr hp rz q => by
    have s2 := s1.grow gr
    exact k p ws zs ρ1 G' _ (s2.laid hp) (g1.trans gr.g) upd_same rz (none_of s2.fh hp) (none_of s2.gh hp) (s2.nofp hp) q
/-- a new list becomes data -/
theorem Sta.freeze {F G0 G H : Hp} {σ : L2.St} {p : Addr} {xs : List V} (s : Sta F G0 G H σ ρ) (h : H p = some (.lst xs)) (hF : F p = none) (hG : G p = none) (hn : ∀ (j : Nat) (x : Slot), ρ[j]? = some x → p ∉ x.fp) : Sta F G0 (upd G p (.lst xs)) H σ ρ where
  fh := s.fh
  gh := fun a o e => by
    by_cases ha : a = p
    · subst ha
      rw [upd_same] at e
      rw [h]
      exact e
    · rw [upd_ne ha] at e
      exact s.gh a o e
  g0 := s.g0.trans (same_upd hG)
  new := fun a o e n => by
    by_cases ha : a = p
    · subst ha
      exact absurd hF n
    · rw [upd_ne ha] at e
      exact s.new a o e n
  len := s.len
  slot := fun i x e => by
    have q := s.slot i x e
    cases x with
    | any => trivial
    | val d =>
      obtain ⟨v, e, r⟩ := q
      exact ⟨v, e, r.mono (same_upd hG)⟩
    | res r =>
      obtain ⟨v, e', k, n'⟩ := q
      refine ⟨v, e', r.mono k (same_upd hG) fun a ha => rfl, fun a ha => ⟨(n' a ha).1, ?_, (n' a ha).2.2⟩⟩
      rw [upd_ne fun z => hn i _ e (by rw [← z]; exact ha)]
      exact (n' a ha).2.1
  apart := s.apart
theorem we_new (h : Wn te ρ fun ds ρ1 => Φ (.list ds) ρ1) : We te ρ Φ := fun F G0 G H σ s Q k =>
  h F G0 G H σ s Q fun p xs ds ρ' G' H' s' g hp r hF hG hn q => k _ _ ρ' _ H' (s'.freeze hp hF hG hn) (g.trans (same_upd hG)) (.lst upd_same (r.mono (same_upd hG))) q
end
end Dv

namespace Dv
open PySem L2

section
variable {te ta tb tc : TE} {tt tu : TT} {tas : TA} {ts tsu : TS} {ρ : Rho} {Φ Φ' : PyData → Rho → Prop} {Φb : Bool → Rho → Prop} {Ψ : Outs} {K : PySem.W.Frag} {g : TG}

/-! ### targets -/
theorem set_other {σ : L2.St} {j k : Nat} {x : Option V} (h : k ∉ [j]) : (σ.set j x)[k]? = σ[k]? := by
  rw [List.getElem?_set_ne]
  simp at h
  omega
theorem wg_name {j : Nat} {d : PyData} {Φ : Rho → Prop} (q : Φ (ρ.set j (.val d))) : Wg (gName j) [j] d ρ Φ := fun F G0 G H σ v s r Q k =>
  k _ _ (s.setV r) ⟨List.length_set, fun _ h => set_other h⟩ q
theorem wg_any {j : Nat} {d : PyData} {Φ : Rho → Prop} (q : Φ (ρ.set j .any)) : Wg (gName j) [j] d ρ Φ := fun F G0 G H σ v s r Q k =>
  k _ _ s.setN ⟨List.length_set, fun _ h => set_other h⟩ q
theorem wgs_nil {Φ : Rho → Prop} (q : Φ ρ) : Wgs gNil [] [] ρ Φ := fun F G0 G H σ v s r Q k => by
  cases r
  exact ⟨rfl, k _ _ s ⟨rfl, fun _ _ => rfl⟩ q⟩
theorem wgs_cons {t : TG} {u : TGs} {js ks : List Nat} {d : PyData} {ds : List PyData} {Φ : Rho → Prop} (h : Wg t js d ρ fun ρ1 => Wgs u ks ds ρ1 Φ) : Wgs (gCons t u) (js ++ ks) (d :: ds) ρ Φ := fun F G0 G H σ vs s r Q k => by
  cases r with
  | cons r1 r2 =>
    refine ⟨_, _, rfl, h F G0 G H σ _ s r1 _ fun σ1 ρ1 s1 e1 q1 => ?_⟩
    refine q1 F G0 G H σ1 _ s1 r2 Q fun σ2 ρ2 s2 e2 q2 => ?_
    refine k σ2 ρ2 s2 ⟨e2.1.trans e1.1, fun i hi => ?_⟩ q2
    rw [e2.2 i fun z => hi (List.mem_append_right _ z), e1.2 i fun z => hi (List.mem_append_left _ z)]
theorem wg_tup {t : TGs} {js : List Nat} {n : Nat} {ds : List PyData} {Φ : Rho → Prop} (hn : ds.length = n) (h : Wgs t js ds ρ Φ) : Wg (gTup K n t) js (.tuple ds) ρ Φ := fun F G0 G H σ v s r Q k => by
  cases r with
  | tup h1 h2 => exact ⟨_, _, rfl, .inl (.inl (s.gh _ _ h1)), by rw [h2.len, hn], h F G0 G H σ _ s h2 Q k⟩

/-! ### statements -/
theorem ws_seq {F G0 : Hp} (h : Ws F G0 ts ρ { Ψ with nx := fun ρ' => Ws F G0 tsu ρ' Ψ }) : Ws F G0 (tSeq ts tsu) ρ Ψ := fun G H σ s D q1 q2 q3 q4 =>
  h G H σ s { D with nx := tsu D } (fun σ' ρ' G' H' s' g p => p G' H' σ' s' D (fun σ2 ρ2 G2 H2 s2 g2 p2 => q1 σ2 ρ2 G2 H2 s2 (g.trans g2) p2) (fun v d σ2 ρ2 G2 H2 s2 g2 r p2 => q2 v d σ2 ρ2 G2 H2 s2 (g.trans g2) r p2)
    (fun σ2 ρ2 G2 H2 s2 g2 p2 => q3 σ2 ρ2 G2 H2 s2 (g.trans g2) p2) (fun σ2 ρ2 G2 H2 s2 g2 p2 => q4 σ2 ρ2 G2 H2 s2 (g.trans g2) p2)) q2 q3 q4
theorem ws_nx {F G0 : Hp} (q : Ψ.nx ρ) : Ws F G0 tNext ρ Ψ := fun G H σ s D q1 q2 q3 q4 => q1 _ _ G H s (Same.refl G) q
theorem ws_brk {F G0 : Hp} (q : Ψ.bk ρ) : Ws F G0 tBreak ρ Ψ := fun G H σ s D q1 q2 q3 q4 => q3 _ _ G H s (Same.refl G) q
theorem ws_cont {F G0 : Hp} (q : Ψ.ct ρ) : Ws F G0 tCont ρ Ψ := fun G H σ s D q1 q2 q3 q4 => q4 _ _ G H s (Same.refl G) q
theorem ws_drop {F G0 : Hp} (h : We te ρ fun _ ρ1 => Ψ.nx ρ1) : Ws F G0 (tDrop te) ρ Ψ := fun G H σ s D q1 q2 q3 q4 => h F G0 G H σ s _ fun v d ρ1 G1 H1 s1 g1 r1 p => q1 _ _ G1 H1 s1 g1 p
theorem ws_ret {F G0 : Hp} (h : We te ρ fun d ρ1 => Ψ.rt d ρ1) : Ws F G0 (tRet te) ρ Ψ := fun G H σ s D q1 q2 q3 q4 => h F G0 G H σ s _ fun v d ρ1 G1 H1 s1 g1 r1 p => q2 v d _ _ G1 H1 s1 g1 r1 p
theorem ws_retN {F G0 : Hp} (q : Ψ.rt .none ρ) : Ws F G0 tRetN ρ Ψ := fun G H σ s D q1 q2 q3 q4 => q2 _ _ _ _ G H s (Same.refl G) .non q
theorem ws_if {F G0 : Hp} (h : Wt tt ρ fun b ρ1 => (b = true → Ws F G0 ts ρ1 Ψ) ∧ (b = false → Ws F G0 tsu ρ1 Ψ)) : Ws F G0 (tIfS tt ts tsu) ρ Ψ := fun G H σ s D q1 q2 q3 q4 =>
  h F G0 G H σ s _ fun b ρ1 G1 H1 s1 g1 p => by
    have a1 := fun σ2 ρ2 G2 H2 s2 g2 p2 => q1 σ2 ρ2 G2 H2 s2 (g1.trans g2) p2
    have a2 := fun v d σ2 ρ2 G2 H2 s2 g2 r p2 => q2 v d σ2 ρ2 G2 H2 s2 (g1.trans g2) r p2
    have a3 := fun σ2 ρ2 G2 H2 s2 g2 p2 => q3 σ2 ρ2 G2 H2 s2 (g1.trans g2) p2
    have a4 := fun σ2 ρ2 G2 H2 s2 g2 p2 => q4 σ2 ρ2 G2 H2 s2 (g1.trans g2) p2
    cases b with
    | true => exact p.1 rfl G1 H1 σ s1 D a1 a2 a3 a4
    | false => exact p.2 rfl G1 H1 σ s1 D a1 a2 a3 a4
theorem ws_asg {F G0 : Hp} {js : List Nat} (h : We te ρ fun d ρ1 => Wg g js d ρ1 Ψ.nx) : Ws F G0 (tAsg te g) ρ Ψ := fun G H σ s D q1 q2 q3 q4 =>
  h F G0 G H σ s _ fun v d ρ1 G1 H1 s1 g1 r1 p => p F G0 G1 H1 σ v s1 r1 _ fun σ2 ρ2 s2 e2 p2 => q1 σ2 ρ2 G1 H1 s2 g1 p2
theorem ws_set {F G0 : Hp} {i : Nat} (h : We te ρ fun d ρ1 => Ψ.nx (ρ1.set i (.val d))) : Ws F G0 (tAsg te (gName i)) ρ Ψ := ws_asg (h.imp fun _ _ q => wg_name q)
/-- name = a new list that will be changed -/
theorem ws_setN {F G0 : Hp} {i : Nat} (h : Wn te ρ fun ds ρ1 => ∀ p, Ψ.nx (ρ1.set i (.res (lst p ds)))) : Ws F G0 (tAsg te (gName i)) ρ Ψ := fun G H σ s D q1 q2 q3 q4 =>
  h F G0 G H σ s _ fun p xs ds ρ1 G1 H1 s1 g1 hp r1 hF hG hn q => q1 _ _ G1 H1 (s1.setR (v := .ref p) (r := lst p ds) ⟨rfl, xs, ds, hp, r1, rfl⟩ (fun a ha => by
      have e : a = p := by simpa [lst, lstP] using ha
      subst e
      exact ⟨hF, hG, by rw [hp]; simp⟩) (fun j x _ e a ha hb => by
      have e' : a = p := by simpa [lst, lstP] using hb
      subst e'
      exact hn j x e ha)) g1 (q p)
theorem ws_par {F G0 : Hp} {i j : Nat} (h : Wa tas ρ fun ds ρ1 => ∃ x y, ds = [x, y] ∧ Ψ.nx ((ρ1.set i (.val x)).set j (.val y))) : Ws F G0 (tPar i j tas) ρ Ψ := fun G H σ s D q1 q2 q3 q4 =>
  h F G0 G H σ s _ fun vs ds ρ1 G1 H1 s1 g1 r1 ⟨x, y, e, p⟩ => by
    subst e
    cases r1 with
    | cons ra rb =>
      cases rb with
      | cons rb rc =>
        cases rc
        exact ⟨_, _, rfl, q1 _ _ G1 H1 ((s1.setV ra).setV rb) g1 p⟩
/-- a list of nobody's is held while more is reckoned -/
theorem Sta.hold {F G0 G H : Hp} {σ : L2.St} {p : Addr} {xs : List V} (s : Sta F G0 G H σ ρ) (h : H p = some (.lst xs)) (hF : F p = none) (hG : G p = none) (hn : ∀ (j : Nat) (x : Slot), ρ[j]? = some x → p ∉ x.fp) : Sta (upd F p (.lst xs)) G0 G H σ ρ where
  fh := fun a o e => by
    by_cases ha : a = p
    · subst ha
      rw [upd_same] at e
      rw [h]
      exact e
    · rw [upd_ne ha] at e
      exact s.fh a o e
  gh := s.gh
  g0 := s.g0
  new := fun a o e n => by
    by_cases ha : a = p
    · subst ha
      rw [hG] at e
      cases e
    · rw [upd_ne ha] at n
      exact s.new a o e n
  len := s.len
  slot := fun i x e => by
    have q := s.slot i x e
    cases x with
    | any => trivial
    | val d => exact q
    | res r =>
      obtain ⟨v, e', k, n'⟩ := q
      refine ⟨v, e', k, fun a ha => ⟨?_, (n' a ha).2⟩⟩
      rw [upd_ne fun z => hn i _ e (by rw [← z]; exact ha)]
      exact (n' a ha).1
  apart := s.apart
theorem Sta.unhold {F G0 G H : Hp} {σ : L2.St} {p : Addr} {xs : List V} (s : Sta (upd F p (.lst xs)) G0 G H σ ρ) (hF : F p = none) (hG0 : G0 p = none) : Sta F G0 G H σ ρ ∧ H p = some (.lst xs) ∧ G p = none ∧ ∀ (j : Nat) (x : Slot), ρ[j]? = some x → p ∉ x.fp := by
  have hp : H p = some (.lst xs) := s.fh p _ upd_same
  refine ⟨⟨fun a o e => s.fh a o ?_, s.gh, s.g0, fun a o e n => s.new a o e ?_, s.len, fun i x e => ?_, s.apart⟩, hp, ?_, fun j x e hx => ?_⟩
  · rw [upd_ne fun z => by rw [z, hF] at e; cases e]
    exact e
  · rw [upd_ne fun z => n (by rw [z]; exact hF)]
    exact n
  · have q := s.slot i x e
    cases x with
    | any => trivial
    | val d => exact q
    | res r =>
      obtain ⟨v, e', k, n'⟩ := q
      refine ⟨v, e', k, fun a ha => ⟨?_, (n' a ha).2⟩⟩
      have z := (n' a ha).1
      by_cases hap : a = p
      · rw [hap]
        exact hF
      · rw [upd_ne hap] at z
        exact z
  · cases q : G p with
    | none => rfl
    | some o =>
      have z := s.new p o q (by rw [upd_same]; simp)
      rw [hG0] at z
      cases z
  · have q := s.slot j x e
    cases x with
    | any => cases hx
    | val d => cases hx
    | res r =>
      obtain ⟨v, e', k, n'⟩ := q
      have z := (n' p hx).1
      rw [upd_same] at z
      cases z
/-- a, b = [..], y: the first one a new list -/
theorem ws_parN {F G0 : Hp} {i j : Nat} (h : Wn ta ρ fun ds ρ1 => We tb ρ1 fun y ρ2 => ∀ p, Ψ.nx ((ρ2.set i (.res (lst p ds))).set j (.val y))) : Ws F G0 (tPar i j (tCons ta (tCons tb tNil))) ρ Ψ := fun G H σ s D q1 q2 q3 q4 =>
  h F G0 G H σ s _ fun p xs ds ρ1 G1 H1 s1 g1 hp r1 hF hG hn q =>
    q _ _ _ _ _ (s1.hold hp hF hG hn) _ fun v y ρ2 G2 H2 s2 g2 r2 k => by
      obtain ⟨s3, hp2, hG2, hn2⟩ := s2.unhold hF (none_of s1.g0 hG)
      refine ⟨_, _, rfl, q1 _ _ G2 H2 (Sta.setV (s3.setR (v := .ref p) (r := lst p ds) ⟨rfl, xs, ds, hp2, r1.mono g2, rfl⟩ (fun a ha => ?_) (fun j x _ e a ha hb => ?_)) r2) (g1.trans g2) (k p)⟩
      · have e : a = p := by simpa [lst, lstP] using ha
        subst e
        exact ⟨hF, hG2, by rw [hp2]; simp⟩
      · have e' : a = p := by simpa [lst, lstP] using hb
        subst e'
        exact hn2 j x e ha
/-- a, b = x, [..]: the second one a new list -/
theorem ws_parM {F G0 : Hp} {i j : Nat} (h : We ta ρ fun x ρ1 => Wn tb ρ1 fun ds ρ2 => ∀ p, Ψ.nx ((ρ2.set i (.val x)).set j (.res (lst p ds)))) : Ws F G0 (tPar i j (tCons ta (tCons tb tNil))) ρ Ψ := fun G H σ s D q1 q2 q3 q4 =>
  h F G0 G H σ s _ fun v x ρ1 G1 H1 s1 g1 r1 q => q F G0 G1 H1 σ s1 _ fun p xs ds ρ2 G2 H2 s2 g2 hp r2 hF hG hn k => by
      refine ⟨_, _, rfl, q1 _ _ G2 H2 (Sta.setR (s2.setV (r1.mono g2)) (v := .ref p) (r := lst p ds) ⟨rfl, xs, ds, hp, r2, rfl⟩ (fun a ha => ?_) (fun l z hl e a ha hb => ?_)) (g1.trans g2) (k p)⟩
      · have e : a = p := by simpa [lst, lstP] using ha
        subst e
        exact ⟨hF, hG, by rw [hp]; simp⟩
      · have e' : a = p := by simpa [lst, lstP] using hb
        subst e'
        by_cases hi : i = l
        · subst hi
          by_cases hlt : i < ρ2.length
          · rw [List.getElem?_set_self hlt] at e
            cases e
            cases ha
          · rw [List.getElem?_eq_none (by rw [List.length_set]; omega)] at e
            cases e
        · rw [List.getElem?_set_ne hi] at e
          exact hn l z e ha
theorem ws_aug {F G0 : Hp} {i : Nat} {x : PyData} {ti : TIp} (h0 : ρ[i]? = some (.val x)) (h : We te ρ fun y ρ1 => Op2 ti x y fun z => Ψ.nx (ρ1.set i (.val z))) : Ws F G0 (tAug i te ti) ρ Ψ := fun G H σ s D q1 q2 q3 q4 => by
  obtain ⟨v, e, r⟩ := s.get h0
  refine ⟨v, e, h F G0 G H σ s _ fun u y ρ1 G1 H1 s1 g1 r1 p => ?_⟩
  exact p G1 H1 v u s1.gh (r.mono g1) r1 _ fun w z G2 H2 gr rz p2 => q1 _ _ G2 H2 ((s1.grow gr).setV rz) (g1.trans gr.g) p2

/-! ### a list that changes -/
theorem Sta.upd {F G0 G H : Hp} {σ : L2.St} {i : Nat} {p : Addr} {P : List PyData → Prop} (s : Sta F G0 G H σ ρ) (h0 : ρ[i]? = some (.res (lstP p P))) {xs : List V} {ds : List PyData} {P' : List PyData → Prop} (r : RpA G xs ds) (hP : P' ds) : Sta F G0 G (L2.upd H p (.lst xs)) σ (ρ.set i (.res (lstP p P'))) := by
  obtain ⟨v, e1, ⟨hv, _⟩, hfp⟩ := s.getR h0
  have hin : p ∈ (lstP p P).fp := List.mem_cons_self
  obtain ⟨nF, nG, nH⟩ := hfp p hin
  have hi : i < ρ.length := (List.getElem?_eq_some_iff.mp h0).1
  refine ⟨fun a o e => ?_, fun a o e => ?_, s.g0, s.new, by rw [List.length_set, s.len], fun j x e => ?_, fun j k x y hjk ej ek a ha hb => ?_⟩
  · rw [upd_ne fun z => by rw [z, nF] at e; cases e]
    exact s.fh a o e
  · rw [upd_ne fun z => by rw [z, nG] at e; cases e]
    exact s.gh a o e
  · by_cases hj : i = j
    · subst hj
      rw [List.getElem?_set_self hi] at e
      cases e
      refine ⟨v, by rw [e1]; rfl, ⟨hv, xs, ds, upd_same, r, hP⟩, fun a ha => ?_⟩
      have e' : a = p := by simpa [lstP] using ha
      subst e'
      exact ⟨nF, nG, by rw [upd_same]; simp⟩
    · rw [List.getElem?_set_ne hj] at e
      have q := s.slot j x e
      cases x with
      | any => trivial
      | val d => exact q
      | res r' =>
        obtain ⟨v', e', k, n'⟩ := q
        have hne : ∀ a ∈ r'.fp, a ≠ p := fun a ha z => by
          rcases Nat.lt_or_ge i j with hl | hl
          · exact s.apart i j _ _ hl h0 e p hin (by rw [← z]; exact ha)
          · exact s.apart j i _ _ (by omega) e h0 a ha (by rw [z]; exact hin)
        refine ⟨v', e', r'.mono k (Same.refl G) fun a ha => upd_ne (hne a ha), fun a ha => ⟨(n' a ha).1, (n' a ha).2.1, ?_⟩⟩
        rw [upd_ne (hne a ha)]
        exact (n' a ha).2.2
  · by_cases hj : i = j
    · subst hj
      rw [List.getElem?_set_self hi] at ej
      cases ej
      rw [List.getElem?_set_ne (by omega)] at ek
      exact s.apart i k _ y hjk h0 ek a ha hb
    · rw [List.getElem?_set_ne hj] at ej
      by_cases hk : i = k
      · subst hk
        rw [List.getElem?_set_self hi] at ek
        cases ek
        exact s.apart j i x _ hjk ej h0 a ha hb
      · rw [List.getElem?_set_ne hk] at ek
        exact s.apart j k x y hjk ej ek a ha hb
theorem ws_app {F G0 : Hp} {i : Nat} {p : Addr} {ds0 : List PyData} (h0 : ρ[i]? = some (.res (lst p ds0))) (h : We te ρ fun d ρ1 => ∃ ds, ρ1[i]? = some (.res (lst p ds)) ∧ ds.length < 100000 ∧ Ψ.nx (ρ1.set i (.res (lst p (ds ++ [d]))))) :
    Ws F G0 (tDrop (tBM K "list" rAppend (tVar i) (tCons te tNil))) ρ Ψ := fun G H σ s D q1 q2 q3 q4 => by
  obtain ⟨v, e, ⟨rfl, xs0, _, hp0, _, _⟩, _⟩ := s.getR h0
  refine ⟨_, e, .inl ⟨rfl, xs0, .inl (.inl hp0)⟩, h F G0 G H σ s _ fun u d ρ1 G1 H1 s1 g1 r1 ⟨ds, k1, hl, k2⟩ => ?_⟩
  obtain ⟨v1, e1, ⟨rfl, xs, ds', hp, ra, rfl⟩, _⟩ := s1.getR k1
  refine ⟨p, xs, u, rfl, rfl, hp, by rw [ra.len]; exact szs hl, q1 _ _ G1 _ (s1.upd k1 (P' := fun x => x = ds' ++ [d]) (ra.app (.one r1)) rfl) g1 k2⟩
/-- l[i] = e -/
theorem ws_setI {F G0 : Hp} {i : Nat} {p : Addr} {ds0 : List PyData} {ti : TE} (h : We te ρ fun d ρ1 => ∃ ds1, ρ1[i]? = some (.res (lst p ds1)) ∧ We ti ρ1 fun k ρ2 => ∃ ds n j, ρ2[i]? = some (.res (lst p ds)) ∧ k = .int n ∧ ixN ds.length n = some j ∧ Ψ.nx (ρ2.set i (.res (lst p (ds.set j d))))) :
    Ws F G0 (tAsg te (gSub (tVar i) ti rSetL)) ρ Ψ := fun G H σ s D q1 q2 q3 q4 =>
  h F G0 G H σ s _ fun u d ρ1 G1 H1 s1 g1 r1 ⟨ds1, k1, hi⟩ => by
    obtain ⟨v1, e1, ⟨rfl, xs1, _, hp1, _, _⟩, _⟩ := s1.getR k1
    refine ⟨_, e1, hi F G0 G1 H1 σ s1 _ fun w k ρ2 G2 H2 s2 g2 r2 ⟨ds, n, j, k2, e2, ej, q⟩ => ?_⟩
    subst e2
    cases r2
    obtain ⟨v2, e2, ⟨_, xs, _, hp, ra, rfl⟩, _⟩ := s2.getR k2
    exact ⟨p, xs, n, j, rfl, rfl, hp, by rw [ra.len]; exact ej, q1 _ _ G2 _ (s2.upd k2 (P' := fun x => x = List.set _ j d) (ra.set (r1.mono g2) j) rfl) (g1.trans g2) q⟩
/-- the list's slot is read: it is data from now on -/
theorem we_varR {i : Nat} {p : Addr} {ds : List PyData} (h : ρ[i]? = some (.res (lst p ds))) (q : Φ (.list ds) (ρ.set i (.val (.list ds)))) : We (tVar i) ρ Φ := fun F G0 G H σ s Q k => by
  obtain ⟨v, e, ⟨rfl, xs, ds', hp, ra, rfl⟩, hfp⟩ := s.getR h
  have hin : p ∈ (lst p ds').fp := List.mem_cons_self
  obtain ⟨nF, nG, nH⟩ := hfp p hin
  have hi : i < ρ.length := (List.getElem?_eq_some_iff.mp h).1
  have s1 : Sta F G0 G H (σ.set i (some (.ref p))) (ρ.set i .any) := s.setN
  have eσ : σ.set i (some (.ref p)) = σ := by
    have hl : i < σ.length := by rw [s.len]; exact hi
    have e2 := e
    rw [List.getElem?_eq_getElem hl] at e2
    rw [← Option.some.inj e2]
    exact List.set_getElem_self hl
  rw [eσ] at s1
  have s2 := s1.freeze hp nF nG (fun j x ej hx => by
    by_cases hj : i = j
    · subst hj
      rw [List.getElem?_set_self hi] at ej
      cases ej
      cases hx
    · rw [List.getElem?_set_ne hj] at ej
      rcases Nat.lt_or_ge i j with hl | hl
      · exact s.apart i j _ _ hl h ej p hin hx
      · exact s.apart j i _ _ (by omega) ej h p hx hin)
  have rp : Rp (L2.upd G p (.lst xs)) (.ref p) (.list ds') := .lst upd_same (ra.mono (same_upd nG))
  have s3 := s2.setV (i := i) rp
  rw [eσ, List.set_set] at s3
  exact ⟨_, e, k _ _ _ _ H s3 (same_upd nG) rp q⟩
/-- by values, the heap as it is -/
def OpF2 (r : R2) (x y : PyData) (φ : PyData → Prop) : Prop := ∀ (G H : Hp) (v u : V), Same G H → Rp G v x → Rp G u y → ∀ Q : VK, (∀ w z, (∀ G', Rp G' w z) → φ z → Q w H) → r v u H Q
def OpFC (r : List V → Hp → VK → Prop) (xs : List PyData) (φ : PyData → Prop) : Prop := ∀ (G H : Hp) (vs : List V), Same G H → RpA G vs xs → ∀ Q : VK, (∀ w z, (∀ G', Rp G' w z) → φ z → Q w H) → r vs H Q
theorem OpF2.op {r : R2} {x y : PyData} {φ : PyData → Prop} (h : OpF2 r x y φ) : Op2 r x y φ := fun G H v u s r1 r2 Q k => h G H v u s r1 r2 Q fun w z hw p => k w z G H (.refl s) (hw G) p
theorem OpFC.op {r : List V → Hp → VK → Prop} {xs : List PyData} {φ : PyData → Prop} (h : OpFC r xs φ) : OpC r xs φ := fun G H v s r1 Q k => h G H v s r1 Q fun w z hw p => k w z G H (.refl s) (hw G) p
/-- the data of a list's slot, for a look -/
theorem Sta.look {F G0 G H : Hp} {σ : L2.St} {i : Nat} {p : Addr} {ds : List PyData} (s : Sta F G0 G H σ ρ) (h : ρ[i]? = some (.res (lst p ds))) : ∃ xs, σ[i]? = some (some (.ref p)) ∧ H p = some (.lst xs) ∧ G p = none ∧ RpA G xs ds ∧ Same (L2.upd G p (.lst xs)) H := by
  obtain ⟨v, e, ⟨rfl, xs, ds', hp, ra, rfl⟩, hfp⟩ := s.getR h
  have hin : p ∈ (lst p ds').fp := List.mem_cons_self
  obtain ⟨nF, nG, nH⟩ := hfp p hin
  refine ⟨xs, e, hp, nG, ra, fun a o ea => ?_⟩
  by_cases ha : a = p
  · subst ha
    rw [upd_same] at ea
    rw [hp]
    exact ea
  · rw [upd_ne ha] at ea
    exact s.gh a o ea
theorem we_opRL {r : R2} {i : Nat} {p : Addr} {ds0 : List PyData} (h : ρ[i]? = some (.res (lst p ds0))) (q : We tb ρ fun y ρ1 => ∃ ds, ρ1[i]? = some (.res (lst p ds)) ∧ OpF2 r (.list ds) y fun z => Φ z ρ1) : We (tOp r (tVar i) tb) ρ Φ := fun F G0 G H σ s Q k => by
  obtain ⟨xs, e, _⟩ := s.look h
  refine ⟨_, e, q F G0 G H σ s _ fun u y ρ1 G1 H1 s1 g1 r1 ⟨ds, h1, op⟩ => ?_⟩
  obtain ⟨ys, e1, hp, nG, ra, sm⟩ := s1.look h1
  exact op (L2.upd G1 p (.lst ys)) H1 _ _ sm (.lst upd_same (ra.mono (same_upd nG))) (r1.mono (same_upd nG)) Q fun w z hw pz => k w z ρ1 G1 H1 s1 g1 (hw G1) pz
theorem we_cbR {r : List V → Hp → VK → Prop} {i : Nat} {p : Addr} {ds : List PyData} (h : ρ[i]? = some (.res (lst p ds))) (op : OpFC r [.list ds] fun z => Φ z ρ) : We (tCB r (tCons (tVar i) tNil)) ρ Φ := fun F G0 G H σ s Q k => by
  obtain ⟨xs, e, hp, nG, ra, sm⟩ := s.look h
  exact ⟨_, e, op (L2.upd G p (.lst xs)) H _ sm (.cons (.lst upd_same (ra.mono (same_upd nG))) .nil) Q fun w z hw pz => k w z ρ G H s (Same.refl G) (hw G) pz⟩
theorem we_ixR {i : Nat} {p : Addr} {ds0 : List PyData} (h : ρ[i]? = some (.res (lst p ds0))) (q : We tb ρ fun y ρ1 => ∃ ds n d, ρ1[i]? = some (.res (lst p ds)) ∧ y = .int n ∧ atI ds n = some d ∧ Φ d ρ1) : We (tOp (rIx K) (tVar i) tb) ρ Φ := fun F G0 G H σ s Q k => by
  obtain ⟨xs, e, _⟩ := s.look h
  refine ⟨_, e, q F G0 G H σ s _ fun u y ρ1 G1 H1 s1 g1 r1 ⟨ds, n, d, h1, ey, ed, pz⟩ => ?_⟩
  subst ey
  cases r1
  obtain ⟨ys, e1, hp, nG, ra, sm⟩ := s1.look h1
  obtain ⟨j, ej, ed⟩ : ∃ j, ixN ds.length n = some j ∧ ds[j]? = some d := by
    unfold atI at ed
    cases q : ixN ds.length n with
    | none => rw [q] at ed; cases ed
    | some j => rw [q] at ed; exact ⟨j, rfl, ed⟩
  obtain ⟨w, ew, rw'⟩ := ra.get ed
  exact .inl ⟨p, ys, n, w, rfl, rfl, .inl (.inl hp), by unfold atI; rw [ra.len, ej]; exact ew, k w d ρ1 G1 H1 s1 g1 rw' pz⟩
end
end Dv

namespace Dv
open PySem L2

/-! ### promises -/
/-- a def that tells data of data and changes nothing -/
def SpD (pre : List PyData → (PyData → Prop) → Prop) : Sp := fun vs H Q _ => ∃ G ds φ, Same G H ∧ RpA G vs ds ∧ pre ds φ ∧ ∀ v d G' H', Grow G H G' H' → Rp G' v d → φ d → Q v H'
/-- growing, but for what lies at p -/
structure GrowP (p : Addr) (G H G' H' : Hp) : Prop where
  g : Same G G'
  h : ∀ a o, a ≠ p → H a = some o → H' a = some o
  gh : Same G' H'
  new : ∀ a o, G' a = some o → H a ≠ none → G a = some o
/-- a def whose first argument is a list that it changes (a purse): P n tells its items, n what was drawn so far at most -/
def SpZ (P : Nat → List PyData → Prop) (pre : Nat → List PyData → (Nat → PyData → Prop) → Prop) : Sp := fun vs H Q _ => ∃ G p ws ds n φ, vs = .ref p :: ws ∧ (lstP p (P n)).ok G H (.ref p) ∧ G p = none ∧ Same G H ∧ RpA G ws ds ∧ pre n ds φ ∧
  ∀ v d n' G' H', GrowP p G H G' H' → (lstP p (P n')).ok G' H' (.ref p) → Rp G' v d → φ n' d → Q v H'
def delH (H : Hp) (p : Addr) : Hp := fun a => if a = p then none else H a
theorem delH_same {H : Hp} {p : Addr} : delH H p p = none := if_pos rfl
theorem delH_ne {H : Hp} {p a : Addr} (h : a ≠ p) : delH H p a = H a := if_neg h
/-- the slots at a def's start -/
def slots0 (N : Nat) (ds : List PyData) : Rho := ds.map .val ++ List.replicate (N - ds.length) .any
theorem start_get {N : List Str} {vs : List V} {i : Nat} {v : V} (h : vs[i]? = some v) : (L2.start N vs)[i]? = some (some v) := by
  have hi : i < vs.length := (List.getElem?_eq_some_iff.mp h).1
  unfold L2.start
  rw [List.getElem?_append_left (by rw [List.length_map]; exact hi), List.getElem?_map, h]
  rfl
theorem slots0_get {N : Nat} {ds : List PyData} {i : Nat} {x : Slot} (h : (slots0 N ds)[i]? = some x) : (∃ d, x = .val d ∧ ds[i]? = some d) ∨ x = .any := by
  unfold slots0 at h
  by_cases hi : i < ds.length
  · rw [List.getElem?_append_left (by rw [List.length_map]; exact hi), List.getElem?_map, List.getElem?_eq_getElem hi] at h
    simp only [Option.map_some, Option.some.injEq] at h
    exact .inl ⟨_, h.symm, List.getElem?_eq_getElem hi⟩
  · rw [List.getElem?_append_right (by rw [List.length_map]; omega)] at h
    have h2 := List.getElem?_eq_some_iff.mp h
    obtain ⟨h3, h4⟩ := h2
    rw [List.getElem_replicate] at h4
    exact .inr h4.symm
theorem sta_start {G H : Hp} {N : List Str} {vs : List V} {ds : List PyData} (s : Same G H) (r : RpA G vs ds) (hN : vs.length ≤ N.length) : Sta H G G H (L2.start N vs) (slots0 N.length ds) where
  fh := Same.refl H
  gh := s
  g0 := Same.refl G
  new := fun a o e _ => e
  len := by
    unfold L2.start slots0
    have := r.len
    simp
    omega
  slot := fun i x e => by
    rcases slots0_get e with ⟨d, rfl, h⟩ | rfl
    · obtain ⟨v, e1, e2⟩ := r.get h
      exact ⟨v, by rw [start_get e1]; rfl, e2⟩
    · trivial
  apart := fun i j x y _ e1 e2 a ha hb => by
    rcases slots0_get e1 with ⟨d, rfl, h⟩ | rfl
    · cases ha
    · cases ha
/-- the body of a pure def -/
theorem fn_pure {pre : List PyData → (PyData → Prop) → Prop} {t : TS} {N : List Str} {n : Nat} (hn : n ≤ N.length) (hl : ∀ ds φ, pre ds φ → ds.length = n)
    (h : ∀ F G0 ds φ, pre ds φ → Ws F G0 t (slots0 N.length ds) { nx := fun _ => φ .none, rt := fun d _ => φ d }) {vs : List V} {H : Hp} {Q : VK} {E : XK} (hs : SpD pre vs H Q E) : t { nx := fun _ H' => Q .non H', rt := Q } (L2.start N vs) H := by
  obtain ⟨G, ds, φ, s, r, p, k⟩ := hs
  have hv : vs.length ≤ N.length := by rw [r.len, hl ds φ p]; exact hn
  have fin : ∀ (v : V) (d : PyData) (σ' : L2.St) (ρ' : Rho) (G' H' : Hp), Sta H G G' H' σ' ρ' → Same G G' → Rp G' v d → φ d → Q v H' := fun v d σ' ρ' G' H' s' g r' q => k v d G' H' ⟨g, s'.fh, s'.gh, s'.new⟩ r' q
  exact h H G ds φ p G H _ (sta_start s r hv) _ (fun σ' ρ' G' H' s' g q => fin .non .none σ' ρ' G' H' s' g .non q) (fun v d σ' ρ' G' H' s' g r' q => fin v d σ' ρ' G' H' s' g r' q) (fun _ _ _ _ _ _ q => q.elim) (fun _ _ _ _ _ _ q => q.elim)
theorem sp_len {pre : List PyData → (PyData → Prop) → Prop} {n : Nat} (hl : ∀ ds φ, pre ds φ → ds.length = n) : ∀ vs H Q E, SpD pre vs H Q E → vs.length = n := fun vs H Q E ⟨G, ds, φ, s, r, p, k⟩ => by rw [r.len, hl ds φ p]
/-- the body of a def with a purse -/
def slotsZ (N : Nat) (r : Res) (ds : List PyData) : Rho := .res r :: slots0 (N - 1) ds
theorem fn_z {P : Nat → List PyData → Prop} {pre : Nat → List PyData → (Nat → PyData → Prop) → Prop} {t : TS} {N : List Str} {n : Nat} (hn : n + 1 ≤ N.length) (hl : ∀ m ds φ, pre m ds φ → ds.length = n)
    (h : ∀ F G0 p m ds φ, pre m ds φ → Ws F G0 t (slotsZ N.length (lstP p (P m)) ds) { nx := fun ρ' => ∃ m', ρ'[0]? = some (.res (lstP p (P m'))) ∧ φ m' .none, rt := fun d ρ' => ∃ m', ρ'[0]? = some (.res (lstP p (P m'))) ∧ φ m' d })
    {vs : List V} {H : Hp} {Q : VK} {E : XK} (hs : SpZ P pre vs H Q E) : t { nx := fun _ H' => Q .non H', rt := Q } (L2.start N vs) H := by
  obtain ⟨G, p, ws, ds, m, φ, e, hok, hG, s, r, hp, k⟩ := hs
  subst e
  have hv : ws.length + 1 ≤ N.length := by rw [r.len, hl m ds φ hp]; exact hn
  obtain ⟨_, xs, es, hx, rx, hP⟩ := id hok
  have st : Sta (delH H p) G G H (L2.start N (.ref p :: ws)) (slotsZ N.length (lstP p (P m)) ds) := by
    refine ⟨fun a o e => ?_, s, Same.refl G, fun a o e _ => e, ?_, fun i x e => ?_, fun i j x y hij e1 e2 a ha hb => ?_⟩
    · by_cases hap : a = p
      · rw [hap, delH_same] at e
        cases e
      · rw [delH_ne hap] at e
        exact e
    · unfold L2.start slotsZ slots0
      have := r.len
      simp
      omega
    · cases i with
      | zero =>
        simp only [slotsZ, List.getElem?_cons_zero, Option.some.injEq] at e
        subst e
        refine ⟨.ref p, rfl, hok, fun a ha => ?_⟩
        have e' : a = p := by simpa [lstP] using ha
        subst e'
        exact ⟨delH_same, hG, by rw [hx]; simp⟩
      | succ i =>
        simp only [slotsZ, List.getElem?_cons_succ] at e
        rcases slots0_get e with ⟨d, rfl, h⟩ | rfl
        · obtain ⟨v, e1, e2⟩ := r.get h
          exact ⟨v, by rw [start_get (show (V.ref p :: ws)[i + 1]? = some v by simpa using e1)]; rfl, e2⟩
        · trivial
    · cases j with
      | zero => omega
      | succ j =>
        simp only [slotsZ, List.getElem?_cons_succ] at e2
        rcases slots0_get e2 with ⟨d, rfl, h⟩ | rfl
        · cases hb
        · cases hb
  have fin : ∀ (v : V) (d : PyData) (σ' : L2.St) (ρ' : Rho) (G' H' : Hp), Sta (delH H p) G G' H' σ' ρ' → Same G G' → Rp G' v d → (∃ m', ρ'[0]? = some (.res (lstP p (P m'))) ∧ φ m' d) → Q v H' := fun v d σ' ρ' G' H' s' g r' ⟨m', e, q⟩ => by
    obtain ⟨v0, e0, ⟨hv0, ys, fs, hy, ry, hP'⟩, hfp⟩ := s'.getR e
    have nG := (hfp p List.mem_cons_self).2.1
    refine k v d m' G' H' ⟨g, fun a o ha e => s'.fh a o (by rw [delH_ne ha]; exact e), s'.gh, fun a o e n => ?_⟩ ⟨rfl, ys, fs, hy, ry, hP'⟩ r' q
    refine s'.new a o e ?_
    rw [delH_ne (fun z => by rw [z, nG] at e; cases e)]
    exact n
  exact h _ G p m ds φ hp G H _ st _ (fun σ' ρ' G' H' s' g q => fin .non .none σ' ρ' G' H' s' g .non q) (fun v d σ' ρ' G' H' s' g r' q => fin v d σ' ρ' G' H' s' g r' q) (fun _ _ _ _ _ _ q => q.elim) (fun _ _ _ _ _ _ q => q.elim)
theorem spz_len {P : Nat → List PyData → Prop} {pre : Nat → List PyData → (Nat → PyData → Prop) → Prop} {n : Nat} (hl : ∀ m ds φ, pre m ds φ → ds.length = n) : ∀ vs H Q E, SpZ P pre vs H Q E → vs.length = n + 1 :=
  fun vs H Q E ⟨G, p, ws, ds, m, φ, e, hok, hG, s, r, hp, k⟩ => by rw [e, List.length_cons, r.len, hl m ds φ hp]

section
variable {te ta tb tc : TE} {tt tu : TT} {tas : TA} {ts tsu : TS} {ρ : Rho} {Φ Φ' : PyData → Rho → Prop} {Φb : Bool → Rho → Prop} {Ψ : Outs} {K : PySem.W.Frag} {g : TG} {wi : TI}
/-! ### calls -/
theorem we_call {pre : List PyData → (PyData → Prop) → Prop} {E : XK} (h : Wa tas ρ fun ds ρ1 => pre ds fun d => Φ d ρ1) : We (tCall (SpD pre) [] E tas) ρ Φ := fun F G0 G H σ s Q k =>
  h F G0 G H σ s _ fun vs ds ρ1 G1 H1 s1 g1 r1 p => ⟨G1, ds, _, s1.gh, by rw [List.append_nil]; exact r1, p, fun v d G' H' gr r q => k v d ρ1 G' H' (s1.grow gr) (g1.trans gr.g) r q⟩
/-- with defaults -/
theorem we_callD {pre : List PyData → (PyData → Prop) → Prop} {E : XK} {dvs : List V} {dd : List PyData} (hd : ∀ G, RpA G dvs dd) (h : Wa tas ρ fun ds ρ1 => pre (ds ++ dd) fun d => Φ d ρ1) : We (tCall (SpD pre) dvs E tas) ρ Φ := fun F G0 G H σ s Q k =>
  h F G0 G H σ s _ fun vs ds ρ1 G1 H1 s1 g1 r1 p => ⟨G1, ds ++ dd, _, s1.gh, r1.app (hd G1), p, fun v d G' H' gr r q => k v d ρ1 G' H' (s1.grow gr) (g1.trans gr.g) r q⟩
theorem Sta.growP {F G0 G H G' H' : Hp} {σ : L2.St} {i : Nat} {p : Addr} {P P' : List PyData → Prop} (s : Sta F G0 G H σ ρ) (h0 : ρ[i]? = some (.res (lstP p P))) (w : GrowP p G H G' H') (ok : (lstP p P').ok G' H' (.ref p)) : Sta F G0 G' H' σ (ρ.set i (.res (lstP p P'))) := by
  obtain ⟨v, e1, ⟨hv, _⟩, hfp⟩ := s.getR h0
  have hin : p ∈ (lstP p P).fp := List.mem_cons_self
  obtain ⟨nF, nG, nH⟩ := hfp p hin
  have hi : i < ρ.length := (List.getElem?_eq_some_iff.mp h0).1
  have nG' : G' p = none := by
    cases q : G' p with
    | none => rfl
    | some u => rw [w.new p u q nH] at nG; cases nG
  have hne : ∀ (j : Nat) (r' : Res), i ≠ j → ρ[j]? = some (.res r') → ∀ a ∈ r'.fp, a ≠ p := fun j r' hj e a ha z => by
    rcases Nat.lt_or_ge i j with hl | hl
    · exact s.apart i j _ _ hl h0 e p hin (by rw [← z]; exact ha)
    · exact s.apart j i _ _ (by omega) e h0 a ha (by rw [z]; exact hin)
  refine ⟨fun a o e => w.h a o (fun z => by rw [z, nF] at e; cases e) (s.fh a o e), w.gh, s.g0.trans w.g, fun a o e n => s.new a o (w.new a o e ?_) n, by rw [List.length_set, s.len], fun j x e => ?_, fun j k x y hjk ej ek a ha hb => ?_⟩
  · cases q : F a with
    | none => exact absurd q n
    | some u => rw [s.fh a u q]; simp
  · by_cases hj : i = j
    · subst hj
      rw [List.getElem?_set_self hi] at e
      cases e
      refine ⟨v, by rw [e1]; rfl, by rw [hv]; exact ok, fun a ha => ?_⟩
      have e' : a = p := by simpa [lstP] using ha
      subst e'
      obtain ⟨_, ys, fs, hy, _⟩ := ok
      exact ⟨nF, nG', by rw [hy]; simp⟩
    · rw [List.getElem?_set_ne hj] at e
      have q := s.slot j x e
      cases x with
      | any => trivial
      | val d =>
        obtain ⟨v', e', r⟩ := q
        exact ⟨v', e', r.mono w.g⟩
      | res r' =>
        obtain ⟨v', e', k, n'⟩ := q
        have hh : ∀ a ∈ r'.fp, H' a = H a := fun a ha => by
          cases q : H a with
          | none => exact absurd q (n' a ha).2.2
          | some u => exact w.h a u (hne j r' hj e a ha) q
        refine ⟨v', e', r'.mono k w.g hh, fun a ha => ⟨(n' a ha).1, ?_, by rw [hh a ha]; exact (n' a ha).2.2⟩⟩
        cases q : G' a with
        | none => rfl
        | some u => rw [← w.new a u q (n' a ha).2.2]; exact (n' a ha).2.1
  · by_cases hj : i = j
    · subst hj
      rw [List.getElem?_set_self hi] at ej
      cases ej
      rw [List.getElem?_set_ne (by omega)] at ek
      exact s.apart i k _ y hjk h0 ek a ha hb
    · rw [List.getElem?_set_ne hj] at ej
      by_cases hk : i = k
      · subst hk
        rw [List.getElem?_set_self hi] at ek
        cases ek
        exact s.apart j i x _ hjk ej h0 a ha hb
      · rw [List.getElem?_set_ne hk] at ek
        exact s.apart j k x y hjk ej ek a ha hb
theorem we_callZ {P : Nat → List PyData → Prop} {pre : Nat → List PyData → (Nat → PyData → Prop) → Prop} {E : XK} {i : Nat} {p : Addr} {n0 : Nat} (h0 : ρ[i]? = some (.res (lstP p (P n0))))
    (h : Wa tas ρ fun ds ρ1 => ∃ n, ρ1[i]? = some (.res (lstP p (P n))) ∧ pre n ds fun n' d => Φ d (ρ1.set i (.res (lstP p (P n'))))) : We (tCall (SpZ P pre) [] E (tCons (tVar i) tas)) ρ Φ := fun F G0 G H σ s Q k => by
  obtain ⟨v, e, ⟨hv, _⟩, _⟩ := s.getR h0
  subst hv
  refine ⟨_, e, h F G0 G H σ s _ fun vs ds ρ1 G1 H1 s1 g1 r1 ⟨n, e1, hp⟩ => ?_⟩
  obtain ⟨v1, e1', ok1, hfp⟩ := s1.getR e1
  have ev : v1 = .ref p := by
    obtain ⟨z, _⟩ := ok1
    exact z
  subst ev
  exact ⟨G1, p, vs, ds, n, _, by rw [List.append_nil], ok1, (hfp p List.mem_cons_self).2.1, s1.gh, r1, hp, fun v d n' G' H' gr ok r q => k v d _ G' H' (s1.growP e1 gr ok) (g1.trans gr.g) r q⟩

/-! ### what is walked -/
/-- J gives the data ds one by one, wherever G stands -/
def WalkD (J : It) (ds : List PyData) (G : Hp) : Prop := ∀ G2 H2 : Hp, Same G G2 → Same G2 H2 → J.stop ds.length H2 ∧ ∀ i d, ds[i]? = some d → J.go i H2 ∧ ∀ x H', J.yld i H2 x H' → ∃ G3, Grow G2 H2 G3 H' ∧ Rp G3 x d
def Wi (wi : TI) (ρ : Rho) (Φ : List PyData → Rho → Prop) : Prop := ∀ (F G0 G H : Hp) (σ : L2.St), Sta F G0 G H σ ρ → ∀ R : It → Hp → Prop, (∀ J ds ρ' G' H', Sta F G0 G' H' σ ρ' → Same G G' → WalkD J ds G' → Φ ds ρ' → R J H') → wi σ H R
theorem wi_list {Φ : List PyData → Rho → Prop} (h : We te ρ fun d ρ1 => ∃ ds, d = .list ds ∧ Φ ds ρ1) : Wi (iList K te) ρ Φ := fun F G0 G H σ s R k =>
  h F G0 G H σ s _ fun v d ρ1 G1 H1 s1 g1 r1 ⟨ds, e, q⟩ => by
    subst e
    cases r1 with
    | lst h1 h2 =>
      rename_i a xs
      refine ⟨a, rfl, ⟨xs, .inl (.inl (s1.gh _ _ h1))⟩, k _ ds ρ1 G1 H1 s1 g1 (fun G2 H2 s2 s3 => ?_) q⟩
      have hq : SqL K H2 a xs := .inl (.inl (s3 _ _ (s2 _ _ h1)))
      refine ⟨⟨xs, hq, by rw [h2.len]; exact Nat.le_refl _⟩, fun i d e => ?_⟩
      obtain ⟨v, ev, rv⟩ := h2.get e
      refine ⟨⟨xs, v, hq, ev⟩, fun x H' y => ?_⟩
      obtain ⟨eH, y⟩ := y
      subst eH
      have ex := y xs hq
      rw [ev] at ex
      cases ex
      exact ⟨G2, .refl s3, rv.mono s2⟩
theorem wi_tup {Φ : List PyData → Rho → Prop} (h : We te ρ fun d ρ1 => ∃ ds, d = .tuple ds ∧ Φ ds ρ1) : Wi (iTup K te) ρ Φ := fun F G0 G H σ s R k =>
  h F G0 G H σ s _ fun v d ρ1 G1 H1 s1 g1 r1 ⟨ds, e, q⟩ => by
    subst e
    cases r1 with
    | tup h1 h2 =>
      rename_i a xs
      refine ⟨a, rfl, ⟨xs, .inl (.inl (s1.gh _ _ h1))⟩, k _ ds ρ1 G1 H1 s1 g1 (fun G2 H2 s2 s3 => ?_) q⟩
      have hq : SqT K H2 a xs := .inl (.inl (s3 _ _ (s2 _ _ h1)))
      refine ⟨⟨xs, hq, by rw [h2.len]; exact Nat.le_refl _⟩, fun i d e => ?_⟩
      obtain ⟨v, ev, rv⟩ := h2.get e
      refine ⟨⟨xs, v, hq, ev⟩, fun x H' y => ?_⟩
      obtain ⟨eH, y⟩ := y
      subst eH
      have ex := y xs hq
      rw [ev] at ex
      cases ex
      exact ⟨G2, .refl s3, rv.mono s2⟩
def inz (lo : Int) (n : Nat) : List PyData := (List.range n).map fun (i : Nat) => .int (lo + i)
theorem inz_get {lo : Int} {n i : Nat} {d : PyData} (h : (inz lo n)[i]? = some d) : i < n ∧ d = .int (lo + i) := by
  unfold inz at h
  rw [List.getElem?_map] at h
  by_cases hi : i < n
  · rw [List.getElem?_range hi] at h
    exact ⟨hi, (Option.some.inj h).symm⟩
  · rw [List.getElem?_eq_none (by rw [List.length_range]; omega)] at h
    cases h
theorem inz_len {lo : Int} {n : Nat} : (inz lo n).length = n := by simp [inz]
theorem walk_rng {lo : Int} {n : Nat} {G : Hp} : WalkD (Itr lo n) (inz lo n) G := fun G2 H2 s2 s3 =>
  ⟨by rw [inz_len]; exact Nat.le_refl _, fun i d e => by
    obtain ⟨hi, rfl⟩ := inz_get e
    exact ⟨hi, fun x H' y => by obtain ⟨rfl, rfl⟩ := y; exact ⟨G2, .refl s3, .int _⟩⟩⟩
theorem wi_rng1 {Φ : List PyData → Rho → Prop} (h : Wa tas ρ fun ds ρ1 => ∃ j : Int, ds = [.int j] ∧ -(2 ^ 62) ≤ j ∧ j < 2 ^ 62 ∧ Φ (inz 0 j.toNat) ρ1) : Wi (iRng1 tas) ρ Φ := fun F G0 G H σ s R k =>
  h F G0 G H σ s _ fun vs ds ρ1 G1 H1 s1 g1 r1 ⟨j, e, b1, b2, q⟩ => by
    subst e
    cases r1 with
    | cons ra rb =>
      cases ra
      cases rb
      exact ⟨j, rfl, b1, b2, k _ _ ρ1 G1 H1 s1 g1 walk_rng q⟩
theorem wi_rng2 {Φ : List PyData → Rho → Prop} (h : Wa tas ρ fun ds ρ1 => ∃ i j : Int, ds = [.int i, .int j] ∧ (-(2 ^ 62) ≤ i ∧ i < 2 ^ 62 ∧ -(2 ^ 62) ≤ j ∧ j < 2 ^ 62) ∧ Φ (inz i (j - i).toNat) ρ1) : Wi (iRng2 tas) ρ Φ := fun F G0 G H σ s R k =>
  h F G0 G H σ s _ fun vs ds ρ1 G1 H1 s1 g1 r1 ⟨i, j, e, b, q⟩ => by
    subst e
    cases r1 with
    | cons ra rb =>
      cases rb with
      | cons rb rc =>
        cases ra
        cases rb
        cases rc
        exact ⟨i, j, rfl, b, k _ _ ρ1 G1 H1 s1 g1 walk_rng q⟩
def signs (z : Str) : List PyData := z.cps.toList.map fun c => .str ⟨#[c]⟩
theorem wi_str {Φ : List PyData → Rho → Prop} (h : We te ρ fun d ρ1 => ∃ z, d = .str z ∧ Φ (signs z) ρ1) : Wi (iStr te) ρ Φ := fun F G0 G H σ s R k =>
  h F G0 G H σ s _ fun v d ρ1 G1 H1 s1 g1 r1 ⟨z, e, q⟩ => by
    subst e
    cases r1
    refine ⟨z, rfl, k _ _ ρ1 G1 H1 s1 g1 (fun G2 H2 s2 s3 => ⟨?_, fun i d e => ?_⟩) q⟩
    · show z.cps.size ≤ (signs z).length
      simp [signs]
    · unfold signs at e
      rw [List.getElem?_map] at e
      cases q : z.cps.toList[i]? with
      | none => rw [q] at e; cases e
      | some c =>
        rw [q] at e
        obtain rfl := (Option.some.inj e).symm
        have hi : i < z.cps.size := by
          have := (List.getElem?_eq_some_iff.mp q).1
          simpa using this
        refine ⟨hi, fun x H' y => ?_⟩
        obtain ⟨rfl, c', hc, rfl⟩ := y
        have e2 : z.cps[i]? = some c := by simpa using q
        rw [e2] at hc
        cases hc
        exact ⟨G2, .refl s3, .str _⟩
/-- a new pair each turn -/
theorem grow_pair {G2 H2 : Hp} {T : Addr} {x y : V} {a b : PyData} (s : Same G2 H2) (n : H2 T = none) (r1 : Rp G2 x a) (r2 : Rp G2 y b) : Grow G2 H2 (upd G2 T (.tup [x, y])) (upd H2 T (.tup [x, y])) ∧ Rp (upd G2 T (.tup [x, y])) (.ref T) (.tuple [a, b]) := by
  have w : Grow G2 H2 (upd G2 T (.tup [x, y])) (upd H2 T (.tup [x, y])) := .laid s n
  exact ⟨w, .tup upd_same (.cons (r1.mono w.g) (.cons (r2.mono w.g) .nil))⟩
def pairs (ds es : List PyData) : List PyData := List.zipWith (fun a b => .tuple [a, b]) ds es
theorem wi_zip {Φ : List PyData → Rho → Prop} (h : Wa tas ρ fun vs ρ1 => ∃ ds es, vs = [.list ds, .list es] ∧ Φ (pairs ds es) ρ1) : Wi (iZip K tas) ρ Φ := fun F G0 G H σ s R k =>
  h F G0 G H σ s _ fun vs ls ρ1 G1 H1 s1 g1 r1 ⟨ds, es, e, q⟩ => by
    subst e
    cases r1 with
    | cons ra rb =>
      cases rb with
      | cons rb rc =>
        cases rc
        cases ra with
        | lst h1 h2 =>
          cases rb with
          | lst h3 h4 =>
            rename_i a xs b ys
            refine ⟨a, b, xs, ys, rfl, .inl (.inl (s1.gh _ _ h1)), .inl (.inl (s1.gh _ _ h3)), k _ _ ρ1 G1 H1 s1 g1 (fun G2 H2 s2 s3 => ?_) q⟩
            have hq : SqL K H2 a xs := .inl (.inl (s3 _ _ (s2 _ _ h1)))
            have hq' : SqL K H2 b ys := .inl (.inl (s3 _ _ (s2 _ _ h3)))
            have e1 := h2.len
            have e2 := h4.len
            refine ⟨⟨xs, ys, hq, hq', by simp [pairs]; omega⟩, fun i d e => ?_⟩
            unfold pairs at e
            rw [List.getElem?_zipWith] at e
            cases qa : ds[i]? with
            | none => rw [qa] at e; cases e
            | some da =>
              cases qb : es[i]? with
              | none => rw [qa, qb] at e; cases e
              | some db =>
                rw [qa, qb] at e
                obtain rfl := (Option.some.inj e).symm
                obtain ⟨v, ev, rv⟩ := h2.get qa
                obtain ⟨u, eu, ru⟩ := h4.get qb
                refine ⟨⟨xs, ys, v, u, hq, hq', ev, eu⟩, fun x H' y => ?_⟩
                obtain ⟨T, x1, x2, rfl, nT, rfl, f1, f2⟩ := y
                have z1 := f1 _ hq
                have z2 := f2 _ hq'
                rw [ev] at z1
                rw [eu] at z2
                cases z1
                cases z2
                exact ⟨_, grow_pair s3 nT (rv.mono s2) (ru.mono s2)⟩
def enumd (ds : List PyData) : List PyData := List.zipWith (fun a b => .tuple [a, b]) (inz 0 ds.length) ds
theorem wi_enum {Φ : List PyData → Rho → Prop} (h : Wa tas ρ fun vs ρ1 => ∃ ds, vs = [.list ds] ∧ Φ (enumd ds) ρ1) : Wi (iEnum K tas) ρ Φ := fun F G0 G H σ s R k =>
  h F G0 G H σ s _ fun vs ls ρ1 G1 H1 s1 g1 r1 ⟨ds, e, q⟩ => by
    subst e
    cases r1 with
    | cons ra rb =>
      cases rb
      cases ra with
      | lst h1 h2 =>
        rename_i a xs
        refine ⟨a, xs, rfl, .inl (.inl (s1.gh _ _ h1)), k _ _ ρ1 G1 H1 s1 g1 (fun G2 H2 s2 s3 => ?_) q⟩
        have hq : SqL K H2 a xs := .inl (.inl (s3 _ _ (s2 _ _ h1)))
        have e1 := h2.len
        refine ⟨⟨xs, hq, by simp [enumd, inz_len]; omega⟩, fun i d e => ?_⟩
        unfold enumd at e
        rw [List.getElem?_zipWith] at e
        cases qa : ds[i]? with
        | none =>
          rw [qa] at e
          cases qb : (inz 0 ds.length)[i]? <;> rw [qb] at e <;> cases e
        | some da =>
          cases qb : (inz 0 ds.length)[i]? with
          | none => rw [qb] at e; cases e
          | some db =>
            rw [qa, qb] at e
            obtain rfl := (Option.some.inj e).symm
            obtain ⟨hi, rfl⟩ := inz_get qb
            obtain ⟨v, ev, rv⟩ := h2.get qa
            refine ⟨⟨xs, v, hq, ev⟩, fun x H' y => ?_⟩
            obtain ⟨T, x1, rfl, nT, rfl, f1⟩ := y
            have z1 := f1 _ hq
            rw [ev] at z1
            cases z1
            refine ⟨_, grow_pair s3 nT ?_ (rv.mono s2)⟩
            rw [Int.zero_add]
            exact .int _

/-! ### for, while -/
theorem ws_for {F G0 : Hp} {js : List Nat} (h : Wi wi ρ fun ds ρ1 => ∃ Iv : Nat → Rho → Prop, Iv 0 ρ1 ∧ (∀ i d ρ', ds[i]? = some d → Iv i ρ' → Wg g js d ρ' fun ρ2 => Ws F G0 ts ρ2 { nx := Iv (i + 1), ct := Iv (i + 1), bk := Ψ.nx, rt := Ψ.rt }) ∧ ∀ ρ', Iv ds.length ρ' → Ψ.nx ρ') :
    Ws F G0 (tFor wi g ts) ρ Ψ := fun G H σ s D q1 q2 q3 q4 =>
  h F G0 G H σ s _ fun J ds ρ1 G1 H1 s1 g1 wk ⟨Iv, i0, turn, fin⟩ => by
    refine ⟨fun i m σ' H' => m = ds.length - i ∧ i ≤ ds.length ∧ ∃ ρ' G', Sta F G0 G' H' σ' ρ' ∧ Same G1 G' ∧ Iv i ρ', ⟨ds.length, by omega, Nat.zero_le _, ρ1, G1, s1, Same.refl G1, i0⟩, ?_⟩
    rintro i m σ' H' ⟨rfl, hi, ρ', G', s', g', iv⟩
    obtain ⟨w1, w2⟩ := wk G' H' g' s'.gh
    by_cases hlt : i < ds.length
    · have ed : ds[i]? = some ds[i] := List.getElem?_eq_getElem hlt
      obtain ⟨v1, v2⟩ := w2 i _ ed
      refine .inr ⟨v1, fun σ2 H2 => ∃ ρ2 G2, Sta F G0 G2 H2 σ2 ρ2 ∧ Same G1 G2 ∧ Iv (i + 1) ρ2, fun σ2 H2 ⟨ρ2, G2, a, b, c⟩ => ⟨ds.length - (i + 1), by omega, rfl, hlt, ρ2, G2, a, b, c⟩, fun x H2 y => ?_⟩
      obtain ⟨G3, gr, rx⟩ := v2 x H2 y
      have s3 := s'.grow gr
      refine turn i _ ρ' ed iv F G0 G3 H2 σ' x s3 rx _ fun σ4 ρ4 s4 _ p4 => ?_
      have gg : Same G1 G3 := g'.trans gr.g
      exact p4 G3 H2 σ4 s4 _ (fun σ5 ρ5 G5 H5 s5 g5 p5 => ⟨ρ5, G5, s5, gg.trans g5, p5⟩) (fun v d σ5 ρ5 G5 H5 s5 g5 r5 p5 => q2 v d σ5 ρ5 G5 H5 s5 ((g1.trans gg).trans g5) r5 p5) (fun σ5 ρ5 G5 H5 s5 g5 p5 => q1 σ5 ρ5 G5 H5 s5 ((g1.trans gg).trans g5) p5) (fun σ5 ρ5 G5 H5 s5 g5 p5 => ⟨ρ5, G5, s5, gg.trans g5, p5⟩)
    · have e : i = ds.length := by omega
      subst e
      exact .inl ⟨w1, q1 σ' ρ' G' H' s' (g1.trans g') (fin ρ' iv)⟩
theorem ws_while {F G0 : Hp} (Iv : Nat → Rho → Prop) {m0 : Nat} (i0 : Iv m0 ρ) (turn : ∀ m ρ', Iv m ρ' → Wt tt ρ' fun b ρ1 => (b = true → Ws F G0 ts ρ1 { nx := fun ρ2 => ∃ m', m' < m ∧ Iv m' ρ2, ct := fun ρ2 => ∃ m', m' < m ∧ Iv m' ρ2, bk := Ψ.nx, rt := Ψ.rt }) ∧ (b = false → Ψ.nx ρ1)) :
    Ws F G0 (tWhile tt ts) ρ Ψ := fun G H σ s D q1 q2 q3 q4 => by
  refine ⟨fun m σ' H' => ∃ ρ' G', Sta F G0 G' H' σ' ρ' ∧ Same G G' ∧ Iv m ρ', ⟨m0, ρ, G, s, Same.refl G, i0⟩, ?_⟩
  rintro m σ' H' ⟨ρ', G', s', g', iv⟩
  refine turn m ρ' iv F G0 G' H' σ' s' _ fun b ρ1 G1 H1 s1 g1 p => ?_
  cases b with
  | true =>
    refine ⟨fun σ2 H2 => ∃ m', m' < m ∧ ∃ ρ' G', Sta F G0 G' H2 σ2 ρ' ∧ Same G G' ∧ Iv m' ρ', fun σ2 H2 h => h, ?_⟩
    exact p.1 rfl G1 H1 σ' s1 _ (fun σ5 ρ5 G5 H5 s5 g5 ⟨m', hm, p5⟩ => ⟨m', hm, ρ5, G5, s5, (g'.trans g1).trans g5, p5⟩) (fun v d σ5 ρ5 G5 H5 s5 g5 r5 p5 => q2 v d σ5 ρ5 G5 H5 s5 ((g'.trans g1).trans g5) r5 p5) (fun σ5 ρ5 G5 H5 s5 g5 p5 => q1 σ5 ρ5 G5 H5 s5 ((g'.trans g1).trans g5) p5) (fun σ5 ρ5 G5 H5 s5 g5 ⟨m', hm, p5⟩ => ⟨m', hm, ρ5, G5, s5, (g'.trans g1).trans g5, p5⟩)
  | false => exact q1 σ' ρ1 G1 H1 s1 (g'.trans g1) (p.2 rfl)
end
end Dv

namespace Dv
open PySem L2

/-! ### comprehensions -/
def wipeR (ρ : Rho) : List Nat → Rho
  | [] => ρ
  | v :: vs => (wipeR ρ vs).set v .any
def keepV : Option Slot → Slot
  | some (.val d) => .val d
  | _ => .any
def mergeR (ρ1 ρ : Rho) : List Nat → Rho
  | [] => ρ
  | v :: vs => (mergeR ρ1 ρ vs).set v (keepV ρ1[v]?)
theorem wipe_out {σ : L2.St} {k : Nat} : ∀ {vs : List Nat}, k ∉ vs → (wipe σ vs)[k]? = σ[k]?
  | [], _ => rfl
  | v :: vs, h => by
    simp only [List.mem_cons, not_or] at h
    unfold wipe
    rw [List.getElem?_set_ne (fun z => h.1 z.symm), wipe_out h.2]
theorem wipe_in {σ : L2.St} {k : Nat} : ∀ {vs : List Nat}, k ∈ vs → k < σ.length → (wipe σ vs)[k]? = some none
  | v :: vs, h, hk => by
    unfold wipe
    by_cases hv : v = k
    · subst hv
      rw [List.getElem?_set_self (by rw [wipe_length]; exact hk)]
    · rw [List.getElem?_set_ne hv]
      refine wipe_in ?_ hk
      rcases List.mem_cons.mp h with z | z
      · exact absurd z.symm hv
      · exact z
theorem wipe_eq {σ1 σ2 : L2.St} {vs : List Nat} (hl : σ1.length = σ2.length) (h : ∀ k, k ∉ vs → σ1[k]? = σ2[k]?) : wipe σ1 vs = wipe σ2 vs := by
  refine List.ext_getElem? fun k => ?_
  by_cases hk : k ∈ vs
  · by_cases hlt : k < σ1.length
    · rw [wipe_in hk hlt, wipe_in hk (by omega)]
    · rw [List.getElem?_eq_none (by rw [wipe_length]; omega), List.getElem?_eq_none (by rw [wipe_length]; omega)]
  · rw [wipe_out hk, wipe_out hk, h k hk]
theorem wipe_wipe {σ : L2.St} {vs : List Nat} : wipe (wipe σ vs) vs = wipe σ vs := wipe_eq (wipe_length σ vs) fun k hk => wipe_out hk
section
variable {F G0 G H G1 H1 : Hp} {σ : L2.St} {ρ ρ1 : Rho}
theorem Sta.wipe (s : Sta F G0 G H σ ρ) : ∀ vs : List Nat, Sta F G0 G H (L2.wipe σ vs) (wipeR ρ vs)
  | [] => s
  | v :: vs => (s.wipe vs).setN
theorem wipeR_len (ρ : Rho) : ∀ vs : List Nat, (wipeR ρ vs).length = ρ.length
  | [] => rfl
  | v :: vs => by unfold wipeR; rw [List.length_set, wipeR_len ρ vs]
theorem mergeR_len (ρ1 ρ : Rho) : ∀ vs : List Nat, (mergeR ρ1 ρ vs).length = ρ.length
  | [] => rfl
  | v :: vs => by unfold mergeR; rw [List.length_set, mergeR_len ρ1 ρ vs]
theorem mergeR_get {k : Nat} {x : Slot} : ∀ {vs : List Nat}, (mergeR ρ1 ρ vs)[k]? = some x → (k ∉ vs ∧ ρ[k]? = some x) ∨ x = keepV ρ1[k]?
  | [], h => .inl ⟨by simp, h⟩
  | v :: vs, h => by
    unfold mergeR at h
    by_cases hv : v = k
    · subst hv
      by_cases hl : v < (mergeR ρ1 ρ vs).length
      · rw [List.getElem?_set_self hl] at h
        exact .inr (Option.some.inj h).symm
      · rw [List.getElem?_eq_none (by rw [List.length_set]; omega)] at h
        cases h
    · rw [List.getElem?_set_ne hv] at h
      rcases mergeR_get h with ⟨h1, h2⟩ | h1
      · exact .inl ⟨by simp only [List.mem_cons, not_or]; exact ⟨fun z => hv z.symm, h1⟩, h2⟩
      · exact .inr h1
theorem keepV_fp {x : Option Slot} : (keepV x).fp = [] := by
  unfold keepV
  split <;> rfl
/-- behind a comprehension the slots are as they were -/
theorem Sta.merge (s : Sta F G0 G H (L2.wipe σ vs) ρ) (s1 : Sta F G0 G1 H1 σ ρ1) (g : Same G1 G) : Sta F G0 G H σ (mergeR ρ1 ρ vs) where
  fh := s.fh
  gh := s.gh
  g0 := s.g0
  new := s.new
  len := by
    have := s.len
    rw [wipe_length] at this
    rw [mergeR_len, this]
  slot := fun k x e => by
    rcases mergeR_get e with ⟨h1, h2⟩ | rfl
    · have q := s.slot k x h2
      rw [wipe_out h1] at q
      exact q
    · cases q : ρ1[k]? with
      | none => trivial
      | some y =>
        have z := s1.slot k y q
        cases y with
        | any => trivial
        | res r => trivial
        | val d =>
          obtain ⟨v, e1, e2⟩ := z
          exact ⟨v, e1, e2.mono g⟩
  apart := fun i j x y hij e1 e2 a ha hb => by
    rcases mergeR_get e1 with ⟨h1, h2⟩ | rfl
    · rcases mergeR_get e2 with ⟨h3, h4⟩ | rfl
      · exact s.apart i j x y hij h2 h4 a ha hb
      · rw [keepV_fp] at hb
        cases hb
    · rw [keepV_fp] at ha
      cases ha
/-- a list of nobody's changes -/
theorem Sta.put {p : Addr} {o : HO} (s : Sta F G0 G H σ ρ) (hF : F p = none) (hG : G p = none) (hn : ∀ (j : Nat) (x : Slot), ρ[j]? = some x → p ∉ x.fp) : Sta F G0 G (L2.upd H p o) σ ρ where
  fh := fun a u e => by
    rw [upd_ne fun z => by rw [z, hF] at e; cases e]
    exact s.fh a u e
  gh := fun a u e => by
    rw [upd_ne fun z => by rw [z, hG] at e; cases e]
    exact s.gh a u e
  g0 := s.g0
  new := s.new
  len := s.len
  slot := fun i x e => by
    have q := s.slot i x e
    cases x with
    | any => trivial
    | val d => exact q
    | res r =>
      obtain ⟨v, e', k, n'⟩ := q
      have hne : ∀ a ∈ r.fp, a ≠ p := fun a ha z => hn i _ e (by rw [← z]; exact ha)
      refine ⟨v, e', r.mono k (Same.refl G) fun a ha => upd_ne (hne a ha), fun a ha => ⟨(n' a ha).1, (n' a ha).2.1, ?_⟩⟩
      rw [upd_ne (hne a ha)]
      exact (n' a ha).2.2
  apart := s.apart
theorem wipeR_get {k : Nat} {x : Slot} : ∀ {vs : List Nat}, (wipeR ρ vs)[k]? = some x → ρ[k]? = some x ∨ x = .any
  | [], h => .inl h
  | v :: vs, h => by
    unfold wipeR at h
    by_cases hv : v = k
    · subst hv
      by_cases hl : v < (wipeR ρ vs).length
      · rw [List.getElem?_set_self hl] at h
        exact .inr (Option.some.inj h).symm
      · rw [List.getElem?_eq_none (by rw [List.length_set]; omega)] at h
        cases h
    · rw [List.getElem?_set_ne hv] at h
      exact wipeR_get h
end
section
variable {te ta tb tc : TE} {tt tu : TT} {tas : TA} {ts tsu : TS} {ρ : Rho} {K : PySem.W.Frag} {g : TG} {wi : TI}
theorem wn_lc {vs js : List Nat} {Φ : List PyData → Rho → Prop} (hj : ∀ k ∈ js, k ∈ vs)
    (h : Wi wi ρ fun ds ρ1 => ds.length < 100000 ∧ ∃ Iv : Nat → List PyData → Rho → Prop, Iv 0 [] (wipeR ρ1 vs) ∧
      (∀ i d acc ρ', ds[i]? = some d → acc.length ≤ i → Iv i acc ρ' → Wg g js d ρ' fun ρ2 => Wt tt ρ2 fun b ρ3 => (b = true → We te ρ3 fun y ρ4 => Iv (i + 1) (acc ++ [y]) (wipeR ρ4 vs)) ∧ (b = false → Iv (i + 1) acc (wipeR ρ3 vs))) ∧
      ∀ acc ρ', Iv ds.length acc ρ' → Φ acc (mergeR ρ1 ρ' vs)) : Wn (tLc wi g tt te vs) ρ Φ := fun F G0 G H σ s Q k =>
  h F G0 G H σ s _ fun J ds ρ1 G1 H1 s1 g1 wk ⟨hl, Iv, i0, turn, fin⟩ => by
    intro D nD
    have nF : F D = none := none_of s1.fh nD
    have st0 : Sta F G0 G1 (L2.upd H1 D (.lst [])) (L2.wipe σ vs) (wipeR ρ1 vs) := (s1.laid nD).wipe vs
    have fp0 : ∀ (j : Nat) (x : Slot), (wipeR ρ1 vs)[j]? = some x → D ∉ x.fp := fun j x e => by
      rcases wipeR_get e with e | rfl
      · exact s1.nofp nD j x e
      · intro z
        cases z
    refine ⟨fun i m H' => m = ds.length - i ∧ i ≤ ds.length ∧ ∃ ρ' G' acc as, Sta F G0 G' H' (L2.wipe σ vs) ρ' ∧ Same G1 G' ∧ H' D = some (.lst acc) ∧ RpA G' acc as ∧ G' D = none ∧ (∀ (j : Nat) (x : Slot), ρ'[j]? = some x → D ∉ x.fp) ∧ as.length ≤ i ∧ Iv i as ρ',
      ⟨ds.length, by omega, Nat.zero_le _, _, G1, [], [], st0, Same.refl G1, upd_same, .nil, none_of s1.gh nD, fp0, Nat.le_refl _, i0⟩, ?_⟩
    rintro i m H' ⟨rfl, hi, ρ', G', acc, as, s', g', hD, ra, nG, fp', hal, iv⟩
    obtain ⟨w1, w2⟩ := wk G' H' g' s'.gh
    by_cases hlt : i < ds.length
    · have ed : ds[i]? = some ds[i] := List.getElem?_eq_getElem hlt
      obtain ⟨v1, v2⟩ := w2 i _ ed
      refine .inr ⟨v1, fun H2 => ∃ ρ2 G2 acc as, Sta F G0 G2 H2 (L2.wipe σ vs) ρ2 ∧ Same G1 G2 ∧ H2 D = some (.lst acc) ∧ RpA G2 acc as ∧ G2 D = none ∧ (∀ (j : Nat) (x : Slot), ρ2[j]? = some x → D ∉ x.fp) ∧ as.length ≤ i + 1 ∧ Iv (i + 1) as ρ2,
        fun H2 ⟨ρ2, G2, acc, as, q⟩ => ⟨ds.length - (i + 1), by omega, rfl, hlt, ρ2, G2, acc, as, q⟩, fun x H2 y => ?_⟩
      obtain ⟨G3, gr, rx⟩ := v2 x H2 y
      have s3 := (s'.hold hD nF nG fp').grow gr
      have nG0 : G0 D = none := none_of s'.g0 nG
      refine turn i _ as ρ' ed hal iv (L2.upd F D (.lst acc)) G0 G3 H2 (L2.wipe σ vs) x s3 rx _ fun σ4 ρ4 s4 e4 p4 => ?_
      have el : σ4.length = (L2.wipe σ vs).length := e4.1
      have ew : L2.wipe σ4 vs = L2.wipe σ vs := by
        rw [← wipe_wipe (σ := σ)]
        exact wipe_eq el fun k hk => e4.2 k fun z => hk (hj k z)
      refine ⟨ew, p4 _ _ _ _ _ s4 _ fun b ρ5 G5 H5 s5 g5 p5 => ?_⟩
      cases b with
      | true =>
        show te σ4 H5 _
        refine p5.1 rfl _ _ _ _ _ s5 _ fun u y ρ6 G6 H6 s6 g6 r6 p6 => ?_
        obtain ⟨s7, hD7, nG7, fp7⟩ := s6.unhold nF nG0
        have ra7 := ra.mono ((gr.g.trans g5).trans g6)
        refine ⟨acc, hD7, by rw [ra.len]; exact szs (by omega), wipeR ρ6 vs, G6, acc ++ [u], as ++ [y], ?_, ((g'.trans gr.g).trans g5).trans g6, upd_same, ra7.app (.one r6), nG7, fun j x e => ?_, by rw [List.length_append]; exact Nat.succ_le_succ hal, p6⟩
        · rw [← ew]
          exact (s7.put nF nG7 fp7).wipe vs
        · rcases wipeR_get e with e | rfl
          · exact fp7 j x e
          · intro z
            cases z
      | false =>
        show ∃ _, _
        obtain ⟨s7, hD7, nG7, fp7⟩ := s5.unhold nF nG0
        refine ⟨wipeR ρ5 vs, G5, acc, as, ?_, (g'.trans gr.g).trans g5, hD7, ra.mono (gr.g.trans g5), nG7, fun j x e => ?_, by omega, p5.2 rfl⟩
        · rw [← ew]
          exact s7.wipe vs
        · rcases wipeR_get e with e | rfl
          · exact fp7 j x e
          · intro z
            cases z
    · have e : i = ds.length := by omega
      subst e
      refine .inl ⟨w1, k D acc as (mergeR ρ1 ρ' vs) G' H' (s'.merge s1 g') (g1.trans g') hD ra nF nG (fun j x e => ?_) (fin as ρ' iv)⟩
      rcases mergeR_get e with ⟨_, e⟩ | rfl
      · exact fp' j x e
      · rw [keepV_fp]
        intro z
        cases z
/-- each item by itself: f tells the element, c the test; nothing else changes -/
theorem wn_lcP {vs js : List Nat} {Φ : List PyData → Rho → Prop} (hj : ∀ k ∈ js, k ∈ vs)
    (h : Wi wi ρ fun ds ρ1 => ds.length < 100000 ∧ mergeR ρ1 (wipeR ρ1 vs) vs = ρ1 ∧ ∃ (c : PyData → Bool) (f : PyData → PyData),
      (∀ d, d ∈ ds → Wg g js d (wipeR ρ1 vs) fun ρ2 => wipeR ρ2 vs = wipeR ρ1 vs ∧ Wt tt ρ2 fun b ρ3 => ρ3 = ρ2 ∧ b = c d ∧ (b = true → We te ρ2 fun y ρ4 => ρ4 = ρ2 ∧ y = f d)) ∧ Φ ((ds.filter c).map f) ρ1) : Wn (tLc wi g tt te vs) ρ Φ := by
  refine wn_lc hj (fun F G0 G H σ s R k => h F G0 G H σ s R fun J ds ρ1 G' H' s' g' w ⟨hl, hm, c, f, turn, fin⟩ => k J ds ρ1 G' H' s' g' w ⟨hl, fun i acc ρ' => acc = ((ds.take i).filter c).map f ∧ ρ' = wipeR ρ1 vs, ⟨rfl, rfl⟩, ?_, ?_⟩)
  · rintro i d acc ρ' ed _ ⟨rfl, rfl⟩
    have q := turn d (List.mem_of_getElem? ed)
    have et : ds.take (i + 1) = ds.take i ++ [d] := by rw [List.take_add_one, ed]; rfl
    refine fun F G0 G H σ v s r Q k => q F G0 G H σ v s r Q fun σ' ρ2 s2 e2 ⟨hw, p⟩ => k σ' ρ2 s2 e2 (p.imp ?_)
    rintro b ρ3 ⟨rfl, rfl, p2⟩
    refine ⟨fun hc => (p2 hc).imp ?_, fun hc => ⟨?_, hw⟩⟩
    · rintro y ρ4 ⟨rfl, rfl⟩
      refine ⟨?_, hw⟩
      rw [et, List.filter_append, List.map_append, List.filter_cons, hc]
      rfl
    · rw [et, List.filter_append, List.map_append, List.filter_cons, hc]
      simp
  · rintro acc ρ' ⟨rfl, rfl⟩
    rw [List.take_length, hm]
    exact fin
end
end Dv

namespace Dv
open PySem L2 PyProof.Rows

/-! ### defs that run where no container is being shown (so repr of a list may be told) -/
structure FnG (P : Program) (w : World) (K : PySem.W.Frag) (mg : Str → Option Value) (base : Heap) (cx : CXT) (k : Nat) (f : Addr) (fd : FuncData) (ps : List Str) (sp : Sp) : Prop where
  len : ∀ vs H Q E, sp vs H Q E → vs.length = ps.length
  run : ∀ (A : Around) (outer : List PySem.Env) (s : Shared) (H : Hp) (args : Args) (us : List Value) (vs : List V) (Q : VK) (E : XK), Room k A → A.guards = some [] →
    Env0 P w K mg base A outer s H → BindsTo s fd args (ps.zip us) → Vals vs us → sp vs H Q E → codeAny (model P w) A (.call (.ref f) args) (CR cx outer P w H s Q E) s
section
variable {P : Program} {w : World} {K : PySem.W.Frag} {mg : Str → Option Value} {base : Heap} {cx : CXT} {f : Addr} {ps : List Str} {sp : Sp}
theorem FnG.mono {j k : Nat} {fd : FuncData} (F : FnG P w K mg base cx j f fd ps sp) (h : j ≤ k) : FnG P w K mg base cx k f fd ps sp :=
  ⟨F.len, fun A outer s H args us vs Q E r => F.run A outer s H args us vs Q E (r.mono h)⟩
theorem FnG.imp {k : Nat} {fd : FuncData} {sp' : Sp} (F : FnG P w K mg base cx k f fd ps sp) (h : ∀ vs H Q E, sp' vs H Q E → sp vs H Q E) : FnG P w K mg base cx k f fd ps sp' :=
  ⟨fun vs H Q E q => F.len vs H Q E (h vs H Q E q), fun A outer s H args us vs Q E r g e b v q => F.run A outer s H args us vs Q E r g e b v (h vs H Q E q)⟩
/-- a def of the text by its body -/
theorem FnG.of {k : Nat} {name qual : Str} {params : Arguments} {body : List Stmt} {scope : Scope} {dV kV doc pm cdv ct oc : Value} {an od : Option Addr} {osl : Array (Option Value)} {N : List Str}
    (lk : K.lookup f = some ⟨oc, od, .func (PySem.W.fnOf name qual params body scope dV kV doc pm an cdv ct), osl⟩) (hcd : PySem.W.codeIn K cdv qual = true) (S : FnScope N ps scope)
    (len : ∀ vs H Q E, sp vs H Q E → vs.length = ps.length)
    (hb : ∀ (A : Around) (outer : List PySem.Env) (s : Shared) (H : Hp) (vs : List V) (Q : VK) (E : XK), Room k (A.deeper (envOfC qual scope s.heap.objs.size f cdv)) →
      (cxOf cx P w K mg base N qual scope f cdv A outer s H E).A.guards = some [] → sp vs H Q E →
      ∃ t, PSs (cxOf cx P w K mg base N qual scope f cdv A outer s H E) body t ∧ t { nx := fun _ H' => Q .non H', rt := Q } (L2.start N vs) H) :
    FnG P w K mg base cx (k + 1) f (PySem.W.fnOf name qual params body scope dV kV doc pm an cdv ct) ps sp where
  len := len
  run := by
    intro A outer s H args us vs Q E hr hg e0 hbind rv hsp
    have hin : ∀ b o, base.get? b = some o → s.heap.get? b = some o := fun b o e => (e0.bs b o e).1
    have KX : K.In s.heap := e0.mod.kin.keeps hin
    have kinds : ∀ y ∈ ps.zip us, scope.names.lookup y.1 = some .local ∨ (scope.names.lookup y.1 = some .cell ∧ ((cellsFrom (s.heap.objs.size + 1) scope.names []).lookup y.1).isSome = true) := by
      rintro ⟨n, v⟩ hy
      have hp : n ∈ ps := (List.of_mem_zip hy).1
      cases S.par n hp with
      | inl q => exact Or.inl q
      | inr q => exact Or.inr ⟨q, PySem.W.cellsFrom_some _ _ _ (.inl q)⟩
    refine codeAny_call_function hr.depth (KX _ _ lk) rfl S.co S.gen rfl (PySem.W.codeRec_of KX hcd) (hbind _ _ _ _ ?_)
    refine wpAny_newFunctionEnv_cells S.kind kinds fun env he s1 x => ?_
    subst he
    refine ⟨(e0.mod.nolimit.keeps hin).keeps x.toInCall.keep, codeAny_func ?_⟩
    obtain ⟨t, ht, hq⟩ := hb A outer s H vs Q E (hr.deeper _) hg hsp
    have I : L2.Inv (cxOf cx P w K mg base N qual scope f cdv A outer s H E) [] (L2.start N vs) H s1 := inv_start S hr.hd e0 (len _ _ _ _ hsp) rv x
    refine wpAny_mono (ht.run [] s1 _ H _ I hq) ?_ fun _ _ h => h
    intro fl s' h
    cases fl with
    | next =>
      obtain ⟨σ', H', J, q⟩ := h
      exact ⟨.non, H', J.os, J.bare, J.base, J.hok, rfl, q⟩
    | ret u =>
      obtain ⟨v, σ', H', J, r, q⟩ := h
      exact ⟨v, H', J.os, J.bare, J.base, J.hok, r, q⟩
    | brk =>
      obtain ⟨_, _, _, q⟩ := h
      exact q.elim
    | cont =>
      obtain ⟨_, _, _, q⟩ := h
      exact q.elim
end

/-! ### calls of such defs -/
section
variable {X : Cx} {cx : CXT} {k : Nat} {f : Addr} {fd : FuncData} {ps ks : List Str} {sp : Sp} {dvs : List V} {ds : List Value} {E : XK} {x : Str} {p pos : Pos} {e : Expr} {es : List Expr} {kws : List Keyword} {t tk : TA}
theorem run_g {args : Args} {pins : List (Addr × Obj)} {σ : L2.St} {H : Hp} {s : Shared} {Q : VK} {us : List Value} {vs : List V} (F : FnG X.prog X.w X.K X.mg X.base cx k f fd ps sp) (hr : Room k X.A) (hg : X.A.guards = some []) (hx : Passes cx X E) (I : L2.Inv X pins σ H s)
    (hb : BindsTo s fd args (ps.zip us)) (r : Vals vs us) (h : sp vs H Q E) : codeAny (model X.prog X.w) X.A (.call (.ref f) args) (fun r s' => match r with
      | .ok (.ret u) => EP X pins σ Q u s'
      | .ok _ => False
      | .error e => X.xe e s') s := by
  refine codeAny_mono (F.run X.A X.stack s H args us vs Q E hr hg I.env0 hb r h) ?_
  intro r s' hq
  cases r with
  | error e => exact hx pins σ H s e s' I hq
  | ok fl =>
    cases fl with
    | ret u => exact I.after hq
    | next => exact hq.elim
    | brk => exact hq.elim
    | cont => exact hq.elim
theorem call_g {kw : List (Str × Value)} {pins : List (Addr × Obj)} {σ : L2.St} {H : Hp} {s : Shared} {Q : VK} {us0 us : List Value} {vs : List V} (F : FnG X.prog X.w X.K X.mg X.base cx k f fd ps sp) (hr : Room k X.A) (hg : X.A.guards = some []) (hx : Passes cx X E) (I : L2.Inv X pins σ H s)
    (hb : BindsTo s fd ⟨us0, kw⟩ (ps.zip us)) (r : Vals vs us) (h : sp vs H Q E) : wpAny (model X.prog X.w) X.A (call (.ref f) us0 kw) (EP X pins σ Q) X.xe s := by
  refine wpAny_call (codeAny_mono (run_g F hr hg hx I hb r h) ?_)
  intro r s' hq
  cases r with
  | error e => exact hq
  | ok fl =>
    cases fl with
    | ret u => exact hq
    | next => exact hq.elim
    | brk => exact hq.elim
    | cont => exact hq.elim
/-- f(e, ..) -/
theorem pe_cg (F : FnG X.prog X.w X.K X.mg X.base cx k f fd ps sp) (hr : Room k X.A) (hgd : X.A.guards = some []) (hg : Gl X x) (hm : X.mg x = some (.ref f)) (hk : PySem.W.keepIn X.K (.ref f) = true) (hb : Binds X.K fd ps ds) (hd : Vals dvs ds) (hx : Passes cx X E)
    (ha : PA X (e :: es) t) (hdb : (x == ("__debug__" : Str)) = false := by decide) (he : starEach (e :: es) X.env = (false, eval e X.env) :: starEach es X.env := by rfl) (hpl : (backTo pos (starEach es X.env)).any (·.1) = false := by rfl) :
    PE X (.Call (.Name x p) (e :: es) [] pos) (tCall sp dvs E t) where
  run := by
    intro pins s σ H Q I h
    refine wpAny_Call_Name_kw (ld_glob I hg hm ?_ hdb)
    refine PySem.W.callWith_K (h₀ := X.base) I.ok.mod.kin hk (thn (ha.run pos pins s σ H _ I h) ?_) he hpl
    rintro us s1 ⟨vs, H1, I1, r, q⟩
    have r2 := r.append hd
    exact ⟨I1.kIn, call_g F hr hgd hx I1 (hb s1 us I1.kIn (by rw [← r2.length]; exact F.len _ _ _ _ q)) r2 q⟩
/-- f() -/
theorem pe_cg0 (F : FnG X.prog X.w X.K X.mg X.base cx k f fd ps sp) (hr : Room k X.A) (hgd : X.A.guards = some []) (hg : Gl X x) (hm : X.mg x = some (.ref f)) (hk : PySem.W.keepIn X.K (.ref f) = true) (hb : Binds X.K fd ps ds) (hd : Vals dvs ds) (hx : Passes cx X E)
    (hdb : (x == ("__debug__" : Str)) = false := by decide) : PE X (.Call (.Name x p) [] [] pos) (tCall sp dvs E tNil) where
  run := by
    intro pins s σ H Q I h
    refine wpAny_Call_Name_kw (ld_glob I hg hm ?_ hdb)
    have r2 : Vals ([] ++ dvs) ([] ++ ds) := Vals.append .nil hd
    exact PySem.W.callWith_K0 I.kIn hk (call_g F hr hgd hx I (hb s [] I.kIn (by rw [← r2.length]; exact F.len _ _ _ _ h)) r2 h)
/-- f(k = v, ..), f(e, .., k = v, ..): gV puts the values in the parameters' order -/
theorem pe_cgK (F : FnG X.prog X.w X.K X.mg X.base cx k f fd ps sp) (hr : Room k X.A) (hgd : X.A.guards = some []) (hg : Gl X x) (hm : X.mg x = some (.ref f)) (hk : PySem.W.keepIn X.K (.ref f) = true) {g : List Value → List Value → List Value} {gV : List V → List V → List V} (hb : KBinds X.K fd ps ks g gV) (hx : Passes cx X E)
    (ha : PA X (e :: es) t) (hkw : PK X kws tk) (hall : (backToKw pos (keywordEach kws X.env)).all (·.1.isSome) = true := by rfl) (hks : (backToKw pos (keywordEach kws X.env)).filterMap (·.1) = ks := by rfl)
    (hdb : (x == ("__debug__" : Str)) = false := by decide) (he : starEach (e :: es) X.env = (false, eval e X.env) :: starEach es X.env := by rfl)
    (hpl : ((backTo pos (starEach (e :: es) X.env)).any (·.1) || (backToKw pos (keywordEach kws X.env)).any (·.1.isNone)) = false := by rfl) :
    PE X (.Call (.Name x p) (e :: es) kws pos) (tCallK sp gV E t tk) where
  run := by
    intro pins s σ H Q I h
    refine wpAny_Call_Name_kw (ld_glob I hg hm ?_ hdb)
    refine PySem.W.callWith_KW (h₀ := X.base) I.ok.mod.kin hk hall (thn (ha.run pos pins s σ H _ I h) ?_) hpl he
    rintro us s1 ⟨vs, H1, I1, r, q⟩
    refine thn (hkw.run pos pins s1 σ H1 _ I1 q) ?_
    rintro ws s2 ⟨zs, H2, I2, rz, q2⟩
    have r2 := hb.rel r rz
    rw [hks]
    exact ⟨I2.kIn, call_g F hr hgd hx I2 (hb.to s2 us ws I2.kIn (by rw [← r2.length]; exact F.len _ _ _ _ q2)) r2 q2⟩
theorem pe_cgK0 (F : FnG X.prog X.w X.K X.mg X.base cx k f fd ps sp) (hr : Room k X.A) (hgd : X.A.guards = some []) (hg : Gl X x) (hm : X.mg x = some (.ref f)) (hk : PySem.W.keepIn X.K (.ref f) = true) {g : List Value → List Value → List Value} {gV : List V → List V → List V} (hb : KBinds X.K fd ps ks g gV) (hx : Passes cx X E)
    (hkw : PK X kws tk) (hall : (backToKw pos (keywordEach kws X.env)).all (·.1.isSome) = true := by rfl) (hks : (backToKw pos (keywordEach kws X.env)).filterMap (·.1) = ks := by rfl)
    (hdb : (x == ("__debug__" : Str)) = false := by decide) (hpl : ((backTo pos (starEach [] X.env)).any (·.1) || (backToKw pos (keywordEach kws X.env)).any (·.1.isNone)) = false := by rfl) :
    PE X (.Call (.Name x p) [] kws pos) (tCallK sp gV E tNil tk) where
  run := by
    intro pins s σ H Q I h
    refine wpAny_Call_Name_kw (ld_glob I hg hm ?_ hdb)
    refine PySem.W.callWith_KW0 (h₀ := X.base) I.ok.mod.kin hk hall ?_ hpl
    refine thn (hkw.run pos pins s σ H _ I h) ?_
    rintro ws s2 ⟨zs, H2, I2, rz, q2⟩
    have r2 := hb.rel (vs := []) (us := []) .nil rz
    rw [hks]
    exact ⟨I2.kIn, call_g F hr hgd hx I2 (hb.to s2 [] ws I2.kIn (by rw [← r2.length]; exact F.len _ _ _ _ q2)) r2 q2⟩
end

/-! ### the law's own call -/
theorem law_callG {P : Program} {w : World} {K : PySem.W.Frag} {mg mb : Str → Option Value} {cx : CXT} {k : Nat} {fa a : Addr} {fd : FuncData} {x : Str} {sp : Sp} {s1 : Shared} {vs : List Value} {ns : List Int}
    (KX : K.In s1.heap) (hns : s1.heap.Ns mainGlobals mg) (hb : s1.heap.Ns builtinsNs mb) (hbb : ∀ x : Str, x ≠ "__name__" → mb x = bootBuiltins x) (hlim : s1.heap.NoLimit) (hgen : s1.gens = #[])
    (ha : s1.heap.get? a = some { cls := .type "list", data := .seq vs.toArray }) (hi : IntsAre vs ns) (hl : ns.length ≤ sizeLine) (hr : Room k callerA)
    (F : ∀ base : Heap, K.In base → base.Ns mainGlobals mg → FnG P w K mg base cx k fa fd [x] sp) (hbind : ∀ (s : Shared) (u : Value), BindsTo s fd ⟨[u], []⟩ [(x, u)])
    (hsp : ∀ H : Hp, Only H → SqL K H a (ns.map V.int) → sp [.ref a] H (fun v _ => v = .bl true) fun _ _ _ => False)
    (hcx : ∀ H e s', cx [] H s1 (fun _ _ _ => False) e s' → False) :
    codeAny (model P w) callerA (.call (.ref fa) ⟨[.ref a], []⟩) (fun r s' => r = .ok (.ret (.bool true)) ∧ OldK s1.heap s'.heap ∧ s'.os = s1.os ∧ AllBare s'.gens) s1 := by
  have rv := vals_ints hi
  have hlen := hi.length
  -- H tells the script at most
  have go : ∀ H : Hp, Only H → SqL K H a (ns.map V.int) → HOk P w H s1.heap → (∀ b, H b ≠ none → b = a) → (H a ≠ none → K.lookup a = none) →
      codeAny (model P w) callerA (.call (.ref fa) ⟨[.ref a], []⟩) (fun r s' => r = .ok (.ret (.bool true)) ∧ OldK s1.heap s'.heap ∧ s'.os = s1.os ∧ AllBare s'.gens) s1 := by
    intro H hO hS hok hA hKa
    have isA : ∀ {b : Addr} {u : HO}, H b = some u → b = a := fun {b u} e => hA b (by rw [e]; exact fun z => nomatch z)
    have noD : ∀ {b : Addr} {o : Obj} {es : Array DictEntry} {ep : Nat}, s1.heap.get? b = some o → o.data = .dict es ep → H b = none := by
      intro b o es ep e d
      match q : H b with
      | none => rfl
      | some u =>
        rw [isA q, ha] at e
        cases e
        exact absurd (show Data.seq vs.toArray _ = Data.dict es ep from d) (fun z => nomatch z)
    have nsH : ∀ {b : Addr} {m : Str → Option Value}, s1.heap.Ns b m → (hidT s1.heap H).Ns b m := by
      rintro b m ⟨o, es, ep, e, d, r⟩
      exact ⟨o, es, ep, hidT_get e (noD e d), d, r⟩
    have kin : K.In (hidT s1.heap H) := by
      intro b o e
      refine hidT_get (KX b o e) ?_
      match q : H b with
      | none => rfl
      | some u =>
        have z := isA q
        subst z
        rw [hKa (by rw [q]; exact fun z => nomatch z)] at e
        cases e
    obtain ⟨mc, lim1, lim2⟩ := hlim
    have M : Mod K mg (hidT s1.heap H) := ⟨kin, nsH hns, ⟨mb, nsH hb, hbb⟩, mc, nsH lim1, lim2⟩
    have e0 : Env0 P w K mg (hidT s1.heap H) callerA [] s1 H :=
      ⟨rfl, M, fun b o e => of_hidT e, Nat.le_of_eq (hidT_size _ _), trivial, fun b hb => absurd (show b ∈ ([] : List Addr) from hb) List.not_mem_nil, hok, .of_eq hgen⟩
    refine codeAny_mono ((F _ kin (nsH hns)).run callerA [] s1 H ⟨[.ref a], []⟩ [.ref a] [.ref a] _ _ hr rfl e0 (hbind s1 (.ref a)) (.cons rfl .nil) (hsp H hO hS)) ?_
    intro r s' h
    match r, h with
    | .error e, h => exact (hcx H e s' h).elim
    | .ok .next, h => exact h.elim
    | .ok .brk, h => exact h.elim
    | .ok .cont, h => exact h.elim
    | .ok (.ret u), h =>
      obtain ⟨v, H', hos, bare, un, hok', rvu, qv⟩ := h
      have qv' : v = .bl true := qv
      subst qv'
      have ru : u = Value.bool true := rvu
      subst ru
      refine ⟨rfl, OldK.of_keep fun b o e => ?_, hos, bare⟩
      match q : H b with
      | none => exact un.keep b o e q (fun z => absurd (show b ∈ ([] : List Addr) from z) List.not_mem_nil) List.not_mem_nil
      | some u =>
        match hO b with
        | .inl z => rw [q] at z; cases z
        | .inr ⟨ob, xs, z⟩ =>
          obtain ⟨e1, _⟩ := hok b _ z
          obtain ⟨e2, _⟩ := hok' b _ (un.frzs b ob _ z)
          rw [e] at e1
          cases e1
          exact e2
  match hk : K.lookup a with
  | some o =>
    have e := KX a o hk
    rw [ha] at e
    cases e
    refine go (fun _ => none) (fun _ => .inl rfl) (.inr ⟨_, vs.toArray, _, hk, rfl, rfl, rfl, ?_, ?_⟩) (fun b u z => absurd (show (none : Option HO) = some u from z) fun z => nomatch z) (fun b z => absurd rfl z) fun z => absurd rfl z
    · rw [List.size_toArray, hlen]
      exact hl
    · simpa using rv
  | none =>
    let o : Obj := { cls := .type "list", data := .seq vs.toArray }
    let Hs : Hp := fun b => if b = a then some (.frz o (.lst (ns.map V.int))) else none
    have h1 : Hs a = some (.frz o (.lst (ns.map V.int))) := if_pos rfl
    have h2 : ∀ b, b ≠ a → Hs b = none := fun b hb => if_neg hb
    have h3 : ∀ b, Hs b ≠ none → b = a := fun b hb => Decidable.byContradiction fun z => hb (h2 b z)
    refine go Hs (fun b => ?_) (.inl (.inr ⟨o, h1⟩)) (fun b u z => ?_) h3 fun _ => hk
    · by_cases hb : b = a
      · subst hb
        exact .inr ⟨_, _, h1⟩
      · exact .inl (h2 b hb)
    · have hb := h3 b (by rw [z]; exact fun z => nomatch z)
      subst hb
      rw [h1] at z
      cases z
      exact ⟨ha, by rw [List.length_map]; exact hl, vs, _, rv, ha⟩
theorem walk_ofG {l : PySem.W.OpenLaw} {n k : Nat} {q : Program} {loose : List Str} {XP : (Str → Option Value) → Heap → Prop} {YP : World → Heap → Prop} {d : DefRec} {K : Params → PySem.W.Frag} {cx : World → CXT} {sp : World → Sp} {x : Str}
    (hn : l.most = some n) (hn2 : n ≤ sizeLine) (hdf : d.params.defaults = []) (hr : Room k callerA)
    (hY : ∀ (w : World) (h : Heap), YP w h → (K w.params).In h)
    (F : ∀ (w : World) (mg : Str → Option Value) (fa : Addr) (h : Heap), (K w.params).In h → h.Ns mainGlobals mg → mg d.name = some (.ref fa) →
      ∃ fd : FuncData, (∀ (s : Shared) (u : Value), BindsTo s fd ⟨[u], []⟩ [(x, u)]) ∧
        ∀ base : Heap, (K w.params).In base → base.Ns mainGlobals mg → FnG l.prog w (K w.params) mg base (cx w) k fa fd [x] (sp w))
    (hsp : ∀ (w : World) (H : Hp) (a : Addr) (ns : List Int), ns.length ≤ n → Only H → SqL (K w.params) H a (ns.map V.int) → sp w [.ref a] H (fun v _ => v = .bl true) fun _ _ _ => False)
    (hcx : ∀ (w : World) (H : Hp) (s : Shared) (e : Value) (s' : Shared), cx w [] H s (fun _ _ _ => False) e s' → False) :
    PySem.W.WalkO q loose XP YP l.row.toRowW d [] (fun f vs => PySem.call f vs) := by
  refine Att.attach_call hn hdf fun w s0 s1 mg mb fa o pm cd doc a vs ns G Y ho hd hcd hmg hobj hints hlen hgen => ?_
  obtain ⟨fd, hb, hF⟩ := F w mg fa _ (hY w _ Y) G.T.g hmg
  exact law_callG (hY w _ Y) G.T.g G.T.b G.T.builtins G.T.nolimit hgen hobj hints (Nat.le_trans hlen hn2) hr hF hb (fun H hO hS => hsp w H a ns hlen hO hS) fun H e s' => hcx w H s1 e s'
end Dv

namespace Dv
open PySem L2 PyProof.Rows

/-! ### data without dicts, for the library's rules on data -/
mutual
theorem Rp.dp {K : PySem.W.Frag} {H : Hp} : ∀ {d : PyData} {v : V}, d.hasDict = false → Rp H v d → L2.Dp K H v d
  | .none, _, _, h => by cases h; exact .non
  | .bool b, _, _, h => by cases h; exact .bl b
  | .int b, _, _, h => by cases h; exact .int b
  | .str b, _, _, h => by cases h; exact .str b
  | .list ds, _, n, h => by
    cases h with
    | lst h1 h2 => exact .lst (.inl (.inl h1)) (RpA.dp (by simpa only [PyData.hasDict] using n) h2)
  | .tuple ds, _, n, h => by
    cases h with
    | tup h1 h2 => exact .tup (.inl (.inl h1)) (RpA.dp (by simpa only [PyData.hasDict] using n) h2)
  | .dict ds, _, n, h => by simp [PyData.hasDict] at n
theorem RpA.dp {K : PySem.W.Frag} {H : Hp} : ∀ {ds : List PyData} {vs : List V}, PyData.hasDictAll ds = false → RpA H vs ds → L2.DpAll K H vs ds
  | [], _, _, h => by cases h; exact .nil
  | d :: ds, _, n, h => by
    cases h with
    | cons h1 h2 =>
      simp only [PyData.hasDictAll, Bool.or_eq_false_iff] at n
      exact .cons (Rp.dp n.1 h1) (RpA.dp n.2 h2)
end
/-- what == and repr may look at -/
structure Okd (d : PyData) : Prop where
  nd : d.hasDict = false
  sh : SeqAt.shaped d = true
structure Oks (d : PyData) : Prop where
  nd : d.hasDict = false
  sh : d.showable = true
  dp : d.depth ≤ 60
  sz : d.shown.length ≤ sizeLine

section
variable {X : Cx} {K : PySem.W.Frag} {φ : PyData → Prop}
/-! ### operators -/
def rAddS : R2 := fun x y H Q => ∃ i j, x = .str i ∧ y = .str j ∧ i.length + j.length ≤ sizeLine ∧ Q (.str (i ++ j)) H
def rAdd1 : R2 := fun x y H Q => rI0 (fun i j => .int (i + j)) x y H Q ∨ rAddS x y H Q
def rAddL (K : PySem.W.Frag) : R2 := fun x y H Q => rCat x y H Q ∨ rCatA K x y H Q
def rAddU (K : PySem.W.Frag) : R2 := fun x y H Q => rAdd1 x y H Q ∨ rAddL K x y H Q
theorem op_addU : OpR X (binaryOp .Add) (rAddU X.K) := (op_add.or op_add_str).or (op_cat.or op_catA)
theorem op2_addI {i j : Int} (q : φ (.int (i + j))) : Op2 (rAddU K) (.int i) (.int j) φ := .orl (.orl (op2_I0 q))
theorem op2_addS {i j : Str} (h : i.length + j.length ≤ sizeLine) (q : φ (.str (i ++ j))) : Op2 (rAddU K) (.str i) (.str j) φ := .orl (.orr (.flat (fun _ => .str _) (fun G H v u r1 r2 Q k => by cases r1; cases r2; exact ⟨i, j, rfl, rfl, h, k⟩) q))
theorem op2_addL {xs ys : List PyData} (h : xs.length + ys.length ≤ 100000) (q : φ (.list (xs ++ ys))) : Op2 (rAddU K) (.list xs) (.list ys) φ := fun G H v u s r1 r2 Q k => by
  cases r1 with
  | lst h1 h2 =>
    cases r2 with
    | lst h3 h4 =>
      refine .inr (.inl ⟨_, _, _, _, rfl, rfl, s _ _ h1, s _ _ h3, by rw [h2.len, h4.len]; exact szl h, fun p hp => ?_⟩)
      have ng := none_of s hp
      refine k _ _ (upd G p (.lst _)) _ (.laid s hp) (.lst upd_same ((h2.app h4).mono (same_upd ng))) q
theorem op2_addT {xs ys : List PyData} (h : xs.length + ys.length ≤ 100000) (q : φ (.tuple (xs ++ ys))) : Op2 (rAddU K) (.tuple xs) (.tuple ys) φ := fun G H v u s r1 r2 Q k => by
  cases r1 with
  | tup h1 h2 =>
    cases r2 with
    | tup h3 h4 =>
      refine .inr (.inr ⟨_, _, _, _, rfl, rfl, .inl (.inl (s _ _ h1)), .inl (.inl (s _ _ h3)), by rw [h2.len, h4.len]; exact szl h, fun e => ?_, fun e e2 => ?_, fun e e2 p hp => ?_⟩)
      · subst e
        cases h2
        exact k _ _ G H (.refl s) (.tup h3 h4) (by simpa using q)
      · subst e2
        cases h4
        exact k _ _ G H (.refl s) (.tup h1 h2) (by simpa using q)
      · have ng := none_of s hp
        refine k _ _ (upd G p (.tup _)) _ (.laid s hp) (.tup upd_same ((h2.app h4).mono (same_upd ng))) q
/-- - of ints -/
theorem op2_sub {i j : Int} (q : φ (.int (i - j))) : Op2 (rI0 fun i j => .int (i - j)) (.int i) (.int j) φ := op2_I0 q

/-! * -/
theorem tooLong_no {n : Nat} (h : n ≤ 16777216) : Builtin.Str.tooLong n = false := by
  unfold Builtin.Str.tooLong
  rw [decide_eq_false_iff_not, sizeLine_eq]
  omega
def repS (z : Str) (n : Nat) : Str := ⟨(List.replicate n z.cps.toList).flatten.toArray⟩
theorem fold_app {α : Type} (xs : Array α) : ∀ (n : Nat) (acc : Array α), (List.replicate n xs).foldl (· ++ ·) acc = (acc.toList ++ (List.replicate n xs.toList).flatten).toArray
  | 0, acc => by simp
  | n + 1, acc => by
    rw [List.replicate_succ, List.foldl_cons, fold_app xs n, List.replicate_succ]
    simp
theorem repS_len {z : Str} {n : Nat} : (repS z n).length = z.length * n := by
  show ((List.replicate n z.cps.toList).flatten.toArray).size = z.cps.size * n
  simp [Nat.mul_comm]
def rMulS : R2 := fun x y H Q => ∃ (z : Str) (n : Int), x = .str z ∧ y = .int n ∧ -(2 ^ 40) < n ∧ n < 2 ^ 40 ∧ z.length * n.toNat ≤ 16777216 ∧ Q (.str (repS z n.toNat)) H
theorem op_mulS : OpR X (binaryOp .Mult) rMulS := by
  intro pins s σ H x y v u Q I r1 r2 h
  obtain ⟨z, n, rfl, rfl, h0, h1, h2, q⟩ := h
  obtain ⟨t, rfl⟩ := r1
  obtain ⟨t', rfl⟩ := r2
  by_cases hn : n < 1
  · have e : repS z n.toNat = Str.empty := by
      rw [show n.toNat = 0 by omega]
      rfl
    rw [e] at q
    exact PySem.P.mul_str_none hn (by omega) ⟨.str _, H, I.tok _, ⟨_, rfl⟩, q⟩
  · have hb : (z.length : Int) ≤ (2 ^ 63 - 1) / n := by
      rw [Int.le_ediv_iff_mul_le (by omega)]
      have e : n = (n.toNat : Int) := by omega
      have h3 : ((z.length * n.toNat : Nat) : Int) ≤ 16777216 := Int.ofNat_le.mpr h2
      rw [Int.natCast_mul, ← e] at h3
      omega
    refine PySem.P.mul_str ?_ (fun _ _ => by omega) (fun _ _ => tooLong_no h2) ?_
    · rw [decide_eq_false (by omega : ¬ n < -(2 ^ 63 : Int)), decide_eq_false (by omega : ¬ n ≥ 2 ^ 63)]
      rfl
    · rw [if_neg hn]
      by_cases hc : (n == 1 || z.length == 0) = true
      · rw [if_pos hc]
        have e : repS z n.toNat = z := by
          simp only [Bool.or_eq_true, beq_iff_eq] at hc
          rcases hc with hc | hc
          · subst hc
            show (⟨(List.replicate 1 z.cps.toList).flatten.toArray⟩ : Str) = z
            simp
          · have e0 : z.cps = #[] := Array.eq_empty_of_size_eq_zero hc
            unfold repS
            cases z
            simp at e0
            subst e0
            simp
        rw [e] at q
        exact ⟨.str _, H, I, ⟨_, rfl⟩, q⟩
      · rw [if_neg hc]
        have e : (⟨(List.replicate n.toNat z.cps).foldl (· ++ ·) #[]⟩ : Str) = repS z n.toNat := by
          rw [fold_app]
          simp [repS]
        rw [e]
        exact ⟨by rw [repS_len, sizeLine_eq]; exact h2, .str _, H, I.tok _, ⟨_, rfl⟩, q⟩
def rMulU : R2 := fun x y H Q => (rI CMul (fun i j => .int (i * j)) x y H Q ∨ rMulS x y H Q) ∨ rRep x y H Q
theorem op_mulU : OpR X (binaryOp .Mult) rMulU := (op_mul.or op_mulS).or op_rep
theorem op2_mulI {i j : Int} (h : CMul i j) (q : φ (.int (i * j))) : Op2 rMulU (.int i) (.int j) φ := .orl (.orl (op2_I h q))
theorem op2_mulS {z : Str} {n : Int} (h0 : -(2 ^ 40) < n) (h1 : n < 2 ^ 40) (h2 : z.length * n.toNat ≤ 16777216) (q : φ (.str (repS z n.toNat))) : Op2 rMulU (.str z) (.int n) φ :=
  .orl (.orr (.flat (fun _ => .str _) (fun G H v u r1 r2 Q k => by cases r1; cases r2; exact ⟨z, n, rfl, rfl, h0, h1, h2, k⟩) q))
def CPowW (i j : Int) : Prop := 0 ≤ j ∧ (Builtin.Int.intBits i : Int) * j ≤ 2 ^ 27
theorem op_powW : OpR X (binaryOp .Pow) (rI CPowW fun i j => .int (i ^ j.toNat)) := opI fun _ _ _ _ _ _ _ hc q => pow_int hc.1 hc.2 q
theorem powW_ok {i : Int} {j n : Nat} (h : i.natAbs < 2 ^ n) (hj : n * j ≤ 134217728) : CPowW i j := by
  refine ⟨by omega, ?_⟩
  have b := intBits_le h
  have h3 : (Builtin.Int.intBits i : Int) * (j : Int) ≤ (n : Int) * j := Int.mul_le_mul_of_nonneg_right (by omega) (by omega)
  have h4 : ((n * j : Nat) : Int) ≤ 134217728 := Int.ofNat_le.mpr hj
  rw [Int.natCast_mul] at h4
  have e : (2 : Int) ^ 27 = 134217728 := by decide
  omega

/-! ### comparisons -/
def rEqU (K : PySem.W.Frag) : R2 := fun x y H Q => rEq x y H Q ∨ rEqD K x y H Q
def rNeU (K : PySem.W.Frag) : R2 := fun x y H Q => rNe x y H Q ∨ rNeD K x y H Q
theorem op_eqU (hu : X.A.units + 64 < cLine) : OpR X (compareOp .Eq) (rEqU X.K) := op_eq.or (op_eqD hu)
theorem op_neU (hu : X.A.units + 64 < cLine) : OpR X (compareOp .NotEq) (rNeU X.K) := op_ne.or (op_neD hu)
theorem op2_eqI {i j : Int} (q : φ (.bool (i == j))) : OpF2 (rEqU K) (.int i) (.int j) φ := fun G H v u s r1 r2 Q k => by
  cases r1
  cases r2
  refine .inl ⟨rfl, ?_⟩
  rw [dec_int]
  exact k _ _ (fun _ => .bl _) q
theorem op2_neI {i j : Int} (q : φ (.bool (!(i == j)))) : OpF2 (rNeU K) (.int i) (.int j) φ := fun G H v u s r1 r2 Q k => by
  cases r1
  cases r2
  refine .inl ⟨rfl, ?_⟩
  rw [dec_int]
  exact k _ _ (fun _ => .bl _) q
theorem op2_eqS {i j : Str} (q : φ (.bool (i == j))) : OpF2 (rEqU K) (.str i) (.str j) φ := fun G H v u s r1 r2 Q k => by
  cases r1
  cases r2
  refine .inl ⟨rfl, ?_⟩
  rw [dec_str]
  exact k _ _ (fun _ => .bl _) q
theorem op2_neS {i j : Str} (q : φ (.bool (!(i == j)))) : OpF2 (rNeU K) (.str i) (.str j) φ := fun G H v u s r1 r2 Q k => by
  cases r1
  cases r2
  refine .inl ⟨rfl, ?_⟩
  rw [dec_str]
  exact k _ _ (fun _ => .bl _) q
theorem op2_eqB {i j : Bool} (q : φ (.bool (i == j))) : OpF2 (rEqU K) (.bool i) (.bool j) φ := fun G H v u s r1 r2 Q k => by
  cases r1
  cases r2
  refine .inl ⟨rfl, ?_⟩
  rw [dec_bl]
  exact k _ _ (fun _ => .bl _) q
theorem op2_neB {i j : Bool} (q : φ (.bool (!(i == j)))) : OpF2 (rNeU K) (.bool i) (.bool j) φ := fun G H v u s r1 r2 Q k => by
  cases r1
  cases r2
  refine .inl ⟨rfl, ?_⟩
  rw [dec_bl]
  exact k _ _ (fun _ => .bl _) q
theorem op2_eqD {x y : PyData} (hx : Okd x) (hy : Okd y) (q : φ (.bool (PyData.eqv x y))) : OpF2 (rEqU K) x y φ := fun G H v u s r1 r2 Q k =>
  .inr ⟨x, y, (r1.mono s).dp hx.nd, (r2.mono s).dp hy.nd, hx.sh, hy.sh, k _ _ (fun _ => .bl _) q⟩
theorem op2_neD {x y : PyData} (hx : Okd x) (hy : Okd y) (q : φ (.bool (!PyData.eqv x y))) : OpF2 (rNeU K) x y φ := fun G H v u s r1 r2 Q k =>
  .inr ⟨x, y, (r1.mono s).dp hx.nd, (r2.mono s).dp hy.nd, hx.sh, hy.sh, k _ _ (fun _ => .bl _) q⟩
def isN : PyData → Bool
  | .none => true
  | _ => false
def rIsN : R2 := fun x y H Q => y = .non ∧ Q (.bl (decide (x = .non))) H
def rNotN : R2 := fun x y H Q => y = .non ∧ Q (.bl (!decide (x = .non))) H
theorem op_isN' : OpR X (compareOp .Is) rIsN := op_isN
theorem op_notN' : OpR X (compareOp .IsNot) rNotN := op_notN
theorem isN_v {G : Hp} {v : V} {x : PyData} (r : Rp G v x) : decide (v = .non) = isN x := by
  cases r <;> rfl
theorem op2_isN {x : PyData} (q : φ (.bool (isN x))) : OpF2 rIsN x .none φ := fun G H v u s r1 r2 Q k => by
  cases r2
  refine ⟨rfl, ?_⟩
  rw [isN_v r1]
  exact k _ _ (fun _ => .bl _) q
theorem op2_notN {x : PyData} (q : φ (.bool (!isN x))) : OpF2 rNotN x .none φ := fun G H v u s r1 r2 Q k => by
  cases r2
  refine ⟨rfl, ?_⟩
  rw [isN_v r1]
  exact k _ _ (fun _ => .bl _) q
/-- is True, is False, of anything -/
def isB (b : Bool) : PyData → Bool
  | .bool a => a == b
  | _ => false
def rIsBl : R2 := fun x y H Q => ∃ (b : Bool) (d : PyData) (G : Hp), y = .bl b ∧ Rp G x d ∧ Q (.bl (isB b d)) H
theorem op_isBl' : OpR X (compareOp .Is) rIsBl := by
  intro pins s σ H x y v u Q I rx ry h
  obtain ⟨b, d, G, rfl, rd, q⟩ := h
  cases (show u = Value.bool b from ry)
  cases rd with
  | bl a =>
    cases (show v = Value.bool a from rx)
    by_cases e : a = b
    · subst e
      exact wpAny_is_self rfl ⟨.bl true, H, I, rfl, by simpa [isB] using q⟩
    · exact wpAny_is_other rfl (fun z => e (Value.bool.inj z)) ⟨.bl false, H, I, rfl, (show isB b (.bool a) = false from beq_false_of_ne e) ▸ q⟩
  | non =>
    cases (show v = Value.none from rx)
    exact wpAny_is_other rfl (fun z => nomatch z) ⟨.bl false, H, I, rfl, q⟩
  | int i =>
    obtain ⟨t, rfl⟩ := rx
    exact wpAny_is_other rfl (fun z => nomatch z) ⟨.bl false, H, I, rfl, q⟩
  | str i =>
    obtain ⟨t, rfl⟩ := rx
    exact wpAny_is_other rfl (fun z => nomatch z) ⟨.bl false, H, I, rfl, q⟩
  | lst h1 h2 =>
    cases rx
    exact wpAny_is_other rfl (fun z => nomatch z) ⟨.bl false, H, I, rfl, q⟩
  | tup h1 h2 =>
    cases rx
    exact wpAny_is_other rfl (fun z => nomatch z) ⟨.bl false, H, I, rfl, q⟩
  | dct h1 h2 =>
    cases rx
    exact wpAny_is_other rfl (fun z => nomatch z) ⟨.bl false, H, I, rfl, q⟩
theorem op2_isB {x : PyData} {b : Bool} (q : φ (.bool (isB b x))) : OpF2 rIsBl x (.bool b) φ := fun G H v u s r1 r2 Q k => by
  cases r2
  exact ⟨b, x, G, rfl, r1, k _ _ (fun _ => .bl _) q⟩
end
end Dv

namespace Dv
open PySem L2 PyProof.Rows

section
variable {X : Cx} {K : PySem.W.Frag} {φ : PyData → Prop} {te ta tb tc : TE} {tas : TA} {ρ : Rho} {Φ : PyData → Rho → Prop} {r : R2}
/-! ### isinstance -/
def tyN : PyData → String
  | .none => "NoneType"
  | .bool _ => "bool"
  | .int _ => "int"
  | .str _ => "str"
  | .list _ => "list"
  | .tuple _ => "tuple"
  | .dict _ => "dict"
def isT (T : String) (d : PyData) : Bool := (kitB (tyN d) T).getD false
theorem ty_of {G H : Hp} {v : V} {d : PyData} (s : Same G H) (r : Rp G v d) : TyX K H v (.type (tyN d)) := by
  cases r with
  | non => exact .base .non
  | bl b => exact .base (.bl b)
  | int i => exact .base (.int i)
  | str x => exact .base (.str x)
  | lst h1 h2 => exact .base (.lst (s _ _ h1))
  | tup h1 h2 => exact .base (.tup (s _ _ h1))
  | dct h1 h2 => exact .base (.dK (s _ _ h1))
theorem kit_all {T : String} (hT : ((["NoneType", "bool", "int", "str", "list", "tuple", "dict"].all fun a => (kitB a T).isSome)) = true) (d : PyData) : kitB (tyN d) T = some (isT T d) := by
  have h : ∀ a ∈ ["NoneType", "bool", "int", "str", "list", "tuple", "dict"], (kitB a T).isSome = true := List.all_eq_true.mp hT
  have hm : tyN d ∈ ["NoneType", "bool", "int", "str", "list", "tuple", "dict"] := by cases d <;> simp [tyN]
  have q := h _ hm
  unfold isT
  cases e : kitB (tyN d) T with
  | none => rw [e] at q; cases q
  | some b => rfl
/-- isinstance(x, T), T the name of a built-in class -/
theorem we_isi {T : String} (hT : ((["NoneType", "bool", "int", "str", "list", "tuple", "dict"].all fun a => (kitB a T).isSome)) = true) (h : We ta ρ fun d ρ1 => Φ (.bool (isT T d)) ρ1) :
    We (tCB (rIsi K) (tCons ta (tCons (tC (.ty T)) tNil))) ρ Φ := fun F G0 G H σ s Q k =>
  h F G0 G H σ s _ fun v d ρ1 G1 H1 s1 g1 r1 p => ⟨v, .ty T, _, _, _, rfl, .ty T, ty_of s1.gh r1, kit_ty (kit_all hT d), k _ _ ρ1 G1 H1 s1 g1 (.bl _) p⟩
/-- isinstance(x, (S, T)) -/
theorem we_isi2 {S T : String} (hS : ((["NoneType", "bool", "int", "str", "list", "tuple", "dict"].all fun a => (kitB a S).isSome)) = true) (hT : ((["NoneType", "bool", "int", "str", "list", "tuple", "dict"].all fun a => (kitB a T).isSome)) = true)
    (h : We ta ρ fun d ρ1 => Φ (.bool (isT S d || isT T d)) ρ1) : We (tCB (rIsiT K) (tCons ta (tCons (tTup (tCons (tC (.ty S)) (tCons (tC (.ty T)) tNil))) tNil))) ρ Φ := fun F G0 G H σ s Q k =>
  h F G0 G H σ s _ fun v d ρ1 G1 H1 s1 g1 r1 p => ⟨by show 2 ≤ sizeLine; decide, fun q hq => by
    have s2 := s1.laid (o := .tup [.ty S, .ty T]) hq
    refine ⟨v, q, [.ty S, .ty T], _, [.type S, .type T], isT S d || isT T d, rfl, upd_same, .cons (.ty S) (.cons (.ty T) .nil), ty_of s2.gh r1, ?_, k _ _ ρ1 G1 _ s2 g1 (.bl _) p⟩
    refine kitAny_cons (kit_ty (kit_all hS d)) (fun e => ?_) (fun e => by rw [e]; rfl)
    refine kitAny_cons (kit_ty (kit_all hT d)) (fun e2 => ?_) (fun e2 => by rw [e2, Bool.or_true])
    rw [e, e2]
    rfl⟩

/-! ### built-ins -/
theorem map_bl : ∀ {bs : List Bool} {H : Hp} {vs : List V}, RpA H vs (bs.map PyData.bool) → vs = bs.map V.bl
  | [], _, _, h => by cases h; rfl
  | b :: bs, _, _, h => by
    cases h with
    | cons h1 h2 =>
      cases h1
      rw [map_bl h2]
      rfl
theorem map_int : ∀ {bs : List Int} {H : Hp} {vs : List V}, RpA H vs (bs.map PyData.int) → vs = bs.map V.int
  | [], _, _, h => by cases h; rfl
  | b :: bs, _, _, h => by
    cases h with
    | cons h1 h2 =>
      cases h1
      rw [map_int h2]
      rfl
theorem map_str : ∀ {bs : List Str} {H : Hp} {vs : List V}, RpA H vs (bs.map PyData.str) → vs = bs.map V.str
  | [], _, _, h => by cases h; rfl
  | b :: bs, _, _, h => by
    cases h with
    | cons h1 h2 =>
      cases h1
      rw [map_str h2]
      rfl
theorem opc_all {bs : List Bool} (q : φ (.bool (bs.all id))) : OpFC (rAll K) [.list (bs.map .bool)] φ := fun G H vs s r Q k => by
  cases r with
  | cons r1 r2 =>
    cases r2
    cases r1 with
    | lst h1 h2 =>
      have e := map_bl h2
      subst e
      exact ⟨_, bs, rfl, .inl (.inl (s _ _ h1)), k _ _ (fun _ => .bl _) q⟩
theorem opc_any {bs : List Bool} (q : φ (.bool (bs.any id))) : OpFC (rAny K) [.list (bs.map .bool)] φ := fun G H vs s r Q k => by
  cases r with
  | cons r1 r2 =>
    cases r2
    cases r1 with
    | lst h1 h2 =>
      have e := map_bl h2
      subst e
      exact ⟨_, bs, rfl, .inl (.inl (s _ _ h1)), k _ _ (fun _ => .bl _) q⟩
theorem opc_sum {ns : List Int} (q : φ (.int ns.sum)) : OpFC (rSum K) [.list (ns.map .int)] φ := fun G H vs s r Q k => by
  cases r with
  | cons r1 r2 =>
    cases r2
    cases r1 with
    | lst h1 h2 =>
      have e := map_int h2
      subst e
      exact ⟨_, ns, rfl, .inl (.inl (s _ _ h1)), k _ _ (fun _ => .int _) q⟩
theorem opc_max {ns : List Int} (hn : 0 < ns.length) (q : ∀ m, m ∈ ns → (∀ y, y ∈ ns → y ≤ m) → φ (.int m)) : OpFC (rMax K) [.list (ns.map .int)] φ := fun G H vs s r Q k => by
  cases r with
  | cons r1 r2 =>
    cases r2
    cases r1 with
    | lst h1 h2 =>
      have e := map_int h2
      subst e
      exact ⟨_, ns, rfl, .inl (.inl (s _ _ h1)), hn, fun m h3 h4 => k _ _ (fun _ => .int _) (q m h3 h4)⟩
theorem opc_min {ns : List Int} (hn : 0 < ns.length) (q : ∀ m, m ∈ ns → (∀ y, y ∈ ns → m ≤ y) → φ (.int m)) : OpFC (rMin K) [.list (ns.map .int)] φ := fun G H vs s r Q k => by
  cases r with
  | cons r1 r2 =>
    cases r2
    cases r1 with
    | lst h1 h2 =>
      have e := map_int h2
      subst e
      exact ⟨_, ns, rfl, .inl (.inl (s _ _ h1)), hn, fun m h3 h4 => k _ _ (fun _ => .int _) (q m h3 h4)⟩
def rMax2' : List V → Hp → VK → Prop := fun xs H Q => ∃ i j, xs = [.int i, .int j] ∧ Q (.int (if j > i then j else i)) H
def rMin2' : List V → Hp → VK → Prop := fun xs H Q => ∃ i j, xs = [.int i, .int j] ∧ Q (.int (if j < i then j else i)) H
def rAbs' : List V → Hp → VK → Prop := fun xs H Q => ∃ i, xs = [.int i] ∧ Q (.int (if i < 0 then -i else i)) H
def rInt1 : List V → Hp → VK → Prop := fun xs H Q => (∃ i, xs = [.int i] ∧ Q (.int i) H) ∨ ∃ k, xs = [.bl k] ∧ Q (.int (if k then 1 else 0)) H
def rLen (K : PySem.W.Frag) : List V → Hp → VK → Prop := fun xs H Q => ∃ x n, xs = [x] ∧ LenV K x H n ∧ Q (.int n) H
theorem call_max2' (hc : X.calm = true) : CallR X (.builtin "max") rMax2' := call_max2 hc
theorem call_min2' (hc : X.calm = true) : CallR X (.builtin "min") rMin2' := call_min2 hc
theorem call_abs' : CallR X (.builtin "abs") rAbs' := call_abs
theorem call_int1' : CallR X (.type "int") rInt1 := call_int1
theorem call_len' : CallR X (.builtin "len") (rLen X.K) := call_len
theorem opc_max2 {i j : Int} (q : φ (.int (max i j))) : OpFC rMax2' [.int i, .int j] φ := fun G H vs s r Q k => by
  cases r with
  | cons r1 r2 =>
    cases r2 with
    | cons r2 r3 =>
      cases r1
      cases r2
      cases r3
      refine ⟨i, j, rfl, k _ _ (fun _ => .int _) ?_⟩
      rw [show (if j > i then j else i) = max i j by omega]
      exact q
theorem opc_min2 {i j : Int} (q : φ (.int (min i j))) : OpFC rMin2' [.int i, .int j] φ := fun G H vs s r Q k => by
  cases r with
  | cons r1 r2 =>
    cases r2 with
    | cons r2 r3 =>
      cases r1
      cases r2
      cases r3
      refine ⟨i, j, rfl, k _ _ (fun _ => .int _) ?_⟩
      rw [show (if j < i then j else i) = min i j by omega]
      exact q
theorem opc_abs {i : Int} (q : φ (.int (if i < 0 then -i else i))) : OpFC rAbs' [.int i] φ := fun G H vs s r Q k => by
  cases r with
  | cons r1 r2 =>
    cases r1
    cases r2
    exact ⟨i, rfl, k _ _ (fun _ => .int _) q⟩
theorem opc_int {i : Int} (q : φ (.int i)) : OpFC rInt1 [.int i] φ := fun G H vs s r Q k => by
  cases r with
  | cons r1 r2 =>
    cases r1
    cases r2
    exact .inl ⟨i, rfl, k _ _ (fun _ => .int _) q⟩
theorem opc_intB {b : Bool} (q : φ (.int (if b then 1 else 0))) : OpFC rInt1 [.bool b] φ := fun G H vs s r Q k => by
  cases r with
  | cons r1 r2 =>
    cases r1
    cases r2
    exact .inr ⟨b, rfl, k _ _ (fun _ => .int _) q⟩
theorem opc_lenL {ds : List PyData} (q : φ (.int ds.length)) : OpFC (rLen K) [.list ds] φ := fun G H vs s r Q k => by
  cases r with
  | cons r1 r2 =>
    cases r2
    cases r1 with
    | lst h1 h2 => exact ⟨_, ds.length, rfl, .inl ⟨_, .inl (.inl (s _ _ h1)), h2.len.symm⟩, k _ _ (fun _ => .int _) q⟩
theorem opc_lenT {ds : List PyData} (q : φ (.int ds.length)) : OpFC (rLen K) [.tuple ds] φ := fun G H vs s r Q k => by
  cases r with
  | cons r1 r2 =>
    cases r2
    cases r1 with
    | tup h1 h2 => exact ⟨_, ds.length, rfl, .inr ⟨_, .inl (.inl (s _ _ h1)), h2.len.symm⟩, k _ _ (fun _ => .int _) q⟩
theorem opc_lenS {z : Str} (h : z.length ≤ 100000) (q : φ (.int z.length)) : OpFC (rLen K) [.str z] φ := fun G H vs s r Q k => by
  cases r with
  | cons r1 r2 =>
    cases r2
    cases r1
    exact ⟨_, z.length, rfl, ⟨szl h, rfl⟩, k _ _ (fun _ => .int _) q⟩
/-- x.bit_length() -/
theorem we_bits (h : We te ρ fun d ρ1 => ∃ i, d = .int i ∧ Φ (.int (Builtin.Int.intBits i : Nat)) ρ1) : We (tBits te) ρ Φ := fun F G0 G H σ s Q k =>
  h F G0 G H σ s _ fun v d ρ1 G1 H1 s1 g1 r1 ⟨i, e, p⟩ => by
    subst e
    cases r1
    exact ⟨i, rfl, k _ _ ρ1 G1 H1 s1 g1 (.int _) p⟩

/-! ### items -/
theorem atI_some {α : Type} {xs : List α} {n : Int} {d : α} (h : atI xs n = some d) : ∃ j, ixN xs.length n = some j ∧ xs[j]? = some d := by
  unfold atI at h
  cases q : ixN xs.length n with
  | none => rw [q] at h; cases h
  | some j => rw [q] at h; exact ⟨j, rfl, h⟩
theorem RpA.atI {H : Hp} {vs : List V} {ds : List PyData} {n : Int} {d : PyData} (r : RpA H vs ds) (h : L2.atI ds n = some d) : ∃ v, L2.atI vs n = some v ∧ Rp H v d := by
  obtain ⟨j, e1, e2⟩ := atI_some h
  obtain ⟨v, e3, e4⟩ := r.get e2
  exact ⟨v, by unfold L2.atI; rw [r.len, e1]; exact e3, e4⟩
theorem op2_ixL {ds : List PyData} {n : Int} {d : PyData} (h : atI ds n = some d) (q : φ d) : Op2 (rIx K) (.list ds) (.int n) φ := fun G H v u s r1 r2 Q k => by
  cases r2
  cases r1 with
  | lst h1 h2 =>
    obtain ⟨w, e1, e2⟩ := h2.atI h
    exact .inl ⟨_, _, n, w, rfl, rfl, .inl (.inl (s _ _ h1)), e1, k w d G H (.refl s) e2 q⟩
theorem op2_ixT {ds : List PyData} {n : Int} {d : PyData} (h : atI ds n = some d) (q : φ d) : Op2 (rIx K) (.tuple ds) (.int n) φ := fun G H v u s r1 r2 Q k => by
  cases r2
  cases r1 with
  | tup h1 h2 =>
    obtain ⟨w, e1, e2⟩ := h2.atI h
    exact .inr (.inl ⟨_, _, n, w, rfl, rfl, .inl (.inl (s _ _ h1)), e1, k w d G H (.refl s) e2 q⟩)
theorem op2_ixS {z : Str} {n : Int} {c : Nat} (hz : z.length ≤ 100000) (h : atI z.cps.toList n = some c) (q : φ (.str ⟨#[c]⟩)) : Op2 (rIx K) (.str z) (.int n) φ := fun G H v u s r1 r2 Q k => by
  cases r2
  cases r1
  exact .inr (.inr ⟨z, n, c, rfl, rfl, szl hz, h, k _ _ G H (.refl s) (.str _) q⟩)

/-! ### slices -/
def Wo (to : TO) (ρ : Rho) (Φ : Option Int → Rho → Prop) : Prop := ∀ (F G0 G H : Hp) (σ : L2.St), Sta F G0 G H σ ρ → ∀ Q : Option Int → Hp → Prop, (∀ o ρ' G' H', Sta F G0 G' H' σ ρ' → Same G G' → Φ o ρ' → Q o H') → to σ H Q
theorem wo_none {Φ : Option Int → Rho → Prop} (q : Φ none ρ) : Wo tNoPart ρ Φ := fun F G0 G H σ s Q k => k none ρ G H s (Same.refl G) q
theorem wo_some {Φ : Option Int → Rho → Prop} (h : We te ρ fun d ρ1 => ∃ i, d = .int i ∧ Φ (some i) ρ1) : Wo (tPart te) ρ Φ := fun F G0 G H σ s Q k =>
  h F G0 G H σ s _ fun v d ρ1 G1 H1 s1 g1 r1 ⟨i, e, p⟩ => by
    subst e
    cases r1
    exact ⟨i, rfl, k _ ρ1 G1 H1 s1 g1 p⟩
def rSlU (K : PySem.W.Frag) : V → Option Int → Option Int → Hp → VK → Prop := fun x lo hi H Q => (rSlL K x lo hi H Q ∨ rSlS x lo hi H Q) ∨ rSlA K x lo hi H Q
theorem sl_U : SlR X (rSlU X.K) := (sl_list.or sl_str).or sl_tupA
def cutD {α : Type} (xs : List α) (lo hi : Option Int) : List α := (xs.drop (HT.sIx xs.length 0 lo)).take (HT.sIx xs.length xs.length hi - HT.sIx xs.length 0 lo)
theorem RpA.cut {H : Hp} {vs : List V} {ds : List PyData} {lo hi : Option Int} (r : RpA H vs ds) : RpA H (cutV vs lo hi) (cutD ds lo hi) := by
  unfold cutV cutD
  rw [r.len]
  exact (r.drop _).take _
theorem wn_sl {tl th : TO} {Φ : List PyData → Rho → Prop} (h : We te ρ fun x ρ1 => Wo tl ρ1 fun lo ρ2 => Wo th ρ2 fun hi ρ3 => ∃ ds, x = .list ds ∧ Φ (cutD ds lo hi) ρ3) : Wn (tSl (rSlU K) te tl th) ρ Φ := fun F G0 G H σ s Q k =>
  h F G0 G H σ s _ fun v x ρ1 G1 H1 s1 g1 r1 p1 => p1 F G0 G1 H1 σ s1 _ fun lo ρ2 G2 H2 s2 g2 p2 => p2 F G0 G2 H2 σ s2 _ fun hi ρ3 G3 H3 s3 g3 ⟨ds, e, q⟩ => by
    subst e
    cases r1 with
    | lst h1 h2 =>
      have m := g2.trans g3
      exact .inl (.inl ⟨_, _, rfl, .inl (.inl (s3.gh _ _ (m _ _ h1))), fun p hp => k p _ _ ρ3 G3 _ (s3.laid hp) (g1.trans m) upd_same (h2.mono m).cut (none_of s3.fh hp) (none_of s3.gh hp) (s3.nofp hp) q⟩)
theorem we_slS {tl th : TO} (h : We te ρ fun x ρ1 => Wo tl ρ1 fun lo ρ2 => Wo th ρ2 fun hi ρ3 => ∃ z, x = .str z ∧ z.length ≤ 100000 ∧ Φ (.str (cutS z lo hi)) ρ3) : We (tSl (rSlU K) te tl th) ρ Φ := fun F G0 G H σ s Q k =>
  h F G0 G H σ s _ fun v x ρ1 G1 H1 s1 g1 r1 p1 => p1 F G0 G1 H1 σ s1 _ fun lo ρ2 G2 H2 s2 g2 p2 => p2 F G0 G2 H2 σ s2 _ fun hi ρ3 G3 H3 s3 g3 ⟨z, e, hz, q⟩ => by
    subst e
    cases r1
    exact .inl (.inr ⟨z, rfl, szl hz, k _ _ ρ3 G3 H3 s3 ((g1.trans g2).trans g3) (.str _) q⟩)

/-! ### texts -/
def rJoin (K : PySem.W.Frag) : V → List V → Hp → VK → Prop := fun x xs H Q => ∃ a p, ∃ ys : List Str, x = .str a ∧ xs = [.ref p] ∧ (SqL K H p (ys.map V.str) ∨ SqT K H p (ys.map V.str)) ∧
    (ys.map (·.length)).sum + ys.length * a.length ≤ 16777216 ∧ Q (.str (Txt.join a ys)) H
theorem mt_join' : MtR X "str.join" (rJoin X.K) := mt_join
def rStripC : V → List V → Hp → VK → Prop := fun x xs H Q => ∃ a b, x = .str a ∧ xs = [.str b] ∧ a.length ≤ sizeLine ∧ Q (.str (Txt.stripChars a b)) H
def rRstripC : V → List V → Hp → VK → Prop := fun x xs H Q => ∃ a b, x = .str a ∧ xs = [.str b] ∧ a.length ≤ sizeLine ∧ Q (.str (Txt.rstripChars a b)) H
def rCount : V → List V → Hp → VK → Prop := fun x xs H Q => ∃ a b, x = .str a ∧ xs = [.str b] ∧ Q (.int (Txt.count a b)) H
theorem mt_stripC : MtR X "str.strip" rStripC := mt_stripChars
theorem mt_rstripC : MtR X "str.rstrip" rRstripC := mt_rstripChars
theorem mt_count' : MtR X "str.count" rCount := mt_count
/-- a method of a text with one argument: its rule by values -/
def OpM (r : V → List V → Hp → VK → Prop) (x : Str) (y : PyData) (φ : PyData → Prop) : Prop := ∀ (G H : Hp) (u : V), Same G H → Rp G u y → ∀ Q : VK, (∀ w z, (∀ G', Rp G' w z) → φ z → Q w H) → r (.str x) [u] H Q
theorem we_m1 {r : V → List V → Hp → VK → Prop} (h : We ta ρ fun x ρ1 => ∃ z, x = .str z ∧ We tb ρ1 fun y ρ2 => OpM r z y fun d => Φ d ρ2) : We (tM1 r ta tb) ρ Φ := fun F G0 G H σ s Q k =>
  h F G0 G H σ s _ fun v x ρ1 G1 H1 s1 g1 r1 ⟨z, e, p1⟩ => by
    subst e
    cases r1
    refine ⟨⟨z, rfl⟩, p1 F G0 G1 H1 σ s1 _ fun u y ρ2 G2 H2 s2 g2 r2 p2 => ?_⟩
    exact p2 G2 H2 u s2.gh r2 Q fun w d hw pd => k w d ρ2 G2 H2 s2 (g1.trans g2) (hw G2) pd
theorem opm_join {a : Str} {ys : List Str} (h : (ys.map (·.length)).sum + ys.length * a.length ≤ 16777216) (q : φ (.str (Txt.join a ys))) : OpM (rJoin K) a (.list (ys.map .str)) φ := fun G H u s r Q k => by
  cases r with
  | lst h1 h2 =>
    have e := map_str h2
    subst e
    exact ⟨a, _, ys, rfl, rfl, .inl (.inl (.inl (s _ _ h1))), h, k _ _ (fun _ => .str _) q⟩
theorem opm_strip {a b : Str} (h : a.length ≤ 16777216) (q : φ (.str (Txt.stripChars a b))) : OpM rStripC a (.str b) φ := fun G H u s r Q k => by
  cases r
  exact ⟨a, b, rfl, rfl, by rw [sizeLine_eq]; exact h, k _ _ (fun _ => .str _) q⟩
theorem opm_rstrip {a b : Str} (h : a.length ≤ 16777216) (q : φ (.str (Txt.rstripChars a b))) : OpM rRstripC a (.str b) φ := fun G H u s r Q k => by
  cases r
  exact ⟨a, b, rfl, rfl, by rw [sizeLine_eq]; exact h, k _ _ (fun _ => .str _) q⟩
theorem opm_count {a b : Str} (q : φ (.int (Txt.count a b))) : OpM rCount a (.str b) φ := fun G H u s r Q k => by
  cases r
  exact ⟨a, b, rfl, rfl, k _ _ (fun _ => .int _) q⟩

/-! ### tuple(l), list(text), list(l), repr -/
def rTupOf (K : PySem.W.Frag) : List V → Hp → VK → Prop := fun xs H Q => ∃ p ys, xs = [.ref p] ∧ ((SqL K H p ys ∧ ∀ l, H l = none → Q (.ref l) (upd H l (.tup ys))) ∨ (SqT K H p ys ∧ Q (.ref p) H))
theorem call_tupOf : CallR X (.type "tuple") (rTupOf X.K) := call_tuple_of
theorem opc_tup {ds : List PyData} (q : φ (.tuple ds)) : OpC (rTupOf K) [.list ds] φ := fun G H vs s r Q k => by
  cases r with
  | cons r1 r2 =>
    cases r2
    cases r1 with
    | lst h1 h2 => exact ⟨_, _, rfl, .inl ⟨.inl (.inl (s _ _ h1)), fun l hl => k _ _ (upd G l (.tup _)) _ (.laid s hl) (.tup upd_same (h2.mono (same_upd (none_of s hl)))) q⟩⟩
theorem vals_get : ∀ {xs : List V} {us : List Value}, xs.length = us.length → (∀ (i : Nat) (x : V) (u : Value), xs[i]? = some x → us[i]? = some u → RelV x u) → Vals xs us
  | [], [], _, _ => .nil
  | [], _ :: _, h, _ => by simp at h
  | _ :: _, [], h, _ => by simp at h
  | x :: xs, u :: us, h, k => .cons (k 0 x u rfl rfl) (vals_get (by simpa using h) fun i y w e1 e2 => k (i + 1) y w (by simpa using e1) (by simpa using e2))
def rLstStr : List V → Hp → VK → Prop := fun xs H Q => ∃ z : Str, xs = [.str z] ∧ z.length ≤ sizeLine ∧ ∀ l, H l = none → Q (.ref l) (upd H l (.lst (z.cps.toList.map fun c => .str ⟨#[c]⟩)))
theorem call_lstStr (hc : X.calm = true) : CallR X (.type "list") rLstStr := by
  intro pins s σ H xs us Q I r h
  obtain ⟨z, rfl, hz, q⟩ := h
  obtain ⟨u, rfl, rx⟩ := vals1 r
  obtain ⟨t, rfl⟩ := rx
  refine PySem.call_list_str (I.ok.hd hc) z t (fun h' tk acc c kp e items => ?_) hz
  have hv : Vals (z.cps.toList.map fun c => V.str ⟨#[c]⟩) acc.toList := vals_get (by rw [List.length_map, Array.length_toList, Array.length_toList, items.1]) fun i x u e1 e2 => by
    obtain ⟨c, t', e3, rfl⟩ := items.2 i u (by simpa using e2)
    rw [List.getElem?_map] at e1
    have e4 : z.cps.toList[i]? = some c := by simpa using e3
    rw [e4] at e1
    cases e1
    exact ⟨t', rfl⟩
  have hl : (z.cps.toList.map fun c => V.str ⟨#[c]⟩).length ≤ sizeLine := by
    rw [List.length_map, Array.length_toList]
    exact hz
  exact ⟨.ref s.heap.objs.size, _, I.laid (t' := tk) kp (Nat.le_refl _) (show ObjOk X.prog X.w _ h' _ (.lst _) from ⟨hl, acc.toList, c, hv, by rw [Array.toArray_toList]; exact e⟩), rfl, q _ (I.hok.fresh (Nat.le_refl _))⟩
def rLstU (K : PySem.W.Frag) : List V → Hp → VK → Prop := fun xs H Q => (∃ p ys, xs = [.ref p] ∧ (SqL K H p ys ∨ SqT K H p ys) ∧ ∀ l, H l = none → Q (.ref l) (upd H l (.lst ys))) ∨ rLstStr xs H Q
theorem call_lstU (hc : X.calm = true) : CallR X (.type "list") (rLstU X.K) := call_list_of.or (call_lstStr hc)
theorem opn_lstL {ds : List PyData} {φ : List PyData → Prop} (q : φ ds) : OpN (rLstU K) [.list ds] φ := fun G H vs s r Q k => by
  cases r with
  | cons r1 r2 =>
    cases r2
    cases r1 with
    | lst h1 h2 => exact .inl ⟨_, _, rfl, .inl (.inl (.inl (s _ _ h1))), fun l hl => k l _ ds G H (.refl s) hl h2 q⟩
theorem opn_lstS {z : Str} {φ : List PyData → Prop} (hz : z.length ≤ 100000) (q : φ (signs z)) : OpN (rLstU K) [.str z] φ := fun G H vs s r Q k => by
  cases r with
  | cons r1 r2 =>
    cases r2
    cases r1
    exact .inr ⟨z, rfl, szl hz, fun l hl => k l _ (signs z) G H (.refl s) hl (RpA.of_map (fun c => .str _) _) q⟩
def rRepr : List V → Hp → VK → Prop := fun xs H Q => ∃ v d, xs = [v] ∧ Rp H v d ∧ Oks d ∧ Q (.str d.shown) H
theorem call_repr (hg : X.A.guards = some []) (hu : X.A.units + 64 < cLine) : CallR X (.builtin "repr") rRepr := by
  intro pins s σ H xs us Q I r h
  obtain ⟨v, d, rfl, rd, ok, q⟩ := h
  obtain ⟨u, rfl, rx⟩ := vals1 r
  have fin : ∀ (h' : Heap) (t : Tok) (tk : Nat), (∀ b o, s.heap.get? b = some o → h'.get? b = some o) → EP X pins σ Q (.str d.shown t) { s with heap := h', toks := tk } := fun h' t tk k => ⟨.str d.shown, H, I.kept k, ⟨t, rfl⟩, q⟩
  cases rd with
  | non =>
    cases (show u = Value.none from rx)
    exact PySem.P.repr_of_none (fin _ _ _ fun _ _ e => e)
  | bl b =>
    cases (show u = Value.bool b from rx)
    exact PySem.P.repr_of_bool (fin _ _ _ fun _ _ e => e)
  | int i =>
    obtain ⟨t, rfl⟩ := rx
    refine PySem.P.repr_of_int (of_decide_eq_true (by simpa only [PyData.showable] using ok.sh)) (fin _ _ _ fun _ _ e => e)
  | str x =>
    obtain ⟨t, rfl⟩ := rx
    exact PySem.P.repr_of_str (fin _ _ _ fun _ _ e => e) (by simpa only [PyData.shown] using ok.sz)
  | lst h1 h2 =>
    cases rx
    obtain ⟨as, rr⟩ := L2.Dp.reads I _ _ _ (Rp.dp ok.nd (.lst h1 h2)) rfl
    refine PySem.repr_of_reads' (h₀ := s.heap) rr ok.sh (PyData.noDict_hsm ok.nd) hg (by have := ok.dp; omega) (fun _ _ e => e) (fun h' t tk k => fin h' t tk k) ok.sz
  | tup h1 h2 =>
    cases rx
    obtain ⟨as, rr⟩ := L2.Dp.reads I _ _ _ (Rp.dp ok.nd (.tup h1 h2)) rfl
    refine PySem.repr_of_reads' (h₀ := s.heap) rr ok.sh (PyData.noDict_hsm ok.nd) hg (by have := ok.dp; omega) (fun _ _ e => e) (fun h' t tk k => fin h' t tk k) ok.sz
  | dct h1 h2 =>
    have := ok.nd
    simp [PyData.hasDict] at this
theorem opc_repr {d : PyData} (ok : Oks d) (q : φ (.str d.shown)) : OpFC rRepr [d] φ := fun G H vs s r Q k => by
  cases r with
  | cons r1 r2 =>
    cases r2
    exact ⟨_, d, rfl, r1.mono s, ok, k _ _ (fun _ => .str _) q⟩
/-- a < b < c -/
theorem we_chain {r' : R2} (h : We ta ρ fun x ρ1 => We tb ρ1 fun y ρ2 => OpF2 r x y fun z => ∃ k, z = .bool k ∧ (k = true → We tc ρ2 fun w ρ3 => OpF2 r' y w fun z => Φ z ρ3) ∧ (k = false → Φ (.bool false) ρ2)) : We (tChain r r' ta tb tc) ρ Φ := fun F G0 G H σ s Q k =>
  h F G0 G H σ s _ fun v x ρ1 G1 H1 s1 g1 r1 p1 => p1 F G0 G1 H1 σ s1 _ fun u y ρ2 G2 H2 s2 g2 r2 p2 => p2 G2 H2 v u s2.gh (r1.mono g2) r2 _ fun w z hw ⟨b, e, q1, q2⟩ => by
    subst e
    cases hw G2
    refine ⟨b, rfl, ?_⟩
    cases b with
    | true => exact q1 rfl F G0 G2 H2 σ s2 _ fun w' y' ρ3 G3 H3 s3 g3 r3 p3 => p3 G3 H3 u w' s3.gh (r2.mono g3) r3 Q fun z' d' hz pz => k z' d' ρ3 G3 H3 s3 ((g1.trans g2).trans g3) (hz G3) pz
    | false => exact k _ _ ρ2 G2 H2 s2 (g1.trans g2) (.bl false) (q2 rfl)
end
end Dv

namespace Dv
open PySem L2 PyProof.Rows
section
variable {P : Program} {w : World} {K : PySem.W.Frag} {mg : Str → Option Value} {base : Heap}
/-- a def that lets no error out, by its body -/
theorem FnG.ok0 {x qual : Str} {st : Stmt} {f : Addr} {fd : FuncData} {N ps : List Str} {k : Nat} {sp : Sp} (F : Fun K x qual st f fd) (S : FnScope N ps (defScope st)) (len : ∀ vs H Q E, sp vs H Q E → vs.length = ps.length)
    (hb : ∀ (cdv : Value) (A : Around) (outer : List PySem.Env) (s : Shared) (H : Hp) (vs : List V) (Q : VK) (E : XK), Room k (cxOf CX0 P w K mg base N qual (defScope st) f cdv A outer s H E).nox.A → (cxOf CX0 P w K mg base N qual (defScope st) f cdv A outer s H E).nox.A.guards = some [] → sp vs H Q E →
      ∃ t, PSs (cxOf CX0 P w K mg base N qual (defScope st) f cdv A outer s H E).nox (defBody st) t ∧ t { nx := fun _ H' => Q .non H', rt := Q } (L2.start N vs) H) : FnG P w K mg base CX0 (k + 1) f fd ps sp := by
  obtain ⟨oc, od, kV, doc, pm, an, cdv, ct, osl, rfl, lk, hcd⟩ := F.ex
  refine FnG.of lk hcd S len fun A outer s H vs Q E hr hg hsp => ?_
  obtain ⟨t, h, q⟩ := hb cdv A outer s H vs Q E hr hg hsp
  exact ⟨t, h.nox, q⟩
end

/-! ### the rules with the written part by its name -/
section
variable {X : Cx} {K : PySem.W.Frag} {a b c e l o : Expr} {es : List Expr} {rest : List Expr} {ta tb tc te tl : TE} {t : TA} {ts : TGs} {tg : Expr} {pos p cpos apos tpos : Pos} {kk : Nat} {elts : List Expr} {n : Nat}
theorem k_add (h : X.K = K) : OpR X (binaryOp .Add) (rAddU K) := by subst h; exact op_addU
theorem k_eq (h : X.K = K) (hu : X.A.units + 64 < cLine) : OpR X (compareOp .Eq) (rEqU K) := by subst h; exact op_eqU hu
theorem k_ne (h : X.K = K) (hu : X.A.units + 64 < cLine) : OpR X (compareOp .NotEq) (rNeU K) := by subst h; exact op_neU hu
theorem k_ix (h : X.K = K) : IxR X (rIx K) := by subst h; exact ix_seq
theorem k_sl (h : X.K = K) : SlR X (rSlU K) := by subst h; exact sl_U
theorem k_all (h : X.K = K) (hc : X.calm = true) : CallR X (.builtin "all") (rAll K) := by subst h; exact cr_all hc
theorem k_any (h : X.K = K) (hc : X.calm = true) : CallR X (.builtin "any") (rAny K) := by subst h; exact cr_any hc
theorem k_sum (h : X.K = K) (hc : X.calm = true) : CallR X (.builtin "sum") (rSum K) := by subst h; exact cr_sum hc
theorem k_max (h : X.K = K) (hc : X.calm = true) : CallR X (.builtin "max") (rMax K) := by subst h; exact cr_max hc
theorem k_min (h : X.K = K) (hc : X.calm = true) : CallR X (.builtin "min") (rMin K) := by subst h; exact cr_min hc
theorem k_isi (h : X.K = K) : CallR X (.builtin "isinstance") (rIsi K) := by subst h; exact call_isi
theorem k_isiT (h : X.K = K) : CallR X (.builtin "isinstance") (rIsiT K) := by subst h; exact call_isiT
theorem k_len (h : X.K = K) : CallR X (.builtin "len") (rLen K) := by subst h; exact call_len'
theorem k_join (h : X.K = K) : MtR X "str.join" (rJoin K) := by subst h; exact mt_join'
theorem k_tupOf (h : X.K = K) : CallR X (.type "tuple") (rTupOf K) := by subst h; exact call_tupOf
theorem k_lstU (h : X.K = K) (hc : X.calm = true) : CallR X (.type "list") (rLstU K) := by subst h; exact call_lstU hc
theorem k_sortedI (h : X.K = K) : CallR X (.builtin "sorted") (rSortedI K) := by subst h; exact cr_sortedI
theorem k_plist (h : X.K = K) (hl : PE X l tl) : PI X tg l (iList K tl) := by subst h; exact pi_list hl
theorem k_ptup (h : X.K = K) (hl : PE X l tl) : PI X tg l (iTup K tl) := by subst h; exact pi_tup hl
theorem k_pzip {e2 : Expr} (h : X.K = K) (hg : Gl X "zip") (hm : X.mg "zip" = none) (ha : PA X [e, e2] t)
    (hs : starEach [e, e2] X.env = (false, eval e X.env) :: starEach [e2] X.env := by rfl) (hpl : (backTo pos (starEach [e2] X.env)).any (·.1) = false := by rfl) : PI X (.Tuple elts kk tpos) (.Call (.Name "zip" p) [e, e2] [] pos) (iZip K t) := by
  subst h
  exact pi_zip hg hm ha hs hpl
theorem k_penum (h : X.K = K) (hg : Gl X "enumerate") (hm : X.mg "enumerate" = none) (ha : PA X [e] t) (hs : starEach [e] X.env = [(false, eval e X.env)] := by rfl) : PI X (.Tuple elts kk tpos) (.Call (.Name "enumerate" p) [e] [] pos) (iEnum K t) := by
  subst h
  exact pi_enum hg hm ha hs
theorem k_tup (h : X.K = K) (hc : X.calm = true) (hg : PGs X es ts) (hn : (assignEach es X.env).length = n := by rfl) (hst : (assignEach es X.env).findIdx? (·.1) = none := by rfl) : PG X (.Tuple es kk pos) (gTup K n ts) := by
  subst h
  exact pg_tup hc hg hn hst
theorem k_tru (h : X.K = K) (ha : PE X a ta) (he : ∀ whole, isTrue a X.env whole = (do let v ← whole; standAt a.pos; holding [v] (truthy v))) : PT X a (fun σ H Q => ta σ H fun x H' => ∃ k, TruV K x H' k ∧ Q k H') := by
  subst h
  exact pt_truth ha he
theorem k_orT (h : X.K = K) (ha : PE X a ta) (hb : PE X (.BoolOp .Or (b :: rest) pos) tb) : PE X (.BoolOp .Or (a :: b :: rest) pos) (tOrT K ta tb) := by subst h; exact pe_orT ha hb
theorem k_andT (h : X.K = K) (ha : PE X a ta) (hb : PE X (.BoolOp .And (b :: rest) pos) tb) : PE X (.BoolOp .And (a :: b :: rest) pos) (tAndT K ta tb) := by subst h; exact pe_andT ha hb
theorem k_notT (h : X.K = K) (ha : PE X a ta) : PE X (.UnaryOp .Not a pos) (tNotT K ta) := by subst h; exact pe_notT ha
theorem k_append (h : X.K = K) (ho : PE X o ta) (ha : PA X (e :: es) t)
    (hbase : attributeBase o "append" X.env (eval o X.env) = eval o X.env := by rfl)
    (hfew : ((backTo cpos (starEach (e :: es) X.env)).all (fun x => !x.1) && (backToKw cpos (keywordEach [] X.env)).all (fun x => x.1.isSome)
      && decide ((e :: es).length + ([] : List Keyword).length + (if ([] : List Keyword).isEmpty then 0 else 1) < 30)) = true := by rfl)
    (hline : (apos.endLine == cpos.line) = true := by rfl) (hs : starEach (e :: es) X.env = (false, eval e X.env) :: starEach es X.env := by rfl) (hplain : (backTo cpos (starEach es X.env)).any (·.1) = false := by rfl) :
    PE X (.Call (.Attribute o "append" apos) (e :: es) [] cpos) (tBM K "list" rAppend ta t) := by
  subst h
  exact pe_bm PySem.F.plainAttrs_list PySem.F.slot_list_append PySem.F.type_list_append mt_append ho ha hbase hfew hline hs hplain
end

section
variable {te ta tb : TE} {tt : TT} {ts tsu : TS} {ρ : Rho} {K : PySem.W.Frag} {Φ : PyData → Rho → Prop} {Φb : Bool → Rho → Prop} {Ψ : Outs} {φ : PyData → Prop}
/-- a slice of a text or a list -/
def SlD (x : PyData) (lo hi : Option Int) (φ : PyData → Prop) : Prop := match x with
  | .str z => z.length ≤ 100000 ∧ φ (.str (cutS z lo hi))
  | .list ds => φ (.list (cutD ds lo hi))
  | .tuple ds => φ (.tuple (cutD ds lo hi))
  | _ => False
theorem we_sl {tl th : TO} (h : We te ρ fun x ρ1 => Wo tl ρ1 fun lo ρ2 => Wo th ρ2 fun hi ρ3 => SlD x lo hi fun d => Φ d ρ3) : We (tSl (rSlU K) te tl th) ρ Φ := fun F G0 G H σ s Q k =>
  h F G0 G H σ s _ fun v x ρ1 G1 H1 s1 g1 r1 p1 => p1 F G0 G1 H1 σ s1 _ fun lo ρ2 G2 H2 s2 g2 p2 => p2 F G0 G2 H2 σ s2 _ fun hi ρ3 G3 H3 s3 g3 q => by
    cases r1 with
    | str z =>
      obtain ⟨hz, q⟩ := q
      exact .inl (.inr ⟨z, rfl, szl hz, k _ _ ρ3 G3 H3 s3 ((g1.trans g2).trans g3) (.str _) q⟩)
    | lst h1 h2 =>
      have m := g2.trans g3
      refine .inl (.inl ⟨_, _, rfl, .inl (.inl (s3.gh _ _ (m _ _ h1))), fun p hp => ?_⟩)
      have ng := none_of s3.gh hp
      exact k _ _ ρ3 (L2.upd G3 p _) _ (s3.grow (.laid s3.gh hp)) (((g1.trans g2).trans g3).trans (same_upd ng)) (.lst upd_same ((h2.mono m).cut.mono (same_upd ng))) q
    | non => exact q.elim
    | bl b => exact q.elim
    | int i => exact q.elim
    | tup h1 h2 =>
      rename_i a xs ds
      have m := g2.trans g3
      have el := h2.len
      refine .inr ⟨a, xs, rfl, .inl (.inl (s3.gh _ _ (m _ _ h1))), fun hw => ?_, fun hw p hp => ?_⟩
      · have ec : cutD ds lo hi = ds := by
          unfold cutD
          rw [← el, hw.1, hw.2, List.drop_zero, Nat.sub_zero, el, List.take_length]
        have q : Φ (.tuple (cutD ds lo hi)) ρ3 := q
        rw [ec] at q
        exact k _ _ ρ3 G3 H3 s3 (g1.trans m) (.tup (m _ _ h1) (h2.mono m)) q
      · have w : Grow G3 H3 (upd G3 p (.tup (cutV xs lo hi))) (upd H3 p (.tup (cutV xs lo hi))) := .laid s3.gh hp
        exact k _ _ ρ3 _ _ (s3.grow w) ((g1.trans m).trans w.g) (.tup upd_same ((h2.mono m).cut.mono w.g)) q
    | dct h1 h2 => exact q.elim
/-- both answers of a test, where the answer is one term -/
theorem wt_conj {A B : Prop} (b : Bool) (h1 : b = true → A) (h2 : b = false → B) : (b = true → A) ∧ (b = false → B) := ⟨h1, h2⟩
theorem wt_t {A B : Prop} (h : A) : (true = true → A) ∧ (true = false → B) := ⟨fun _ => h, fun z => nomatch z⟩
theorem wt_f {A B : Prop} (h : B) : (false = true → A) ∧ (false = false → B) := ⟨fun z => (nomatch z), fun _ => h⟩
theorem wt_y {A B : Prop} {b : Bool} (e : b = true) (h : A) : (b = true → A) ∧ (b = false → B) := ⟨fun _ => h, fun z => by rw [e] at z; cases z⟩
theorem wt_n {A B : Prop} {b : Bool} (e : b = false) (h : B) : (b = true → A) ∧ (b = false → B) := ⟨fun z => (by rw [e] at z; cases z), fun _ => h⟩
/-- a statement by its deterministic reading: kept apart from what follows -/
theorem ws_seqI {F G0 : Hp} {Iv : Rho → Prop} (h : Ws F G0 ts ρ { Ψ with nx := Iv }) (k : ∀ ρ', Iv ρ' → Ws F G0 tsu ρ' Ψ) : Ws F G0 (tSeq ts tsu) ρ Ψ := ws_seq (h.imp k (fun _ _ q => q) (fun _ q => q) (fun _ q => q))
end

/-! ### the statements' rules, what is wanted taken apart -/
section
variable {te ta tb ti : TE} {tt : TT} {tas : TA} {ts tsu : TS} {g : TG} {wi : TI} {ρ : Rho} {K : PySem.W.Frag} {nx bk ct : Rho → Prop} {rt : PyData → Rho → Prop} {i j : Nat} {p : Addr}
theorem q_seq {F G0 : Hp} (h : Ws F G0 ts ρ ⟨fun ρ' => Ws F G0 tsu ρ' ⟨nx, rt, bk, ct⟩, rt, bk, ct⟩) : Ws F G0 (tSeq ts tsu) ρ ⟨nx, rt, bk, ct⟩ := ws_seq h
theorem q_nx {F G0 : Hp} (q : nx ρ) : Ws F G0 tNext ρ ⟨nx, rt, bk, ct⟩ := ws_nx q
theorem q_brk {F G0 : Hp} (q : bk ρ) : Ws F G0 tBreak ρ ⟨nx, rt, bk, ct⟩ := ws_brk q
theorem q_cont {F G0 : Hp} (q : ct ρ) : Ws F G0 tCont ρ ⟨nx, rt, bk, ct⟩ := ws_cont q
theorem q_drop {F G0 : Hp} (h : We te ρ fun _ ρ1 => nx ρ1) : Ws F G0 (tDrop te) ρ ⟨nx, rt, bk, ct⟩ := ws_drop h
theorem q_ret {F G0 : Hp} (h : We te ρ rt) : Ws F G0 (tRet te) ρ ⟨nx, rt, bk, ct⟩ := ws_ret h
theorem q_retN {F G0 : Hp} (q : rt .none ρ) : Ws F G0 tRetN ρ ⟨nx, rt, bk, ct⟩ := ws_retN q
theorem q_if {F G0 : Hp} (h : Wt tt ρ fun b ρ1 => (b = true → Ws F G0 ts ρ1 ⟨nx, rt, bk, ct⟩) ∧ (b = false → Ws F G0 tsu ρ1 ⟨nx, rt, bk, ct⟩)) : Ws F G0 (tIfS tt ts tsu) ρ ⟨nx, rt, bk, ct⟩ := ws_if h
theorem q_asg {F G0 : Hp} {js : List Nat} (h : We te ρ fun d ρ1 => Wg g js d ρ1 nx) : Ws F G0 (tAsg te g) ρ ⟨nx, rt, bk, ct⟩ := ws_asg h
theorem q_set {F G0 : Hp} (h : We te ρ fun d ρ1 => nx (ρ1.set i (.val d))) : Ws F G0 (tAsg te (gName i)) ρ ⟨nx, rt, bk, ct⟩ := ws_set h
theorem q_setN {F G0 : Hp} (h : Wn te ρ fun ds ρ1 => ∀ p, nx (ρ1.set i (.res (lst p ds)))) : Ws F G0 (tAsg te (gName i)) ρ ⟨nx, rt, bk, ct⟩ := ws_setN h
theorem q_par {F G0 : Hp} (h : Wa tas ρ fun ds ρ1 => ∃ x y, ds = [x, y] ∧ nx ((ρ1.set i (.val x)).set j (.val y))) : Ws F G0 (tPar i j tas) ρ ⟨nx, rt, bk, ct⟩ := ws_par h
theorem q_parN {F G0 : Hp} (h : Wn ta ρ fun ds ρ1 => We tb ρ1 fun y ρ2 => ∀ p, nx ((ρ2.set i (.res (lst p ds))).set j (.val y))) : Ws F G0 (tPar i j (tCons ta (tCons tb tNil))) ρ ⟨nx, rt, bk, ct⟩ := ws_parN h
theorem q_parM {F G0 : Hp} (h : We ta ρ fun x ρ1 => Wn tb ρ1 fun ds ρ2 => ∀ p, nx ((ρ2.set i (.val x)).set j (.res (lst p ds)))) : Ws F G0 (tPar i j (tCons ta (tCons tb tNil))) ρ ⟨nx, rt, bk, ct⟩ := ws_parM h
theorem q_aug {F G0 : Hp} {x : PyData} {ti : TIp} (h0 : ρ[i]? = some (.val x)) (h : We te ρ fun y ρ1 => Op2 ti x y fun z => nx (ρ1.set i (.val z))) : Ws F G0 (tAug i te ti) ρ ⟨nx, rt, bk, ct⟩ := ws_aug h0 h
theorem q_app {F G0 : Hp} {ds0 : List PyData} (h0 : ρ[i]? = some (.res (lst p ds0))) (h : We te ρ fun d ρ1 => ∃ ds, ρ1[i]? = some (.res (lst p ds)) ∧ ds.length < 100000 ∧ nx (ρ1.set i (.res (lst p (ds ++ [d]))))) :
    Ws F G0 (tDrop (tBM K "list" rAppend (tVar i) (tCons te tNil))) ρ ⟨nx, rt, bk, ct⟩ := ws_app h0 h
theorem q_setI {F G0 : Hp} (h : We te ρ fun d ρ1 => ∃ ds1, ρ1[i]? = some (.res (lst p ds1)) ∧ We ti ρ1 fun k ρ2 => ∃ ds n j, ρ2[i]? = some (.res (lst p ds)) ∧ k = .int n ∧ ixN ds.length n = some j ∧ nx (ρ2.set i (.res (lst p (ds.set j d))))) :
    Ws F G0 (tAsg te (gSub (tVar i) ti rSetL)) ρ ⟨nx, rt, bk, ct⟩ := ws_setI (ds0 := []) h
theorem q_for {F G0 : Hp} {js : List Nat} (h : Wi wi ρ fun ds ρ1 => ∃ Iv : Nat → Rho → Prop, Iv 0 ρ1 ∧ (∀ i d ρ', ds[i]? = some d → Iv i ρ' → Wg g js d ρ' fun ρ2 => Ws F G0 ts ρ2 ⟨Iv (i + 1), rt, nx, Iv (i + 1)⟩) ∧ ∀ ρ', Iv ds.length ρ' → nx ρ') :
    Ws F G0 (tFor wi g ts) ρ ⟨nx, rt, bk, ct⟩ := ws_for h
theorem q_while {F G0 : Hp} (Iv : Nat → Rho → Prop) {m0 : Nat} (i0 : Iv m0 ρ) (turn : ∀ m ρ', Iv m ρ' → Wt tt ρ' fun b ρ1 => (b = true → Ws F G0 ts ρ1 ⟨fun ρ2 => ∃ m', m' < m ∧ Iv m' ρ2, rt, nx, fun ρ2 => ∃ m', m' < m ∧ Iv m' ρ2⟩) ∧ (b = false → nx ρ1)) :
    Ws F G0 (tWhile tt ts) ρ ⟨nx, rt, bk, ct⟩ := ws_while Iv i0 turn
end
end Dv

namespace Dv
open PySem L2 PyProof.Rows
section
variable {φ : PyData → Prop} {i j : Int}
theorem op2_ip {f : Int → Int → Int} (q : φ (.int (f i j))) : Op2 (ipI f) (.int i) (.int j) φ := .flat (fun _ => .int _) (fun G H v u r1 r2 Q k => by cases r1; cases r2; exact ⟨i, j, rfl, rfl, k⟩) q
theorem op2_mod (h : 0 < j) (q : φ (.int (i % j))) : Op2 (rI (fun _ j => 0 < j) fun i j => .int (i % j)) (.int i) (.int j) φ := op2_I h q
theorem op2_fdiv (h : 0 < j) (h2 : j < 1073741824) (q : φ (.int (i / j))) : Op2 (rI CDiv fun i j => .int (i / j)) (.int i) (.int j) φ := op2_I (C := CDiv) ⟨h, h2⟩ q
theorem op2_shr (h : 0 ≤ j) (q : φ (.int (i / 2 ^ j.toNat))) : Op2 (rI (fun _ j => 0 ≤ j) fun i j => .int (i / 2 ^ j.toNat)) (.int i) (.int j) φ := op2_I h q
theorem op2_shl (h : 0 ≤ j) (h2 : j ≤ 1000000) (h3 : i.natAbs < 2 ^ 64) (q : φ (.int (i * 2 ^ j.toNat))) : Op2 (rI CPow fun i j => .int (i * 2 ^ j.toNat)) (.int i) (.int j) φ := op2_I (C := CPow) ⟨h, h2, h3⟩ q
theorem op2_powW {n : Nat} (h : i.natAbs < 2 ^ n) (hj0 : 0 ≤ j) (hj : n * j.toNat ≤ 134217728) (q : φ (.int (i ^ j.toNat))) : Op2 (rI CPowW fun i j => .int (i ^ j.toNat)) (.int i) (.int j) φ := op2_I (C := CPowW) (by
  have e : j = (j.toNat : Int) := by omega
  rw [e]
  exact powW_ok h hj) q
end
/-- ones of a number -/
def popc : Nat → Nat
  | 0 => 0
  | n + 1 => (n + 1) % 2 + popc ((n + 1) / 2)
decreasing_by omega
theorem popc_pos {n : Nat} (h : 0 < n) : popc n = n % 2 + popc (n / 2) := by
  cases n with
  | zero => omega
  | succ n => rw [popc]
theorem popc_step (n : Nat) : popc n = n % 2 + popc (n / 2) := by
  cases n with
  | zero => simp [popc]
  | succ n => rw [popc]
theorem and1 (n : Nat) : Builtin.bitAnd (n : Int) 1 = ((n % 2 : Nat) : Int) := by
  have := PySem.W.kbt_mask (n : Int) 1
  simpa using this
/-- bits, the least first -/
def val : List Bool → Nat
  | [] => 0
  | b :: bs => b.toNat + 2 * val bs
def difs : List Bool → List Bool → Nat
  | x :: xs, y :: ys => (x != y).toNat + difs xs ys
  | _, _ => 0
theorem popc_two (b : Bool) (n : Nat) : popc (b.toNat + 2 * n) = b.toNat + popc n := by
  rw [popc_step]
  cases b
  · rw [show (false.toNat + 2 * n) % 2 = 0 by simp [Bool.toNat], show (false.toNat + 2 * n) / 2 = n by simp [Bool.toNat]]
    rfl
  · rw [show (true.toNat + 2 * n) % 2 = 1 by simp [Bool.toNat], show (true.toNat + 2 * n) / 2 = n by simp [Bool.toNat]; omega]
    rfl
theorem xor_two (x y : Bool) (a b : Nat) : (x.toNat + 2 * a) ^^^ (y.toNat + 2 * b) = (x != y).toNat + 2 * (a ^^^ b) := by
  apply Nat.eq_of_testBit_eq
  intro k
  rw [Nat.testBit_xor]
  have t : ∀ (z : Bool) (c : Nat), (z.toNat + 2 * c).testBit k = if k = 0 then z else c.testBit (k - 1) := by
    intro z c
    cases k with
    | zero =>
      rw [Nat.testBit_zero]
      cases z <;> simp [Bool.toNat, Nat.add_mod]
    | succ k =>
      rw [Nat.testBit_succ, if_neg (by omega), Nat.add_sub_cancel]
      congr 1
      cases z <;> simp [Bool.toNat] <;> omega
  rw [t, t, t]
  split
  · cases x <;> cases y <;> rfl
  · rw [Nat.testBit_xor]
theorem popc_val : ∀ (xs ys : List Bool), xs.length = ys.length → popc (val xs ^^^ val ys) = difs xs ys
  | [], [], _ => by simp [val, difs, popc]
  | x :: xs, y :: ys, h => by
    rw [val, val, difs, xor_two, popc_two, popc_val xs ys (by simpa using h)]
  | [], _ :: _, h => by simp at h
  | _ :: _, [], h => by simp at h
theorem popc_val0 : ∀ (xs : List Bool), popc (val xs) = (xs.map Bool.toNat).sum
  | [] => by simp [val, popc]
  | x :: xs => by rw [val, popc_two, popc_val0 xs]; rfl
theorem and_two (x y : Bool) (a b : Nat) : (x.toNat + 2 * a) &&& (y.toNat + 2 * b) = (x && y).toNat + 2 * (a &&& b) := by
  apply Nat.eq_of_testBit_eq
  intro k
  rw [Nat.testBit_and]
  have t : ∀ (z : Bool) (c : Nat), (z.toNat + 2 * c).testBit k = if k = 0 then z else c.testBit (k - 1) := by
    intro z c
    cases k with
    | zero =>
      rw [Nat.testBit_zero]
      cases z <;> simp [Bool.toNat, Nat.add_mod]
    | succ k =>
      rw [Nat.testBit_succ, if_neg (by omega), Nat.add_sub_cancel]
      congr 1
      cases z <;> simp [Bool.toNat] <;> omega
  rw [t, t, t]
  split
  · cases x <;> cases y <;> rfl
  · rw [Nat.testBit_and]
theorem bit_split (n : Nat) : n = (n % 2 == 1).toNat + 2 * (n / 2) := by
  rcases Nat.mod_two_eq_zero_or_one n with h | h <;> rw [h] <;> simp [Bool.toNat] <;> omega
theorem xor_and (a : Nat) : ∀ b : Nat, (a ^^^ b) + 2 * (a &&& b) = a + b := by
  induction a using Nat.strongRecOn with
  | ind a ih =>
    intro b
    by_cases ha : a = 0
    · subst ha
      simp
    · rw [bit_split a, bit_split b, xor_two, and_two]
      have := ih (a / 2) (by omega) (b / 2)
      cases (a % 2 == 1) <;> cases (b % 2 == 1) <;> simp [Bool.toNat] <;> omega
theorem xorI (a b : Nat) : Builtin.bitXor (a : Int) (b : Int) = ((a ^^^ b : Nat) : Int) := by
  rw [bitXor_and]
  have h : Builtin.bitAnd (a : Int) (b : Int) = ((a &&& b : Nat) : Int) := by
    unfold Builtin.bitAnd
    rw [decide_eq_true (Int.natCast_nonneg a), decide_eq_true (Int.natCast_nonneg b)]
    simp
  rw [h]
  have := xor_and a b
  omega
end Dv

namespace Dv
open PySem L2 PyProof.Rows
section
variable {te ta tb tc : TE} {tt tu : TT} {tas : TA} {ρ : Rho} {K : PySem.W.Frag} {tg : TG} {wi : TI} {Φ : PyData → Rho → Prop} {Φb : Bool → Rho → Prop} {φ : PyData → Prop}
theorem wt_yes (q : Φb true ρ) : Wt tYes ρ Φb := fun F G0 G H σ s Q k => k true ρ G H s (Same.refl G) q
/-- the same, the walked things of one kind -/
theorem wn_lcT {α : Type} {vs js : List Nat} {Φ : List PyData → Rho → Prop} (hj : ∀ k ∈ js, k ∈ vs)
    (h : Wi wi ρ fun ds ρ1 => ∃ (zs : List α) (g : α → PyData), ds = zs.map g ∧ zs.length < 100000 ∧ mergeR ρ1 (wipeR ρ1 vs) vs = ρ1 ∧ ∃ (c : α → Bool) (f : α → PyData),
      (∀ a, a ∈ zs → Wg tg js (g a) (wipeR ρ1 vs) fun ρ2 => wipeR ρ2 vs = wipeR ρ1 vs ∧ Wt tt ρ2 fun b ρ3 => ρ3 = ρ2 ∧ b = c a ∧ (b = true → We te ρ2 fun y ρ4 => ρ4 = ρ2 ∧ y = f a)) ∧ Φ ((zs.filter c).map f) ρ1) : Wn (tLc wi tg tt te vs) ρ Φ := by
  refine wn_lc hj (fun F G0 G H σ s R k => h F G0 G H σ s R fun J ds ρ1 G' H' s' g' w ⟨zs, gg, hz, hl, hm, c, f, turn, fin⟩ => k J ds ρ1 G' H' s' g' w ⟨by rw [hz, List.length_map]; exact hl, fun i acc ρ' => acc = ((zs.take i).filter c).map f ∧ ρ' = wipeR ρ1 vs, ⟨rfl, rfl⟩, ?_, ?_⟩)
  · rintro i d acc ρ' ed _ ⟨rfl, rfl⟩
    rw [hz, List.getElem?_map] at ed
    cases ea : zs[i]? with
    | none => rw [ea] at ed; cases ed
    | some a =>
      rw [ea] at ed
      obtain rfl := (Option.some.inj ed).symm
      have q := turn a (List.mem_of_getElem? ea)
      have et : zs.take (i + 1) = zs.take i ++ [a] := by rw [List.take_add_one, ea]; rfl
      refine fun F G0 G H σ v s r Q k => q F G0 G H σ v s r Q fun σ' ρ2 s2 e2 ⟨hw, p⟩ => k σ' ρ2 s2 e2 (p.imp ?_)
      rintro b ρ3 ⟨rfl, rfl, p2⟩
      refine ⟨fun hc => (p2 hc).imp ?_, fun hc => ⟨?_, hw⟩⟩
      · rintro y ρ4 ⟨rfl, rfl⟩
        refine ⟨?_, hw⟩
        rw [et, List.filter_append, List.map_append, List.filter_cons, hc]
        rfl
      · rw [et, List.filter_append, List.map_append, List.filter_cons, hc]
        simp
  · rintro acc ρ' ⟨rfl, rfl⟩
    rw [hz, List.length_map, List.take_length, hm]
    exact fin
/-- without a test -/
theorem wn_lcM {α : Type} {vs js : List Nat} {Φ : List PyData → Rho → Prop} (hj : ∀ k ∈ js, k ∈ vs)
    (h : Wi wi ρ fun ds ρ1 => ∃ (zs : List α) (g : α → PyData), ds = zs.map g ∧ zs.length < 100000 ∧ mergeR ρ1 (wipeR ρ1 vs) vs = ρ1 ∧ ∃ (f : α → PyData),
      (∀ a, a ∈ zs → Wg tg js (g a) (wipeR ρ1 vs) fun ρ2 => wipeR ρ2 vs = wipeR ρ1 vs ∧ We te ρ2 fun y ρ4 => ρ4 = ρ2 ∧ y = f a) ∧ Φ (zs.map f) ρ1) : Wn (tLc wi tg tYes te vs) ρ Φ :=
  wn_lcT hj (fun F G0 G H σ s R k => h F G0 G H σ s R fun J ds ρ1 G' H' s' g' w ⟨zs, gg, hz, hl, hm, f, turn, fin⟩ => k J ds ρ1 G' H' s' g' w ⟨zs, gg, hz, hl, hm, fun _ => true, f, fun a ha => by
    refine fun F G0 G H σ v s r Q k => turn a ha F G0 G H σ v s r Q fun σ' ρ2 s2 e2 ⟨hw, p⟩ => k σ' ρ2 s2 e2 ⟨hw, wt_yes ⟨rfl, rfl, fun _ => p⟩⟩, by
    have e : zs.filter (fun _ => true) = zs := by simp
    rw [e]
    exact fin⟩)
theorem enumd_map {α : Type} (zs : List α) (g : α → PyData) : enumd (zs.map g) = zs.zipIdx.map fun p => .tuple [.int (p.2 : Int), g p.1] := by
  apply List.ext_getElem?
  intro i
  unfold enumd inz
  rw [List.getElem?_zipWith, List.getElem?_map, List.getElem?_map, List.getElem?_map, List.getElem?_zipIdx, List.length_map]
  by_cases hi : i < zs.length
  · rw [List.getElem?_range hi, List.getElem?_eq_getElem hi]
    simp
  · rw [List.getElem?_eq_none (show zs.length ≤ i by omega)]
    simp
theorem pairs_map {α β : Type} (zs : List α) (ys : List β) (g : α → PyData) (f : β → PyData) : pairs (zs.map g) (ys.map f) = (zs.zip ys).map fun p => .tuple [g p.1, f p.2] := by
  unfold pairs
  rw [List.zipWith_map, List.zip_eq_zipWith, List.map_zipWith]

theorem atI_nat {α : Type} {xs : List α} {n : Nat} (h : n < xs.length) : atI xs (n : Int) = some xs[n] := by
  unfold atI ixN
  rw [if_pos (by omega), if_pos (by omega), Int.toNat_natCast]
  simp [h]
theorem atI_zero {α : Type} {x : α} {xs : List α} : atI (x :: xs) 0 = some x := atI_nat (n := 0) (by simp)

theorem opc_sumM {α : Type} {xs : List α} {f : α → Int} (q : φ (.int (xs.map f).sum)) : OpFC (rSum K) [.list (xs.map fun a => .int (f a))] φ := by
  have h := opc_sum (K := K) (ns := xs.map f) q
  rw [List.map_map] at h
  exact h
theorem opc_allM {α : Type} {xs : List α} {f : α → Bool} (q : φ (.bool (xs.all f))) : OpFC (rAll K) [.list (xs.map fun a => .bool (f a))] φ := by
  have h := opc_all (K := K) (bs := xs.map f) (φ := φ) (by rw [List.all_map]; exact q)
  rw [List.map_map] at h
  exact h
theorem opc_anyM {α : Type} {xs : List α} {f : α → Bool} (q : φ (.bool (xs.any f))) : OpFC (rAny K) [.list (xs.map fun a => .bool (f a))] φ := by
  have h := opc_any (K := K) (bs := xs.map f) (φ := φ) (by rw [List.any_map]; exact q)
  rw [List.map_map] at h
  exact h
theorem opm_joinM {α : Type} {a : Str} {xs : List α} {f : α → Str} (h : (xs.map fun x => (f x).length).sum + xs.length * a.length ≤ 16777216) (q : φ (.str (Txt.join a (xs.map f)))) : OpM (rJoin K) a (.list (xs.map fun a => .str (f a))) φ := by
  have h := opm_join (K := K) (a := a) (ys := xs.map f) (φ := φ) (by rw [List.map_map, List.length_map]; exact h) q
  rw [List.map_map] at h
  exact h

/-! ### what == may look at -/
def Pln (z : Str) : Prop := ∀ c ∈ z.cps.toList, c < 128
theorem okd_flat {d : PyData} (h : flat d = true) (hs : ∀ z, d = .str z → Pln z) : Okd d := by
  cases d with
  | none => exact ⟨rfl, rfl⟩
  | bool b => exact ⟨rfl, rfl⟩
  | int i => exact ⟨rfl, rfl⟩
  | str z =>
    refine ⟨rfl, ?_⟩
    unfold SeqAt.shaped
    simp only [PyData.canLay0, PyData.depth, PyData.strOk, Bool.and_eq_true, decide_eq_true_eq]
    have := hs z rfl
    refine ⟨?_, rfl⟩
    rw [Array.all_eq_true_iff_forall_mem]
    intro c hc
    have h2 := this c (by simpa using hc)
    exact decide_eq_true (by omega)
  | list _ => cases h
  | tuple _ => cases h
  | dict _ => cases h
theorem lay_all : ∀ {ds : List PyData}, (∀ d ∈ ds, d.canLay0 = true) → PyData.canLayAll0 ds = true
  | [], _ => rfl
  | d :: ds, h => by
    simp only [PyData.canLayAll0, Bool.and_eq_true]
    exact ⟨h d List.mem_cons_self, lay_all fun e he => h e (List.mem_cons_of_mem _ he)⟩
theorem nod_all : ∀ {ds : List PyData}, (∀ d ∈ ds, d.hasDict = false) → PyData.hasDictAll ds = false
  | [], _ => rfl
  | d :: ds, h => by
    simp only [PyData.hasDictAll, Bool.or_eq_false_iff]
    exact ⟨h d List.mem_cons_self, nod_all fun e he => h e (List.mem_cons_of_mem _ he)⟩
theorem dep_all {n : Nat} : ∀ {ds : List PyData}, (∀ d ∈ ds, d.depth ≤ n) → PyData.depthAll ds ≤ n
  | [], _ => Nat.zero_le _
  | d :: ds, h => by
    simp only [PyData.depthAll]
    exact Nat.max_le.mpr ⟨h d List.mem_cons_self, dep_all fun e he => h e (List.mem_cons_of_mem _ he)⟩
/-- data whose containers are n deep at most -/
structure OkdN (n : Nat) (d : PyData) : Prop where
  nd : d.hasDict = false
  lay : d.canLay0 = true
  dp : d.depth ≤ n
theorem OkdN.okd {n : Nat} {d : PyData} (h : OkdN n d) (hn : n ≤ 64) : Okd d := ⟨h.nd, by
  unfold SeqAt.shaped
  rw [h.lay, decide_eq_true (Nat.le_trans h.dp hn)]
  rfl⟩
theorem OkdN.list {n : Nat} {ds : List PyData} (h : ∀ d ∈ ds, OkdN n d) : OkdN (n + 1) (.list ds) :=
  ⟨nod_all fun d hd => (h d hd).nd, lay_all fun d hd => (h d hd).lay, Nat.succ_le_succ (dep_all fun d hd => (h d hd).dp)⟩
theorem OkdN.tuple {n : Nat} {ds : List PyData} (h : ∀ d ∈ ds, OkdN n d) : OkdN (n + 1) (.tuple ds) :=
  ⟨nod_all fun d hd => (h d hd).nd, lay_all fun d hd => (h d hd).lay, Nat.succ_le_succ (dep_all fun d hd => (h d hd).dp)⟩
theorem OkdN.mono {n m : Nat} {d : PyData} (h : OkdN n d) (hm : n ≤ m) : OkdN m d := ⟨h.nd, h.lay, Nat.le_trans h.dp hm⟩
theorem OkdN.none {n : Nat} : OkdN n .none := ⟨rfl, rfl, Nat.zero_le _⟩
theorem OkdN.bool {n : Nat} {b : Bool} : OkdN n (.bool b) := ⟨rfl, rfl, Nat.zero_le _⟩
theorem OkdN.int {n : Nat} {i : Int} : OkdN n (.int i) := ⟨rfl, rfl, Nat.zero_le _⟩
theorem OkdN.str {n : Nat} {z : Str} (h : Pln z) : OkdN n (.str z) := by
  have q := okd_flat (d := .str z) rfl (fun y e => by cases e; exact h)
  exact ⟨rfl, SeqAt.canLay_of_shaped q.sh, Nat.zero_le _⟩
theorem eqv_nilL {ds : List PyData} : PyData.eqv (.list ds) (.list []) = ds.isEmpty := by
  cases ds <;> simp [PyData.eqv, PyData.eqvAll]
theorem op2_eqNil {ds : List PyData} (h : Okd (.list ds)) (q : φ (.bool ds.isEmpty)) : OpF2 (rEqU K) (.list ds) (.list []) φ := op2_eqD h ⟨rfl, rfl⟩ (by rw [eqv_nilL]; exact q)
theorem op2_neNil {ds : List PyData} (h : Okd (.list ds)) (q : φ (.bool (!ds.isEmpty))) : OpF2 (rNeU K) (.list ds) (.list []) φ := op2_neD h ⟨rfl, rfl⟩ (by rw [eqv_nilL]; exact q)
theorem okd_strs {zs : List Str} (h : ∀ z ∈ zs, Pln z) : OkdN 1 (.list (zs.map .str)) := .list fun d hd => by
  obtain ⟨z, hz, rfl⟩ := List.mem_map.mp hd
  exact .str (h z hz)

/-! ### what repr may show -/
theorem show_all : ∀ {ds : List PyData}, (∀ d ∈ ds, d.showable = true) → PyData.showableAll ds = true
  | [], _ => rfl
  | d :: ds, h => by
    simp only [PyData.showableAll, Bool.and_eq_true]
    exact ⟨h d List.mem_cons_self, show_all fun e he => h e (List.mem_cons_of_mem _ he)⟩
/-- n deep, m signs shown at most -/
structure OksN (n m : Nat) (d : PyData) : Prop where
  nd : d.hasDict = false
  sh : d.showable = true
  dp : d.depth ≤ n
  sz : d.shown.length ≤ m
theorem OksN.oks {n m : Nat} {d : PyData} (h : OksN n m d) (hn : n ≤ 60) (hm : m ≤ 16777216) : Oks d := ⟨h.nd, h.sh, Nat.le_trans h.dp hn, by rw [sizeLine_eq]; exact Nat.le_trans h.sz hm⟩
theorem OksN.mono {n m n' m' : Nat} {d : PyData} (h : OksN n m d) (hn : n ≤ n') (hm : m ≤ m') : OksN n' m' d := ⟨h.nd, h.sh, Nat.le_trans h.dp hn, Nat.le_trans h.sz hm⟩
theorem OksN.none {n : Nat} : OksN n 4 .none := ⟨rfl, rfl, Nat.zero_le _, by decide⟩
theorem OksN.bool {n : Nat} {b : Bool} : OksN n 5 (.bool b) := ⟨rfl, rfl, Nat.zero_le _, by cases b <;> decide⟩
theorem OksN.str {n m : Nat} {z : Str} (h : Pln z) (hm : z.length ≤ m) : OksN n (10 * m + 2) (.str z) := ⟨rfl, rfl, Nat.zero_le _, by
  have := PySem.StrLaws.reprText_len z (fun c hc => by have := h c hc; omega)
  show (reprText z).length ≤ _
  omega⟩
theorem textFrom_le : ∀ (ts : List Str) (k : Nat) (acc : Str), (textFrom k acc ts).length ≤ acc.length + (ts.map fun t => t.length + 2).sum
  | [], k, acc => by show acc.length ≤ _; simp
  | t :: r, k, acc => by
    have h := textFrom_le r (k + 1) (acc ++ (if k > 0 then ", " else "" : String) ++ t)
    have e : (acc ++ (if k > 0 then ", " else "" : String) ++ t).length ≤ acc.length + 2 + t.length := by
      rw [strLen_append, strLen_append]
      split
      · exact Nat.le_refl _
      · show acc.length + 0 + t.length ≤ _
        omega
    rw [List.map_cons, List.sum_cons]
    show (textFrom (k + 1) _ r).length ≤ _
    omega
theorem shownAll_le {m : Nat} : ∀ {ds : List PyData}, (∀ d ∈ ds, d.shown.length ≤ m) → ((PyData.shownAll ds).map fun t => t.length + 2).sum ≤ ds.length * (m + 2)
  | [], _ => Nat.zero_le _
  | d :: ds, h => by
    have h1 := h d List.mem_cons_self
    have h2 := shownAll_le (ds := ds) fun e he => h e (List.mem_cons_of_mem _ he)
    simp only [PyData.shownAll, List.map_cons, List.sum_cons, List.length_cons, Nat.add_mul]
    omega
theorem OksN.list {n m : Nat} {ds : List PyData} (h : ∀ d ∈ ds, OksN n m d) : OksN (n + 1) (2 + ds.length * (m + 2)) (.list ds) :=
  ⟨nod_all fun d hd => (h d hd).nd, show_all fun d hd => (h d hd).sh, Nat.succ_le_succ (dep_all fun d hd => (h d hd).dp), by
    show (textFrom 0 "[" (PyData.shownAll ds) ++ "]").length ≤ _
    rw [strLen_append]
    have h1 := textFrom_le (PyData.shownAll ds) 0 "["
    have h2 := shownAll_le fun d hd => (h d hd).sz
    have e1 : (("[" : String) : Str).length = 1 := rfl
    have e2 : (("]" : String) : Str).length = 1 := rfl
    omega⟩
theorem piled_le : ∀ ts : List Str, (Str.join ", " ts).length ≤ (ts.map fun t => t.length + 2).sum
  | [] => Nat.zero_le _
  | [x] => by show x.length ≤ _; simp
  | x :: y :: r => by
    have ih := piled_le (y :: r)
    show (x ++ ", " ++ Str.join ", " (y :: r)).length ≤ _
    rw [strLen_append, strLen_append]
    have e2 : ((", " : String) : Str).length = 2 := rfl
    rw [List.map_cons, List.sum_cons]
    omega
theorem OksN.tuple {n m : Nat} {ds : List PyData} (h : ∀ d ∈ ds, OksN n m d) : OksN (n + 1) (3 + ds.length * (m + 2)) (.tuple ds) :=
  ⟨nod_all fun d hd => (h d hd).nd, show_all fun d hd => (h d hd).sh, Nat.succ_le_succ (dep_all fun d hd => (h d hd).dp), by
    show (tupleText (PyData.shownAll ds)).length ≤ _
    unfold tupleText
    rw [strLen_append, strLen_append]
    have h1 := piled_le (PyData.shownAll ds)
    have h2 := shownAll_le fun d hd => (h d hd).sz
    have e1 : (("(" : String) : Str).length = 1 := rfl
    have e2 : ((if (PyData.shownAll ds).length == 1 then ",)" else ")" : String) : Str).length ≤ 2 := by
      split
      · exact Nat.le_refl _
      · exact Nat.le_succ _
    omega⟩
end
end Dv

namespace Dv
open PySem L2 TL PyProof.Rows
theorem joinL_nil : ∀ ps : List (List Nat), joinL [] ps = ps.flatten
  | [] => rfl
  | [p] => by simp [joinL]
  | p :: q :: r => by
    have h := joinL_nil (q :: r)
    show p ++ ([] ++ joinL [] (q :: r)) = _
    rw [h]
    simp
theorem tl_join0 (zs : List Str) : tl (Txt.join (("" : String) : Str) zs) = (zs.map tl).flatten := by
  rw [join_eq, tl_join]
  exact joinL_nil _
theorem len_join0 (zs : List Str) : (Txt.join (("" : String) : Str) zs).length = (zs.map (·.length)).sum := by
  rw [len_tl, tl_join0, List.length_flatten, List.map_map]
  rfl
theorem str_nil_iff (x : Str) : (x == (("" : String) : Str)) = (tl x).isEmpty := by
  by_cases h : tl x = []
  · have e : x = (("" : String) : Str) := ext_tl h
    rw [h, e]
    rfl
  · rw [beq_eq_false_iff_ne.mpr fun e => h (by rw [e]; rfl)]
    cases q : tl x with
    | nil => exact absurd q h
    | cons a l => rfl
theorem takeW_all {p : Nat → Bool} : ∀ {l : List Nat}, (∀ c ∈ l, p c = true) → l.takeWhile p = l
  | [], _ => rfl
  | a :: l, h => by
    rw [List.takeWhile_cons, if_pos (h a List.mem_cons_self), takeW_all fun c hc => h c (List.mem_cons_of_mem _ hc)]
theorem takeW_lt {p : Nat → Bool} : ∀ {l : List Nat}, (∃ c ∈ l, p c = false) → (l.takeWhile p).length < l.length
  | [], h => by obtain ⟨c, hc, _⟩ := h; cases hc
  | a :: l, h => by
    rw [List.takeWhile_cons]
    split
    · rename_i ha
      obtain ⟨c, hc, e⟩ := h
      rcases List.mem_cons.mp hc with rfl | hc
      · rw [e] at ha
        cases ha
      · have := takeW_lt ⟨c, hc, e⟩
        simp only [List.length_cons]
        omega
    · simp
theorem strip_nil (x y : Str) : (Txt.stripChars x y == (("" : String) : Str)) = (tl x).all y.cps.contains := by
  rw [str_nil_iff, Txt.stripChars, stripBy_eq]
  rw [tl_strSub]
  unfold stripLo stripHi
  simp only [if_true]
  show (List.take _ (List.drop (List.takeWhile y.cps.contains (tl x)).length (tl x))).isEmpty = _
  have hl := len_tl x
  by_cases h : ∀ c ∈ tl x, y.cps.contains c = true
  · rw [takeW_all h, List.drop_length, List.take_nil, List.all_eq_true.mpr h]
    rfl
  · have h2 : ∃ c ∈ tl x, y.cps.contains c = false := by
      rw [Classical.not_forall] at h
      obtain ⟨c, hc⟩ := h
      rw [Classical.not_imp] at hc
      exact ⟨c, hc.1, by simpa using hc.2⟩
    have h3 := takeW_lt h2
    have e0 : (tl x).all y.cps.contains = false := by
      obtain ⟨c, hc, e⟩ := h2
      rw [List.all_eq_false]
      exact ⟨c, hc, by rw [e]; simp⟩
    rw [e0]
    generalize hn : (List.takeWhile y.cps.contains (tl x)).length = n at h3
    have h4 : ∃ c ∈ ((tl x).drop n).reverse, y.cps.contains c = false := by
      have hd := List.takeWhile_append_dropWhile (p := y.cps.contains) (l := tl x)
      have e1 : (tl x).drop n = (tl x).dropWhile y.cps.contains := by
        have e2 : (tl x).drop n = ((tl x).takeWhile y.cps.contains ++ (tl x).dropWhile y.cps.contains).drop n := by rw [hd]
        rw [e2, ← hn, List.drop_left]
      have hne : (tl x).dropWhile y.cps.contains ≠ [] := fun e => by
        have : ((tl x).drop n).length = 0 := by rw [e1, e]; rfl
        rw [List.length_drop] at this
        omega
      refine ⟨((tl x).dropWhile y.cps.contains).head hne, ?_, ?_⟩
      · rw [List.mem_reverse, e1]
        exact List.head_mem hne
      · have := List.head_dropWhile_not y.cps.contains hne
        simpa using this
    have h5 := takeW_lt h4
    rw [List.length_reverse, List.length_drop] at h5
    rw [hl]
    have h6 : (List.drop n (tl x)).length = (tl x).length - n := List.length_drop
    have h7 : (List.take ((tl x).length - (List.takeWhile y.cps.contains ((tl x).drop n).reverse).length - n) ((tl x).drop n)).length ≠ 0 := by
      rw [List.length_take, h6]
      omega
    cases q : List.take ((tl x).length - (List.takeWhile y.cps.contains ((tl x).drop n).reverse).length - n) ((tl x).drop n) with
    | nil => rw [q] at h7; exact absurd rfl h7
    | cons a l => rfl
def isLst : PyData → Bool
  | .list _ => true
  | _ => false
def isTup : PyData → Bool
  | .tuple _ => true
  | _ => false
def isStr : PyData → Bool
  | .str _ => true
  | _ => false
def isInt : PyData → Bool
  | .int _ => true
  | .bool _ => true
  | _ => false
def isBoo : PyData → Bool
  | .bool _ => true
  | _ => false
theorem kit7 {T : String} {f : String → Bool} (h : (["NoneType", "bool", "int", "str", "list", "tuple", "dict"].all fun a => (kitB a T).getD false == f a) = true) (d : PyData) : isT T d = f (tyN d) := by
  have q := List.all_eq_true.mp h
  have hm : tyN d ∈ ["NoneType", "bool", "int", "str", "list", "tuple", "dict"] := by cases d <;> simp [tyN]
  have e := q _ hm
  simp only [beq_iff_eq] at e
  exact e
theorem isT_list {d : PyData} : isT "list" d = isLst d := by
  rw [kit7 (f := fun a => a == "list") (by decide +kernel)]
  cases d <;> rfl
theorem isT_tuple {d : PyData} : isT "tuple" d = isTup d := by
  rw [kit7 (f := fun a => a == "tuple") (by decide +kernel)]
  cases d <;> rfl
theorem isT_str {d : PyData} : isT "str" d = isStr d := by
  rw [kit7 (f := fun a => a == "str") (by decide +kernel)]
  cases d <;> rfl
theorem isT_int {d : PyData} : isT "int" d = isInt d := by
  rw [kit7 (f := fun a => a == "int" || a == "bool") (by decide +kernel)]
  cases d <;> rfl
theorem isT_bool {d : PyData} : isT "bool" d = isBoo d := by
  rw [kit7 (f := fun a => a == "bool") (by decide +kernel)]
  cases d <;> rfl
def strOf : PyData → Str
  | .str z => z
  | _ => (("" : String) : Str)
theorem strs_of : ∀ {ds : List PyData}, ds.all isStr = true → ds = (ds.map strOf).map .str
  | [], _ => rfl
  | d :: ds, h => by
    rw [List.all_cons, Bool.and_eq_true] at h
    rw [List.map_cons, List.map_cons, ← strs_of h.2]
    cases d with
    | str z => rfl
    | _ => exact absurd h.1 (by simp [isStr])
section
variable {φ : Bool → Prop}
theorem tru_b {b : Bool} (h : φ b) : ∃ k, Tru (.bool b) k ∧ φ k := ⟨b, rfl, h⟩
theorem tru_i {i : Int} (h : φ (i != 0)) : ∃ k, Tru (.int i) k ∧ φ k := ⟨_, rfl, h⟩
theorem tru_n (h : φ false) : ∃ k, Tru .none k ∧ φ k := ⟨_, rfl, h⟩
theorem tru_l {ds : List PyData} (h : φ (!ds.isEmpty)) : ∃ k, Tru (.list ds) k ∧ φ k := ⟨_, rfl, h⟩
theorem tru_t {ds : List PyData} (h : φ (!ds.isEmpty)) : ∃ k, Tru (.tuple ds) k ∧ φ k := ⟨_, rfl, h⟩
theorem sld_l {ds : List PyData} {lo hi : Option Int} {ψ : PyData → Prop} (h : ψ (.list (cutD ds lo hi))) : SlD (.list ds) lo hi ψ := h
theorem sld_t {ds : List PyData} {lo hi : Option Int} {ψ : PyData → Prop} (h : ψ (.tuple (cutD ds lo hi))) : SlD (.tuple ds) lo hi ψ := h
theorem sld_s {z : Str} {lo hi : Option Int} {ψ : PyData → Prop} (hz : z.length ≤ 100000) (h : ψ (.str (cutS z lo hi))) : SlD (.str z) lo hi ψ := ⟨hz, h⟩
theorem cut1 {α : Type} (xs : List α) : cutD xs none (some 1) = xs.take 1 := by
  cases xs <;> simp [cutD, HT.sIx]
theorem nb_t {A B : Prop} (h : B) : ((!true) = true → A) ∧ ((!true) = false → B) := ⟨fun z => (nomatch z), fun _ => h⟩
theorem nb_f {A B : Prop} (h : A) : ((!false) = true → A) ∧ ((!false) = false → B) := ⟨fun _ => h, fun z => (nomatch z)⟩
end
end Dv

namespace Dv
open PySem L2 PyProof.Rows PySem.Spec
/-! ### ranges with bounds of any size -/
theorem turn_long {P : Program} {w : World} {K : PySem.W.Frag} {tg : Expr} (it : Addr) (lo : Int) (n : Nat) : Turn P w K tg (Itr lo n) [it] it (fun i h => IsLongIter h it (lo + (i : Nat) * 1) ((n : Int) - (i : Nat)) 1) where
  mem := List.mem_singleton.mpr rfl
  obj := fun i h st b hb => by
    obtain rfl := List.mem_singleton.mp hb
    exact ⟨_, st, fun v z => nomatch (show Data.fields _ = Data.cell v from z)⟩
  keep := fun i h h' st k => k it (List.mem_singleton.mpr rfl) _ st
  item := by
    intro X hP hw hK hc i pins s σ H E I hf st hg
    subst hP
    subst hw
    subst hK
    obtain ⟨f0, f1, f2, f3, f4, f5⟩ := hf it (List.mem_singleton.mpr rfl)
    have W := Walks.longrange (prog := X.prog) (w := X.w) (I.ok.hd hc) it lo 1 n
    refine W.item i s _ _ hg st fun v h' tk ⟨t, ev⟩ st' kk => ?_
    subst ev
    have J : L2.Inv X pins σ H { s with heap := h', toks := tk } := I.turned (fun b o hb e => kk b o (fun z => hb (List.mem_singleton.mp z)) e) f0 f1 f3 f4 f5
    exact ⟨_, rfl, go_of (s := { s with heap := h', toks := tk }) (n := "longrange_iterator") st' rfl rfl (by decide) ⟨.int (lo + i), H, J, ⟨t, by rw [Int.mul_one]⟩, ⟨rfl, rfl⟩, st', fun b hb => (hf b hb).1⟩⟩
  done := by
    intro X hP hw hK hc i pins s σ H E I hf st hg
    subst hP
    subst hw
    subst hK
    obtain ⟨f0, f1, f2, f3, f4, f5⟩ := hf it (List.mem_singleton.mpr rfl)
    exact wpAny_pyNext_long_end (I.ok.hd hc) st (by have : n ≤ i := hg; omega) fun h' eb => ⟨rfl, I.turned (t' := s.toks) (fun b o hb e => eb b o hb e) f0 f1 f3 f4 f5⟩
  self := fun _ _ _ _ _ st h => wpAny_pyIter_longiter st h
section
variable {X : Cx} {tg : Expr}
theorem range_itW {pins : List (Addr × Obj)} {σ : L2.St} {H : Hp} {s : Shared} {R : It → Hp → Prop} {E : Value → Shared → Prop} {lo hi : Int} {t u v : Tok} {tk : Nat} (I : L2.Inv X pins σ H s)
    (q : R (Itr lo (hi - lo).toNat) H) : wpAny (model X.prog X.w) X.A (pyIter (.ref s.heap.objs.size)) (PIE X pins σ tg R) E { s with heap := s.heap.push { cls := .type "range", data := .fields #[.int lo t, .int hi u, .int 1 v] }, toks := tk } := by
  have J : L2.Inv X pins σ H { s with heap := s.heap.push { cls := .type "range", data := .fields #[.int lo t, .int hi u, .int 1 v] }, toks := tk } := I.kept fun b o e => Heap.get?_push_of_some _ e
  have e2 : (((hi - lo).toNat : Nat) : Int) - ((0 : Nat) : Int) = Builtin.Range.rangeSize lo hi 1 := by rw [rangeSize_one]; split <;> omega
  have fp : ∀ b ∈ [(s.heap.push { cls := .type "range", data := .fields #[.int lo t, .int hi u, .int 1 v] }).objs.size], FpOk X pins H b := fun b hb => by
    obtain rfl := List.mem_singleton.mp hb
    exact J.fpOk (Nat.le_refl _) (J.hok.fresh (Nat.le_refl _))
  cases hs : Builtin.Range.small lo hi 1 with
  | true =>
    refine wpAny_pyIter_range (IsRange.new ..) hs ⟨_, _, _, _, H, rfl, J.kept (t' := tk) fun b o e => Heap.get?_push_of_some _ e, turn_range _ lo (hi - lo).toNat, ?_, fp, q⟩
    show IsRangeIter _ _ (lo + ((0 : Nat) : Int) * 1) ((((hi - lo).toNat : Nat) : Int) - ((0 : Nat) : Int)) 1
    rw [e2, show lo + ((0 : Nat) : Int) * 1 = lo by simp]
    exact Heap.get?_push_size _ rfl
  | false =>
    refine wpAny_pyIter_longrange (IsRange.new ..) hs ⟨_, _, _, _, H, rfl, J.kept (t' := tk) fun b o e => Heap.get?_push_of_some _ e, turn_long _ lo (hi - lo).toNat, ?_, fp, q⟩
    show IsLongIter _ _ (lo + ((0 : Nat) : Int) * 1) ((((hi - lo).toNat : Nat) : Int) - ((0 : Nat) : Int)) 1
    rw [e2, show lo + ((0 : Nat) : Int) * 1 = lo by simp]
    exact Heap.get?_push_size _ rfl
def iR1 (ta : TA) : TI := fun σ H R => ta σ H fun vs H1 => ∃ j : Int, vs = [.int j] ∧ R (Itr 0 j.toNat) H1
def iR2 (ta : TA) : TI := fun σ H R => ta σ H fun vs H1 => ∃ i j : Int, vs = [.int i, .int j] ∧ R (Itr i (j - i).toNat) H1
theorem pi_r1 {a : Expr} {ta : TA} {p pos : Pos} (hg : Gl X "range") (hm : X.mg "range" = none) (ha : PA X [a] ta) (hs : starEach [a] X.env = [(false, eval a X.env)] := by rfl) : PI X tg (.Call (.Name "range" p) [a] [] pos) (iR1 ta) := by
  refine ⟨fun pins s σ H R I h => ?_⟩
  refine Call_ (ld_blt I hg hm boot_range (PyProof.Rows.callWith_type1 (thn (ha.run pos pins s σ H _ I h) fun us s1 ⟨vs, H1, I1, r1, j, e, q⟩ => ?_) hs rfl))
  subst e
  obtain ⟨u, rfl, r⟩ := vals1 r1
  obtain ⟨t, rfl⟩ := r
  exact call_range_1 (range_itW I1 (by simpa using q))
theorem pi_r2 {a b : Expr} {ta : TA} {p pos : Pos} (hg : Gl X "range") (hm : X.mg "range" = none) (ha : PA X [a, b] ta) (hs : starEach [a, b] X.env = [(false, eval a X.env), (false, eval b X.env)] := by rfl) (hs2 : starEach [b] X.env = [(false, eval b X.env)] := by rfl) :
    PI X tg (.Call (.Name "range" p) [a, b] [] pos) (iR2 ta) := by
  refine ⟨fun pins s σ H R I h => ?_⟩
  refine Call_ (ld_blt I hg hm boot_range (PyProof.Rows.callWith_type1 (thn (ha.run pos pins s σ H _ I h) fun us s1 ⟨vs, H1, I1, r1, i, j, e, q⟩ => ?_) (by rw [hs, hs2]) (by rw [hs2]; rfl)))
  subst e
  cases r1 with
  | cons r rr =>
    obtain ⟨u, rfl, r2⟩ := vals1 rr
    obtain ⟨t, rfl⟩ := r
    obtain ⟨t', rfl⟩ := r2
    exact call_range_2 (range_itW I1 q)
end
section
variable {te ta tb tc : TE} {tas : TA} {ρ : Rho}
theorem wi_r1 {Φ : List PyData → Rho → Prop} (h : Wa tas ρ fun ds ρ1 => ∃ j : Int, ds = [.int j] ∧ Φ (inz 0 j.toNat) ρ1) : Wi (iR1 tas) ρ Φ := fun F G0 G H σ s R k =>
  h F G0 G H σ s _ fun vs ds ρ1 G1 H1 s1 g1 r1 ⟨j, e, q⟩ => by
    subst e
    cases r1 with
    | cons ra rb =>
      cases ra
      cases rb
      exact ⟨j, rfl, k _ _ ρ1 G1 H1 s1 g1 walk_rng q⟩
theorem wi_r2 {Φ : List PyData → Rho → Prop} (h : Wa tas ρ fun ds ρ1 => ∃ i j : Int, ds = [.int i, .int j] ∧ Φ (inz i (j - i).toNat) ρ1) : Wi (iR2 tas) ρ Φ := fun F G0 G H σ s R k =>
  h F G0 G H σ s _ fun vs ds ρ1 G1 H1 s1 g1 r1 ⟨i, j, e, q⟩ => by
    subst e
    cases r1 with
    | cons ra rb =>
      cases rb with
      | cons rb rc =>
        cases ra
        cases rb
        cases rc
        exact ⟨i, j, rfl, k _ _ ρ1 G1 H1 s1 g1 walk_rng q⟩
end
end Dv

namespace Dv
open PySem L2 PyProof.Rows PySem.Spec
/-! ### the __init__ of an own exception: super().__init__(value); self.value = value -/
abbrev xiBody (p0 p1 p2 p3 p4 p5 p6 p7 p8 p9 : Pos) : List Stmt := [.Expr (.Call (.Attribute (.Call (.Name "super" p0) [] [] p1) "__init__" p2) [.Name "value" p3] [] p4) p5, .Assign [.Attribute (.Name "self" p6) "value" p7] (.Name "value" p8) p9]
def XiEv (p0 p1 p2 p3 p4 : Pos) : Prop := ∀ env : PySem.Env, ∃ pl : Sem Bool, eval (.Call (.Attribute (.Call (.Name "super" p0) [] [] p1) "__init__" p2) [.Name "value" p3] [] p4) env = (do
      let ov ← attributeBase (.Call (.Name "super" p0) [] [] p1) "__init__" env (eval (.Call (.Name "super" p0) [] [] p1) env)
      standAt p2.atName
      let (f, first) ← holding [ov] (getMethod ov "__init__" pl)
      callWith p4 f first (backTo p4 (starEach [.Name "value" p3] env)) [])
/-- what the written part says of such a class's __init__ -/
structure XiC (P : Program) (K : PySem.W.Frag) (C fI : Addr) (fd : FuncData) : Prop where
  ex : ∃ (qual : Str) (params : Arguments) (scope : Scope) (dV kV doc pm ct oc : Value) (od an : Option Addr) (osl : Array (Option Value)) (cda cc : Addr) (p0 p1 p2 p3 p4 p5 p6 p7 p8 p9 : Pos),
    fd = PySem.W.ksFn "__init__" qual params (xiBody p0 p1 p2 p3 p4 p5 p6 p7 p8 p9) scope dV kV doc pm an (.ref cda) ct cc ∧
    K.lookup fI = some ⟨oc, od, .func fd, osl⟩ ∧ PySem.W.codeIn K (.ref cda) qual = true ∧
    (∃ ccl cdd vs ccs file tf, K.lookup cda = some ⟨ccl, cdd, .fields vs, ccs⟩ ∧ vs[2]? = some (.str file tf) ∧ ((P.main.file : Str) == file) = true) ∧
    (∃ cl cld csl, K.lookup cc = some ⟨cl, cld, .cell (some (.ref C)), csl⟩) ∧
    ((params.posonlyargs ++ params.args).head?.map (·.arg) = some "self" ∧ scope.names.lookup ("super" : Str) = some .globalImplicit ∧ scope.names.lookup ("__class__" : Str) = some .free ∧ scope.names.lookup ("self" : Str) = some .local ∧ scope.names.lookup ("value" : Str) = some .local ∧
      (∀ x ∈ scope.names, x.2 ≠ .cell) ∧ scope.isCoroutine = false ∧ scope.isGenerator = false ∧ scope.kind = .function) ∧ XiEv p0 p1 p2 p3 p4
  top : (P.main.scope.names.lookup ("super" : Str)).isSome = false
  hm : PySem.W.ks_superIn K C C "__init__" = some (some (.builtin "ValueError.__init__"))
  sB : PySem.W.subIn K (.ref C) (.type "ValueError") = some true
  op : PySem.W.nsIn K cStatics "thirdparty.any" = some none
  own : PySem.W.mroIn K C (.ref C) = some true
  hno : PySem.W.findIn K (.ref C) "value" = some none
  T : OexC K C
/-- its promise -/
def spXi (C : Addr) : Sp := fun vs H Q _ => ∃ a y, vs = [.ref a, y] ∧ H a = some (exo a C none) ∧ ∀ dx, H dx = none → dx ≠ a → Q .non (upd (upd H dx (exd dx [("value", y)])) a (exo a C (some dx)))
theorem xi_ok {P : Program} {w : World} {K : PySem.W.Frag} {mg : Str → Option Value} {base : Heap} {CXx : CXT} {k : Nat} {C fI : Addr} {fd : FuncData} (X : XiC P K C fI fd) (hms : mg "super" = none) : FnOk P w K mg base CXx k fI fd ["self", "value"] (spXi C) where
  len := by
    rintro vs H Q E ⟨a, y, rfl, _⟩
    rfl
  run := by
    intro A outer s H args us vs Q E hr e0 hbind rv hsp
    obtain ⟨a, y, rfl, ea, hq⟩ := hsp
    obtain ⟨qual, params, scope, dV, kV, doc, pm, ct, oc, od, an, osl, cda, cc, p0, p1, p2, p3, p4, p5, p6, p7, p8, p9, rfl, lk, hcd, ⟨ccl, cdd, cvs, ccs, file, tf, hcode, hvs, hfile⟩, ⟨cl, cld, csl, hcell⟩, ⟨hpar, hks, hkc, hka, hkv, hcells, hco, hgen, hkind⟩, hev⟩ := X.ex
    have hin : ∀ b o, base.get? b = some o → s.heap.get? b = some o := fun b o e => (e0.bs b o e).1
    have KX : K.In s.heap := e0.mod.kin.keeps hin
    cases rv with
    | @cons _ u0 _ ur ra rw' =>
      obtain rfl : u0 = Value.ref a := ra
      obtain ⟨u, rfl, ry⟩ := vals1 rw'
      have hp : ∃ ar : Arg, (params.posonlyargs ++ params.args).head? = some ar ∧ ar.arg = "self" := by
        cases q : (params.posonlyargs ++ params.args).head? with
        | none => rw [q] at hpar; cases hpar
        | some ar => rw [q] at hpar; exact ⟨ar, rfl, Option.some.inj hpar⟩
      obtain ⟨ar, hp, har⟩ := hp
      have hself : (["self", "value"] : List Str).zip [Value.ref a, u] = ([(("self" : Str), Value.ref a), (("value" : Str), u)] : List (Str × Value)) := rfl
      rw [hself] at hbind
      obtain ⟨nm, qq, NN, bs, bm, sn, sub, ab, col, dd, j0, j1, j2, j3, j5, hC, hbm⟩ := X.T.cls
      have hcl : PySem.W.clsIn K C = some { name := nm, bases := bs, mro := .ref C :: bm, ns := NN, qualname := qq, hasDict := true, slotNames := sn, subclasses := sub, abstract := ab, collection := col, hasDel := false } := by unfold PySem.W.clsIn; rw [hC] <;> rfl
      obtain ⟨mb, hb1, hb2⟩ := e0.mod.blt
      obtain ⟨hp0, g, d, t, os⟩ := s
      obtain ⟨t1, ho⟩ := exo_at e0.hok ea
      have xC : a ≠ C := fun z => by
        rw [z, KX _ _ hC] at ho
        exact nomatch (show some _ = some _ from ho)
      refine ks_codeAny_call_defAt (fd := PySem.W.ksFn "__init__" qual params (xiBody p0 p1 p2 p3 p4 p5 p6 p7 p8 p9) scope dV kV doc pm an (.ref cda) ct cc) hr.depth (KX _ _ lk) rfl (e0.mod.nolimit.keeps hin) (PySem.W.codeRec_of KX hcd) rfl hbind hcells ?_ (fun h1 hns k1 => ?_) hco hgen hkind
      · intro x hx
        rcases List.mem_cons.mp hx with rfl | hx
        · exact hka
        · obtain rfl := List.mem_singleton.mp hx
          exact hkv
      · have K1 : K.In h1 := KX.keeps k1
        obtain ⟨pl, hev⟩ := hev (callEnv (PySem.W.ksFn "__init__" qual params (xiBody p0 p1 p2 p3 p4 p5 p6 p7 p8 p9) scope dV kV doc pm an (.ref cda) ct cc) hp0.objs.size fI)
        refine ks_wpAt_execs_cons (ks_wpAt_Expr_any (ks_wpAt_MethodCall ?_ hev) (by
          show (scope.kind == .module && _) = false
          rw [hkind]
          rfl))
        refine ks_wpAt_super_base (f := fI) (cc := cda) hks hkc rfl rfl (k1 _ _ (KX _ _ lk)) rfl hp rfl (K1 _ _ hcode) rfl hvs hfile X.top ?_
        refine PySem.W.ks_loadName_global hkind hks (Calls.loadGlobal_builtin ((e0.mod.glob.keeps hin).keeps k1) hms ((hb1.keeps hin).keeps k1) ((hb2 _ (by decide +kernel)).trans (by rfl)) ⟨rfl, ?_⟩)
        refine wpAny_loadName_free hkind hkc rfl ⟨_, K1 _ _ hcell, rfl⟩ ?_
        refine wpAny_loadName_local hkind (by rw [har]; exact hka) hns (by rw [har]; rfl) ?_
        refine ks_wpAny_isType_cls (K1 _ _ hC) rfl ⟨rfl, ?_⟩
        refine ks_wpAny_call_super (K1 _ _ hC) rfl (k1 _ _ ho) rfl (fun c e => nomatch e) (PySem.W.looks_mroIn K1 X.own) (fun h2 e2 k2 => ?_)
        have K2 : K.In h2 := K1.keeps k2
        have ho2 : h2.get? a = some ({ cls := .ref C, dict := none, data := .fields #[.ref t1, .none, .none, .none, .bool false, .none] } : Obj) := k2 _ _ (k1 _ _ ho)
        have I2 : PySem.W.InstAt h2 a ({ cls := .ref C, dict := none, data := .fields #[.ref t1, .none, .none, .none, .bool false, .none] } : Obj) C none := ⟨ho2, rfl, rfl, trivial⟩
        have hsm : PySem.W.alongIn K "__init__" (((Value.ref C :: bm).dropWhile (· != .ref C)).drop 1) = some (some (.builtin "ValueError.__init__")) := by
          have q := X.hm
          unfold PySem.W.ks_superIn at q
          rw [hcl] at q
          exact q
        refine PySem.W.kxs_getMethod PySem.W.kxs_ValueError e2 (PySem.W.looks_opaque K2 X.op) (l₀ := .ref C :: bm) ?_ rfl K2 hsm (I2.type.andThen (PySem.W.looks_subIn K2 X.sB)) xC (by decide) ?_
        · exact fun A Q E s k q => wpAny_bind ((PySem.W.looks_clsIn K2 hcl) A _ E s k (wpAny_pure q))
        obtain ⟨oL, esL, epL, hL, hnsL⟩ := id hns
        have kk : ∀ b o, h1.get? b = some o → (h2.push (PySem.W.kxs_mw "ValueError.__init__" a)).get? b = some o := fun b o e => Heap.get?_push_of_some _ (k2 b o e)
        have hns3 := hns.at (h' := h2.push (PySem.W.kxs_mw "ValueError.__init__" a)) fun o e => kk _ o e
        show wpAny _ _ (callWith p4 (.ref h2.objs.size) [] (backTo p4 [(false, eval (.Name "value" p3) _)]) []) _ _ _
        refine PySem.W.kxs_callWith (i := "ValueError.__init__") (x := a) rfl (Calls.evalArgs_plain ?_)
        show wpAny _ _ (spliced [(false, eval (.Name "value" p3) _)]) _ _ _
        refine Calls.spliced_cons (wpAny_Name (wpAny_loadName_local hkind hkv hns3 (by rfl) (Calls.spliced_nil ?_)) (by decide))
        refine ⟨Heap.get?_push_at rfl rfl, ?_⟩
        refine wpAny_call (codeAny_of_tree ?_)
        show wpAny _ _ (callAny (.ref h2.objs.size) ⟨[u], []⟩) _ _ _
        simp only [callAny]
        refine wpAny_bind (wpAny_load (Heap.get?_push_at rfl rfl) ?_)
        simp only [PySem.W.kxs_mw, show (Value.type "method-wrapper" == Value.type "method" || Value.type "method-wrapper" == Value.type "builtin_function_or_method" || Value.type "method-wrapper" == Value.type "method-wrapper") = true by decide, if_true]
        refine PySem.W.KFB.if_so (by decide) ?_
        have he3 : (h2.push (PySem.W.kxs_mw "ValueError.__init__" a)).get? a = some ({ cls := .ref C, dict := none, data := .fields #[.ref t1, .none, .none, .none, .bool false, .none] } : Obj) := kk _ _ (k1 _ _ ho)
        have K3 : K.In (h2.push (PySem.W.kxs_mw "ValueError.__init__" a)) := K1.keeps kk
        refine wpAny_bind (PySem.W.check_bound_init F.excBase_ValueError.toExcCallFacts (K3 _ _ hC) he3 rfl ?_)
        refine wpAny_bind (wpAny_pure (wpAny_pure ?_))
        refine ⟨plainId_quiet F.excBase_ValueError.init.plain _, codeAny_builtin F.excBase_ValueError.initEntry ?_⟩
        refine PySem.W.exc_init_tree (cls := .ref C) (t0 := t1) (dv := none) (c2 := .none) (c3 := .none) (b4 := .bool false) he3 (by show 1 ≤ sizeLine; decide) (fun h4 k4 e4 t4 => ?_)
        have hn0 : ∀ {b : Addr}, H b = none → b ≠ a := fun {b} n z => by
          rw [z, ea] at n
          cases n
        have K4 : K.In h4 := fun b o e => k4 b o (hn0 (e0.bs b o (e0.mod.kin b o e)).2) (K3 b o e)
        have La : hp0.objs.size ≠ a := Nat.ne_of_gt (Heap.lt_size ho)
        have hns4 := hns3.at (h' := h4) fun o e => k4 _ o La e
        refine ks_wpAt_execs_cons (ks_wpAt_Assign_Attr (wpAt_of_wpAny ?_))
        refine wpAny_Name (wpAny_loadName_local hkind hkv hns4 (by rfl) ?_) (by decide)
        refine wpAny_Name (wpAny_loadName_local hkind hka hns4 (by rfl) ?_) (by decide)
        refine PySem.W.set_plain K4 (ox := PySem.W.excRec (.ref C) (h2.push (PySem.W.kxs_mw "ValueError.__init__" a)).objs.size none .none .none (.bool false)) (od := none) ⟨e4, rfl, rfl, trivial⟩ X.T.sa ?_
        refine PySem.HandSPX.exc_osa K4 e4 hcl (show PySem.HandSPX.refsVE (.ref C :: bm) = true from hbm) rfl X.hno (fun h5 tk' dx k5 dn dne hx hn => ?_)
        have kf : ∀ b o, b ≠ a → hp0.get? b = some o → h5.get? b = some o := fun b o n e => k5 b o n (k4 b o n (kk b o (k1 b o e)))
        have sz : hp0.objs.size ≤ dx := by
          have z1 : hp0.objs.size < h1.objs.size := Heap.lt_size hL
          have z2 : h1.objs.size < h2.objs.size := Heap.lt_size e2
          have z3 : (h2.push (PySem.W.kxs_mw "ValueError.__init__" a)).objs.size < h4.objs.size := Heap.lt_size t4
          have z4 : (h2.push (PySem.W.kxs_mw "ValueError.__init__" a)).objs.size = h2.objs.size + 1 := by simp [Heap.size_push]
          have z5 : h4.objs.size ≤ dx := dn
          rw [z4] at z3
          exact Nat.le_trans (Nat.le_of_lt (Nat.lt_trans z1 (Nat.lt_trans z2 (Nat.lt_of_succ_lt z3)))) z5
        have hnd : H dx = none := e0.hok.fresh sz
        have nd : ∀ {b : Addr} {o : Obj}, hp0.get? b = some o → b ≠ dx := fun {b o} q => Nat.ne_of_lt (Nat.lt_of_lt_of_le (Heap.lt_size q) sz)
        refine wpAt_of_wpAny (wpAny_execs_nil ⟨.non, _, rfl, e0.bare, ?_, ?_, rfl, hq dx hnd dne⟩)
        · exact {
            keep := fun b o q n _ _ => kf b o (hn0 n) q
            slot := fun b o q n _ _ => ⟨o.slots, kf b o (hn0 n) q⟩
            free := fun b o q n _ => by rw [upd_ne (hn0 n), upd_ne (nd q)]; exact n
            there := fun b o q _ => by
              by_cases hb : b = a
              · exact ⟨_, by rw [hb]; exact hx⟩
              · exact ⟨o, kf b o hb q⟩
            tups := fun b xs q => by rw [upd_ne (at_ne ea q exo_tup), upd_ne (ne_of_none q hnd)]; exact q
            frzs := fun b o v q => by rw [upd_ne (at_ne ea q exo_frz), upd_ne (ne_of_none q hnd)]; exact q
            tbls := fun b ps q => ⟨#[], by rw [upd_ne (at_ne ea q exo_tbl), upd_ne (ne_of_none q hnd), q]; simp⟩ }
        · intro b o q
          by_cases hb : b = a
          · subst hb
            rw [upd_same] at q
            cases q
            exact exo_ok hx
          · rw [upd_ne hb] at q
            by_cases hd : b = dx
            · subst hd
              rw [upd_same] at q
              cases q
              exact exd_ok hn (relO_put (fs := []) ry fun g => True.intro)
            · rw [upd_ne hd] at q
              exact (e0.hok b o q).stay (fun c v hc z => kf c v (by
                  rcases hc with hc | hc
                  · rw [hc]
                    exact hb
                  · exact at_ne ea hc exo_own) z)
                (fun c hc => by rw [upd_ne (at_ne ea hc exo_own), upd_ne (ne_of_none hc hnd)]; exact hc) (fun c xs hc => by rw [upd_ne (at_ne ea hc exo_tup), upd_ne (ne_of_none hc hnd)]; exact hc)
end Dv

namespace Dv
open PySem L2 PyProof.Rows PySem.Spec
/-! ### defs that may let an own error out -/
/-- what the wish E is at an error of the class named n with a value d of which ψ -/
def EOk (cA : String → Addr) (E : XK) (ψ : String → PyData → Prop) (F G0 : Hp) : Prop := ∀ (n : String) (dx : Addr) (y : V) (d : PyData) (G' H' : Hp), Same F H' → Same G' H' → Same G0 G' → (∀ a o, G' a = some o → F a ≠ none → G0 a = some o) →
  F dx = none → G' dx = none → H' dx = some (.xd [("value", y)]) → Rp G' y d → ψ n d → E (.ref (cA n)) (some dx) H'
def SpX (cA : String → Addr) (pre : List PyData → (PyData → Prop) → (String → PyData → Prop) → Prop) : Sp := fun vs H Q E => ∃ G ds φ ψ, Same G H ∧ RpA G vs ds ∧ pre ds φ ψ ∧ (∀ v d G' H', Grow G H G' H' → Rp G' v d → φ d → Q v H') ∧ EOk cA E ψ H G
theorem EOk.sta {cA : String → Addr} {E : XK} {ψ ψ' : String → PyData → Prop} {F G0 G H : Hp} {σ : L2.St} {ρ : Rho} (h : EOk cA E ψ F G0) (s : Sta F G0 G H σ ρ) (k : ∀ n d, ψ' n d → ψ n d) : EOk cA E ψ' H G := fun n dx y d G' H' a b c e f g i j l =>
  h n dx y d G' H' (s.fh.trans a) b (s.g0.trans c) (fun x o q nn => s.new x o (e x o q (by
    cases z : F x with
    | none => exact absurd z nn
    | some u => rw [s.fh x u z]; simp)) nn) (none_of s.fh f) g i j (k n d l)
theorem EOk.never {cA : String → Addr} {E : XK} {F G0 : Hp} : EOk cA E (fun _ _ => False) F G0 := fun _ _ _ _ _ _ _ _ _ _ _ _ _ _ l => l.elim
theorem fn_x {cA : String → Addr} {pre : List PyData → (PyData → Prop) → (String → PyData → Prop) → Prop} {t : TS} {N : List Str} {n : Nat} {E : XK} (hn : n ≤ N.length) (hl : ∀ ds φ ψ, pre ds φ ψ → ds.length = n)
    (h : ∀ F G0 ds φ ψ, pre ds φ ψ → EOk cA E ψ F G0 → Ws F G0 t (slots0 N.length ds) { nx := fun _ => φ .none, rt := fun d _ => φ d }) {vs : List V} {H : Hp} {Q : VK} (hs : SpX cA pre vs H Q E) : t { nx := fun _ H' => Q .non H', rt := Q } (L2.start N vs) H := by
  obtain ⟨G, ds, φ, ψ, s, r, p, k, e⟩ := hs
  have hv : vs.length ≤ N.length := by rw [r.len, hl ds φ ψ p]; exact hn
  have fin : ∀ (v : V) (d : PyData) (σ' : L2.St) (ρ' : Rho) (G' H' : Hp), Sta H G G' H' σ' ρ' → Same G G' → Rp G' v d → φ d → Q v H' := fun v d σ' ρ' G' H' s' g r' q => k v d G' H' ⟨g, s'.fh, s'.gh, s'.new⟩ r' q
  exact h H G ds φ ψ p e G H _ (sta_start s r hv) _ (fun σ' ρ' G' H' s' g q => fin .non .none σ' ρ' G' H' s' g .non q) (fun v d σ' ρ' G' H' s' g r' q => fin v d σ' ρ' G' H' s' g r' q) (fun _ _ _ _ _ _ q => q.elim) (fun _ _ _ _ _ _ q => q.elim)
theorem spx_len {cA : String → Addr} {pre : List PyData → (PyData → Prop) → (String → PyData → Prop) → Prop} {n : Nat} (hl : ∀ ds φ ψ, pre ds φ ψ → ds.length = n) : ∀ vs H Q E, SpX cA pre vs H Q E → vs.length = n := fun vs H Q E ⟨G, ds, φ, ψ, s, r, p, k⟩ => by rw [r.len, hl ds φ ψ p]
section
variable {P : Program} {w : World} {K : PySem.W.Frag} {mg : Str → Option Value} {base : Heap}
/-- a def that may let an error out, by its body -/
theorem FnG.okX {x qual : Str} {st : Stmt} {f : Addr} {fd : FuncData} {N ps : List Str} {k : Nat} {sp : Sp} (F : Fun K x qual st f fd) (S : FnScope N ps (defScope st)) (len : ∀ vs H Q E, sp vs H Q E → vs.length = ps.length)
    (hb : ∀ (cdv : Value) (A : Around) (outer : List PySem.Env) (s : Shared) (H : Hp) (vs : List V) (Q : VK) (E : XK), Room k (cxOf (L2.CX P w) P w K mg base N qual (defScope st) f cdv A outer s H E).A → (cxOf (L2.CX P w) P w K mg base N qual (defScope st) f cdv A outer s H E).A.guards = some [] → sp vs H Q E →
      ∃ t, PSs (cxOf (L2.CX P w) P w K mg base N qual (defScope st) f cdv A outer s H E) (defBody st) t ∧ t { nx := fun _ H' => Q .non H', rt := Q } (L2.start N vs) H) : FnG P w K mg base (L2.CX P w) (k + 1) f fd ps sp := by
  obtain ⟨oc, od, kV, doc, pm, an, cdv, ct, osl, rfl, lk, hcd⟩ := F.ex
  exact FnG.of lk hcd S len fun A outer s H vs Q E hr hg hsp => hb cdv A outer s H vs Q E hr hg hsp
theorem passF {X : Cx} : Passes (L2.CX X.prog X.w) X E0 := fun _ _ _ _ _ _ _ ⟨_, _, _, _, _, _, _, _, _, _, _, _, e⟩ => e.elim
end
/-- a class's words: class, its __init__, how it binds -/
structure XcC (P : Program) (K : PySem.W.Frag) (mg : Str → Option Value) (x : Str) (C fI : Addr) (fd : FuncData) : Prop where
  xi : XiC P K C fI fd
  iC : PySem.W.findIn K (.ref C) "__init__" = some (some (.ref fI))
  tI : PySem.W.typeIn K (.ref fI) = some (.type "function")
  bd : Binds K fd ["self", "value"] []
  ms : mg "super" = none
  mC : mg x = some (.ref C)
section
variable {X : Cx} {e : Expr} {ta : TA} {p pos : Pos} {x : Str} {C fI : Addr} {fd : FuncData} {W : WX}
theorem ps_raiseV (T : XcC X.prog X.K X.mg x C fI fd) (hc : X.calm = true) (tk : Takes X W) (hr : Room 1 X.A) (hg : Gl X x) (ha : PA X [e] ta) (hdb : (x == ("__debug__" : Str)) = false := by decide) (he : starEach [e] X.env = (false, eval e X.env) :: starEach [] X.env := by rfl) {pos' : Pos} :
    PS X (.Raise (some (.Call (.Name x p) [e] [] pos)) none pos') (fun _ σ H => tMkO C (spXi C) [] ta σ H fun cls d H' => W cls d σ H') :=
  ps_raise hc tk (pmk_oex (CX := CX0) T.xi.T T.iC T.tI (xi_ok (k := 0) T.xi T.ms) hr T.bd .nil pass0 hg T.mC ha hdb he rfl)
end
section
variable {F G0 : Hp} {cA : String → Addr} {E : XK} {ψ : String → PyData → Prop} {tas : TA} {ρ : Rho} {nx bk ct : Rho → Prop} {rt : PyData → Rho → Prop} {C : Addr}
theorem q_raise (n : String) (hE : EOk cA E ψ F G0) (hC : cA n = C) (h : Wa tas ρ fun ds _ => ∃ d, ds = [d] ∧ ψ n d) : Ws F G0 (fun _ σ H => tMkO C (spXi C) [] tas σ H fun cls d H' => E cls d H') ρ ⟨nx, rt, bk, ct⟩ := fun G H σ s D q1 q2 q3 q4 =>
  h F G0 G H σ s _ fun vs ds ρ1 G1 H1 s1 g1 r1 ⟨d, e, hd⟩ => by
    subst e
    cases r1 with
    | @cons v vs' _ _ ra rb =>
      cases rb
      refine ⟨by simp, fun a ha => ⟨a, v, rfl, upd_same, fun dx hdx hda => ⟨rfl, dx, [("value", v)], upd_same, ?_, ?_, ?_⟩⟩⟩
      · rw [upd_ne hda, upd_same]
      · rw [upd_ne hda] at hdx
        exact hdx
      · rw [upd_ne hda] at hdx
        rw [← hC]
        refine hE n dx v d G1 _ (fun b o eb => ?_) (fun b o eb => ?_) s1.g0 s1.new (none_of s1.fh hdx) (none_of s1.gh hdx) upd_same ra hd
        · have h1 := s1.fh b o eb
          have nb : b ≠ dx := fun z => by rw [z, hdx] at h1; cases h1
          have na : b ≠ a := fun z => by rw [z, ha] at h1; cases h1
          rw [upd_ne nb, del_ne na, upd_ne na, upd_ne nb, upd_ne na]
          exact h1
        · have h1 := s1.gh b o eb
          have nb : b ≠ dx := fun z => by rw [z, hdx] at h1; cases h1
          have na : b ≠ a := fun z => by rw [z, ha] at h1; cases h1
          rw [upd_ne nb, del_ne na, upd_ne na, upd_ne nb, upd_ne na]
          exact h1
variable {Φ : PyData → Rho → Prop} {pre : List PyData → (PyData → Prop) → (String → PyData → Prop) → Prop}
/-- a call that lets no error out -/
theorem we_callX (h : Wa tas ρ fun ds ρ1 => pre ds (fun d => Φ d ρ1) fun _ _ => False) : We (tCall (SpX cA pre) [] E tas) ρ Φ := fun F G0 G H σ s Q k =>
  h F G0 G H σ s _ fun vs ds ρ1 G1 H1 s1 g1 r1 p => ⟨G1, ds, _, _, s1.gh, by rw [List.append_nil]; exact r1, p, fun v d G' H' gr r q => k v d ρ1 G' H' (s1.grow gr) (g1.trans gr.g) r q, .never⟩
/-- return f(..), which may let an error out -/
theorem q_retX (hE : EOk cA E ψ F G0) (h : Wa tas ρ fun ds ρ1 => pre ds (fun d => rt d ρ1) ψ) : Ws F G0 (tRet (tCall (SpX cA pre) [] E tas)) ρ ⟨nx, rt, bk, ct⟩ := fun G H σ s D q1 q2 q3 q4 =>
  h F G0 G H σ s _ fun vs ds ρ1 G1 H1 s1 g1 r1 p => ⟨G1, ds, _, _, s1.gh, by rw [List.append_nil]; exact r1, p, fun v d G' H' gr r q => q2 v d _ ρ1 G' H' (s1.grow gr) (g1.trans gr.g) r q, hE.sta s1 fun _ _ z => z⟩
theorem q_setX {i : Nat} (hE : EOk cA E ψ F G0) (h : Wa tas ρ fun ds ρ1 => pre ds (fun d => nx (ρ1.set i (.val d))) ψ) : Ws F G0 (tAsg (tCall (SpX cA pre) [] E tas) (gName i)) ρ ⟨nx, rt, bk, ct⟩ := fun G H σ s D q1 q2 q3 q4 =>
  h F G0 G H σ s _ fun vs ds ρ1 G1 H1 s1 g1 r1 p => ⟨G1, ds, _, _, s1.gh, by rw [List.append_nil]; exact r1, p, fun v d G' H' gr r q => q1 _ _ G' H' ((s1.grow gr).setV r) (g1.trans gr.g) q, hE.sta s1 fun _ _ z => z⟩
end
end Dv

namespace Dv
open PySem L2 PyProof.Rows PySem.Spec
/-! ### an error that was caught is kept behind the suite -/
/-- at a: an exception of the class cls whose dict is d -/
def exH (cls : Value) (d : Option Addr) (a : Addr) : HO := .ext fun h => ∃ (oe : Obj) (vs : Array Value), h.get? a = some oe ∧ Zc cls d oe ∧ oe.data = .fields vs
theorem exH_ok {P : Program} {w : World} {H : Hp} {h : Heap} {a : Addr} {cls : Value} {d : Option Addr} {oe : Obj} {vs : Array Value} (e : h.get? a = some oe) (z : Zc cls d oe) (dt : oe.data = .fields vs) : ObjOk P w H h a (exH cls d a) :=
  ⟨⟨oe, vs, e, z, dt⟩, ⟨oe, e⟩, fun h1 h2 ⟨o, v, e1, z1, d1⟩ k => ⟨o, v, k o e1, z1, d1⟩⟩
theorem exH_at {P : Program} {w : World} {H : Hp} {h : Heap} {a : Addr} {cls : Value} {d : Option Addr} (k : HOk P w H h) (e : H a = some (exH cls d a)) : ∃ (oe : Obj) (vs : Array Value), h.get? a = some oe ∧ Zc cls d oe ∧ oe.data = .fields vs := by
  have q : ObjOk P w H h a (exH cls d a) := k a _ e
  exact q.1
section
variable {X : Cx} {pins : List (Addr × Obj)} {σ : L2.St} {H : Hp} {s : Shared}
theorem adopt {a : Addr} {oe : Obj} {vs : Array Value} {cls : Value} {d : Option Addr} (I : L2.Inv X pins σ H s) (he : s.heap.get? a = some oe) (hz : Zc cls d oe) (hd : oe.data = .fields vs) (na : H a = none) (n0 : X.s_0.heap.get? a = none)
    (nL : a ≠ X.env.locals) (np : ∀ p ∈ X.pn ++ pins, p.1 ≠ a) : L2.Inv X pins σ (upd H a (exH cls d a)) s where
  ok := I.ok
  os := I.os
  bare := I.bare
  base := ⟨I.base.keep, I.base.slot, fun b o q n x => by rw [upd_ne fun z => by rw [z, n0] at q; cases q]; exact I.base.free b o q n x, I.base.there, fun b xs q => by
      have q2 := I.base.tups b xs q
      rw [upd_ne fun z => by rw [z, na] at q2; cases q2]
      exact q2, fun b o u q => by
      have q2 := I.base.frzs b o u q
      rw [upd_ne fun z => by rw [z, na] at q2; cases q2]
      exact q2, fun b ps q => by
      obtain ⟨more, q2⟩ := I.base.tbls b ps q
      refine ⟨more, ?_⟩
      rw [upd_ne fun z => by rw [z, na] at q2; cases q2]
      exact q2⟩
  loc := I.loc
  cell := I.cell
  free := by rw [upd_ne (Ne.symm nL)]; exact I.free
  freeC := fun x c e => by
    rw [upd_ne]
    · exact I.freeC x c e
    · intro z
      obtain ⟨v, hv⟩ := I.cell x c e
      obtain ⟨o, e1, e2⟩ := hv
      rw [z, he] at e1
      cases e1
      rw [hd] at e2
      cases e2
  pin := fun p hp => by
    obtain ⟨e1, e2, e3⟩ := I.pin p hp
    exact ⟨e1, by rw [upd_ne (np p hp)]; exact e2, e3⟩
  hok := L2.HOk.laidN I.hok (fun _ _ e => e) na (exH_ok he hz hd)
  len := I.len
end
/-- what the clause wishes: behind the suite the error is a thing of ours -/
def wKeep (K : PySem.W.Frag) (c : Value) (i : Nat) (ts : TS) (Wo : WX) (D : Ends) : WX := fun cls d σ H =>
  ∃ b, PySem.W.exmOne K cls c = some b ∧ (b = true → ∀ a, H a = none → ts { nx := fun σ' H' => H' a = none → D.nx (σ'.set i none) (upd H' a (exH cls d a)), rt := D.rt, bk := fun σ' H' => D.bk (σ'.set i none) H', ct := fun σ' H' => D.ct (σ'.set i none) H' } (σ.set i (some (.ref a))) H) ∧ (b = false → Wo cls d σ H)
section
variable {X : Cx} {x n : Str} {c : Value} {i : Nat} {body su : List Stmt} {b0 : Stmt} {np pos pos' : Pos} {tb : WX → TS} {ts : TS} {Wo : WX}
theorem ps_tryK (hst : X.stack = X.env :: X.outer) (hfr : X.env.frame = some X.env.locals) (hxx : X.ex = []) (hnd : X.N.Nodup) (hni : X.N[i]? = some n) (hnl : X.env.kindOf n = some .local) (hcl : Names X x c) (tk : Takes X Wo)
    (hbd : ∀ (W : WX) (pn : List (Addr × Obj)) (xe : Value → Shared → Prop), Takes (X.tr pn xe) W → PassesOwn (model X.prog X.w) X.A X.env xe → PSs (X.tr pn xe) body (tb W))
    (hsu : ∀ (a : Addr) (oe : Obj) (pn : List (Addr × Obj)), PSs (X.suite a ((a, oe) :: pn)) (b0 :: su) ts) :
    PS X (.Try body [.ExceptHandler (some (.Name x np)) (some n) (b0 :: su) pos'] [] [] pos) (fun D σ H => tb (wKeep X.K c i ts Wo D) D σ H) := by
  refine ⟨fun pins s σ H D I hw => ?_⟩
  have okX := I.ok
  have hframes : X.A.frames = some (X.env :: X.outer) := by rw [okX.frames, hst]
  refine wpAny_Try_except (wpAny_mono ((hbd (wKeep X.K c i ts Wo D) (X.pn ++ pins) _ (fun u s' xx => ?_) PassesOwn.looking).run [] s σ H D (I.toTry _) hw) (fun fl s1 hsp => ?_) (fun e s1 he => he))
  · obtain ⟨a, B, sI, pins', σ', H', cls, d, rfl, J', nb, up, sky, na, os, ag, b, hb1, hyes, hno⟩ := xx
    have J : L2.Inv X pins σ' H' sI := J'.ofTry okX
    have sky' : Sky B (X.env :: X.outer) a (Zc cls d) X.env.locals s'.heap := by rw [← hst]; exact sky
    refine Sky.land Zc.steady hframes hfr sky' fun h3 fl3 up3 => ?_
    have J3 : L2.Inv X pins σ' H' { s' with heap := h3 } := J.landed nb fl3.1 (up.trans up3) os ag
    obtain ⟨oe3, vs3, he3, hz3, hd3⟩ := fl3.there
    have outF : a ∉ frs (X.env :: X.outer) := fun hm => by
      obtain ⟨_, o', e', hnf⟩ := fl3.2.2.1.mem hm
      rw [he3] at e'
      cases e'
      exact hnf _ hd3
    have aL : a ≠ X.env.locals := fun z => outF (List.mem_filterMap.mpr ⟨X.env, List.mem_cons_self, by rw [hfr, z]⟩)
    have aF : a ∉ X.fs := fun hm => by
      obtain ⟨e, he, q⟩ := List.mem_filterMap.mp hm
      exact outF (List.mem_filterMap.mpr ⟨e, List.mem_cons_of_mem _ he, q⟩)
    have aI : sI.heap.get? a = none := by
      cases q : sI.heap.get? a with
      | none => rfl
      | some o =>
        have z := nb a o q (by rw [hst]; exact outF)
        rw [fl3.2.1] at z
        cases z
    have a0 : X.s_0.heap.get? a = none := by
      cases q : X.s_0.heap.get? a with
      | none => rfl
      | some o =>
        obtain ⟨o', z⟩ := J.base.there a o q (by rw [hxx]; simp)
        rw [aI] at z
        cases z
    have aP : ∀ p ∈ X.pn ++ pins, p.1 ≠ a := fun p hp z => by
      obtain ⟨e1, _⟩ := J.pin p hp
      rw [z, aI] at e1
      cases e1
    have S3 := J3.suite he3 hd3 na aL aF
    refine wpAny_handleBy_cons (codeAny_handlers_test ?_) (by intro q; cases q)
    have typ : PySem.W.Looks (model X.prog X.w) h3 (typeOf (.ref a)) cls := fun A Q E s k q => wpAny_typeOf_ref (k _ _ he3) (by rw [hz3.1]; exact q)
    have meets := PySem.W.exm_one (M := model X.prog X.w) (J3.kIn) typ hb1
    have named : ∀ {Q : Value → Shared → Prop} {E : Value → Shared → Prop}, Q c { s' with heap := h3 } → wpAny (model X.prog X.w) (X.A.mark (some (.ref a))) (eval (.Name x np) X.env) Q E { s' with heap := h3 } := fun {Q E} q => by
      obtain ⟨hg, hdb, hm | ⟨hm, hv, hnn⟩⟩ := hcl
      · exact ld_glob (X := X.suite a ((a, oe3) :: (X.pn ++ pins))) S3 hg hm q hdb
      · exact ld_blt (X := X.suite a ((a, oe3) :: (X.pn ++ pins))) S3 hg hm hv q hnn hdb
    refine named (meets.here ?_)
    cases b with
    | true =>
      refine codeAny_handlers_suite_as (HandSPX.lands_againZ fl3 fun h4 fl4 up4 => ?_)
      have J4 : L2.Inv X pins σ' H' { s' with heap := h4 } := J.landed nb fl4.1 ((up.trans up3).trans up4) os ag
      obtain ⟨oe4, vs4, he4, hz4, hd4⟩ := fl4.there
      have S4 := J4.suite he4 hd4 na aL aF
      refine store_ok (X := X.suite a ((a, oe4) :: (X.pn ++ pins))) (v := .ref a) S4 hnd hni (.inl hnl) rfl (fun s5 S5 => ?_) (.inr hnl)
      refine wpAny_mono ((hsu a oe4 (X.pn ++ pins)).run [] s5 _ H' _ S5 (hyes rfl a na)) (fun fl s6 hsp => ?_) (fun _ _ z => False.elim z)
      have leave : ∀ {σ6 : L2.St} {H6 : Hp} {Q : Shared → Prop}, L2.Inv X pins σ6 H6 s6 → (∀ s7, L2.Inv X pins (σ6.set i none) H6 s7 → Q s7) →
          wpAny (model X.prog X.w) X.A (do bindName X.env n .none; unbindBehindTheSuite X.env n pos') (fun _ s7 => Q s7) X.xe s6 := fun {σ6 H6 Q} S6 hq => gone_ok S6 hnd hni hnl hq
      cases fl with
      | next =>
        obtain ⟨σ6, H6, S6, q6⟩ := hsp
        have pinA := S6.pin (a, oe4) (List.mem_append_left _ List.mem_cons_self)
        exact leave (adopt (S6.unsuite okX) pinA.1 hz4 hd4 pinA.2.1 a0 aL aP) fun s7 J7 => ⟨_, _, J7, q6 pinA.2.1⟩
      | brk =>
        obtain ⟨σ6, H6, S6, q6⟩ := hsp
        exact leave (S6.unsuite okX) fun s7 J7 => ⟨_, _, J7, q6⟩
      | cont =>
        obtain ⟨σ6, H6, S6, q6⟩ := hsp
        exact leave (S6.unsuite okX) fun s7 J7 => ⟨_, _, J7, q6⟩
      | ret u =>
        obtain ⟨v6, σ6, H6, S6, r6, q6⟩ := hsp
        exact leave (S6.unsuite okX) fun s7 J7 => ⟨_, _, _, J7, r6, q6⟩
    | false =>
      refine wpAny_handleBy_nil ?_
      obtain ⟨k1, k2, k3, oe, vs, T, oT, tls, he, hz, hd, hv1, hr⟩ := id fl3
      unfold PySem.passOn
      refine wpAny_bind (wpAny_field he hd hv1 ?_)
      rw [if_neg (show ¬ ((Value.ref T == Value.none) = true) from by simp)]
      have fin : wpAny (model X.prog X.w) X.A (setFlight (.ref a) X.env.frame) (fun _ s4 => wpAny (model X.prog X.w) X.A (throw (.ref a) : Sem Flow) (SP X pins D) X.xe s4) X.xe { s' with heap := h3 } := by
        rw [hfr]
        exact HandSPX.setFlight_upZ fl3 fun h4 hh4 up4 => wpAny_throw (tk _ _ ⟨a, B, sI, pins, σ', H', cls, d, rfl, J, nb, (up.trans up3).trans up4, .inr (.inr (by rw [hst]; exact hh4)), na, os, ag, hno rfl⟩)
      first
        | exact wpAny_bind (wpAny_pure (wpAny_bind fin))
        | exact wpAny_bind fin
  · cases fl with
    | next =>
      obtain ⟨σ', H', J', q⟩ := hsp
      exact wpAny_execs_nil ⟨σ', H', J'.ofTry okX, q⟩
    | brk =>
      obtain ⟨σ', H', J', q⟩ := hsp
      exact ⟨σ', H', J'.ofTry okX, q⟩
    | cont =>
      obtain ⟨σ', H', J', q⟩ := hsp
      exact ⟨σ', H', J'.ofTry okX, q⟩
    | ret u =>
      obtain ⟨v, σ', H', J', r, q⟩ := hsp
      exact ⟨v, σ', H', J'.ofTry okX, r, q⟩
end
end Dv

namespace Dv
open PySem L2 PyProof.Rows PySem.Spec
/-- an error of the class at C with a value of data d; its dict lies at dx -/
def excR (a C dx : Addr) (d : PyData) : Res where
  fp := [a, dx]
  ok := fun G H v => v = .ref a ∧ H a = some (exH (.ref C) (some dx) a) ∧ ∃ y, H dx = some (.xd [("value", y)]) ∧ Rp G y d
  mono := by
    rintro G H G' H' v ⟨e, h1, y, h2, r⟩ g k
    exact ⟨e, (k a (by simp)).trans h1, y, (k dx (by simp)).trans h2, r.mono g⟩
/-- what the written part says of an own error's class, for isinstance and for a look at its value -/
structure XqC (K : PySem.W.Frag) (C : Addr) : Prop where
  cl : (PySem.W.clsIn K C).isSome = true
  ga : PySem.W.findIn K (.ref C) "__getattribute__" = some (some (.builtin "BaseException.__getattribute__"))
  gt : PySem.W.findIn K (.ref C) "__getattr__" = some none
  sb : PySem.W.subIn K (.ref C) (.type "BaseException") = some true
  hd : PySem.W.hasDictIn K C = true
  ca : PySem.W.findIn K (.ref C) "__class__" = some (some (.builtin "object.__class__"))
  cg : PySem.W.specialIn K (.builtin "object.__class__") "__get__" = some (some (.builtin "getset_descriptor.__get__"))
  ct : PySem.W.takesIn K (.builtin "object.__class__") = some true
  mo : PySem.W.mroIn K C (.type "object") = some true
  nv : PySem.W.findIn K (.ref C) "value" = some none
theorem xq_inst {P : Program} {w : World} {H : Hp} {h : Heap} {a C dx : Addr} {fs : List (Str × V)} (k : HOk P w H h) (e : H a = some (exH (.ref C) (some dx) a)) (ed : H dx = some (.xd fs)) : ∃ (oe od : Obj), PySem.W.InstAt h a oe C (some od) ∧ h.get? dx = some od ∧ ∃ mA, h.Ns1 dx mA ∧ (∀ f, RelO (fs.lookup f) (mA f)) ∧ ∀ f, PySem.W.lookIn f od = some (mA f) := by
  obtain ⟨oe, vs, e1, hz, hd⟩ := exH_at k e
  have hx : ObjOk P w H h dx (.xd fs) := k dx _ ed
  obtain ⟨mA, hns, hr⟩ := hx
  obtain ⟨od, ho, hl⟩ := lookIn_ns hns
  exact ⟨oe, od, ⟨e1, hz.1, by unfold PySem.W.notCls; rw [hd] <;> rfl, by rw [hz.2]; exact ho⟩, ho, mA, hns, hr, hl⟩
/-- isinstance(e, C) of an own error that is ours -/
def rIsX (K : PySem.W.Frag) : List V → Hp → VK → Prop := fun xs H Q => ∃ (a D dx : Addr) (fs : List (Str × V)) (c : V) (cv : Value) (b : Bool), xs = [.ref a, c] ∧ (∀ u, RelV c u → u = cv) ∧ H a = some (exH (.ref D) (some dx) a) ∧ H dx = some (.xd fs) ∧ XqC K D ∧ PySem.W.kitOne K (.ref D) cv = some b ∧ Q (.bl b) H
section
variable {X : Cx} {K : PySem.W.Frag} {e : Expr} {es : List Expr} {te : TE} {t : TA} {pos pos' p : Pos} {x f : Str} {W : WX}
theorem k_isx (h : X.K = K) : CallR X (.builtin "isinstance") (rIsX K) := by
  subst h
  intro pins s σ H xs us Q I r h
  obtain ⟨a, D, dx, fs, c, cv, b, rfl, hcv, ea, ed, C, hk, q⟩ := h
  cases r with
  | @cons _ u0 _ ur ra rr =>
    obtain rfl : u0 = Value.ref a := ra
    obtain ⟨u, rfl, rt⟩ := vals1 rr
    obtain rfl := hcv u rt
    obtain ⟨oe, od, J, _⟩ := xq_inst I.hok ea ed
    exact PySem.W.kia_one (PySem.W.kitx_exc C.cl C.ga C.gt C.sb C.ca C.cg C.ct C.mo) I.kIn J hk (fun z => nomatch z) fun tk => ⟨.bl b, H, I.kept (t' := tk) fun _ _ z => z, rfl, q⟩
/-- e.value of an own error that is ours -/
def tXv (K : PySem.W.Frag) (te : TE) : TE := fun σ H Q => te σ H fun x H1 => ∃ (a D dx : Addr) (fs : List (Str × V)) (v : V), x = .ref a ∧ H1 a = some (exH (.ref D) (some dx) a) ∧ H1 dx = some (.xd fs) ∧ XqC K D ∧ fs.lookup ("value" : Str) = some v ∧ Q v H1
theorem k_xv (hK : X.K = K) (he : PE X e te) (hb : attributeBase e "value" X.env (eval e X.env) = eval e X.env := by rfl) : PE X (.Attribute e "value" pos) (tXv K te) := by
  subst hK
  refine ⟨fun pins s σ H Q I h => ?_⟩
  refine attr_of hb (thn (he.run pins s σ H _ I h) fun u s1 hh => ?_)
  obtain ⟨y, H1, I1, ry, a, D, dx, fs, v, ey, ea, ed, C, l, q⟩ := hh
  subst ey
  obtain rfl : u = Value.ref a := ry
  obtain ⟨oe, od, J, ho, mA, hns, hr, hl⟩ := xq_inst I1.hok ea ed
  obtain ⟨w, hw, rw'⟩ := RelO.some_of (v := v) (o := mA "value") (by rw [← l]; exact hr "value")
  exact HandSPX.exc_get I1.kIn J C.ga C.gt C.sb (PySem.W.findObj_own C.hd C.nv rfl (by rw [hl "value", hw])) (handed_of rw') ⟨v, H1, I1.tok _, rw', q⟩
/-- f(..) as a statement, what it lets out being taken -/
def tTry (sp : Sp) (t : TA) (W : WX) : TS := fun D σ H => t σ H fun vs H1 => sp vs H1 (fun _ H2 => D.nx σ H2) (fun cls d H2 => W cls d σ H2)
theorem ps_tryC {k : Nat} {g : Addr} {fd : FuncData} {ps : List Str} {sp : Sp} (F : FnG X.prog X.w X.K X.mg X.base (L2.CX X.prog X.w) k g fd ps sp) (hr : Room k X.A) (hgd : X.A.guards = some []) (hg : Gl X x) (hm : X.mg x = some (.ref g)) (hk : PySem.W.keepIn X.K (.ref g) = true) (hb : Binds X.K fd ps []) (tk : Takes X W)
    (ha : PA X (e :: es) t) (hdb : (x == ("__debug__" : Str)) = false := by decide) (he : starEach (e :: es) X.env = (false, eval e X.env) :: starEach es X.env := by rfl) (hpl : (backTo pos (starEach es X.env)).any (·.1) = false := by rfl) :
    PS X (.Expr (.Call (.Name x p) (e :: es) [] pos) pos') (tTry sp t W) := by
  refine ⟨fun pins s σ H D I h => ?_⟩
  refine wpAny_Expr_any ?_ I.quiet rfl
  refine wpAny_Call_Name_kw (ld_glob I hg hm ?_ hdb)
  refine PySem.W.callWith_K (h₀ := X.base) I.ok.mod.kin hk (thn (ha.run pos pins s σ H _ I h) ?_) he hpl
  rintro us s1 ⟨vs, H1, I1, r, q⟩
  have hl : us.length = ps.length := by rw [← r.length]; exact F.len _ _ _ _ q
  have b := hb s1 us I1.kIn (by rw [List.append_nil]; exact hl)
  rw [List.append_nil] at b
  refine ⟨I1.kIn, wpAny_call (codeAny_mono (F.run X.A X.stack s1 H1 ⟨us, []⟩ us vs _ _ hr hgd I1.env0 b r q) ?_)⟩
  intro r' s' hq
  cases r' with
  | error er => exact tk er s' (XE.of_call I1 (fun _ _ _ z => z) hq)
  | ok fl =>
    cases fl with
    | ret u =>
      obtain ⟨v, H2, J, _, q2⟩ := I1.after hq
      exact ⟨σ, H2, J, q2⟩
    | next => exact hq.elim
    | brk => exact hq.elim
    | cont => exact hq.elim
theorem takesNo : Takes X (fun _ _ _ _ => False) ↔ True := ⟨fun _ => trivial, fun _ u s' ⟨_, _, _, _, _, _, _, _, _, _, _, _, _, _, _, _, z⟩ => z.elim⟩
end
section
variable {F G0 : Hp} {cA : String → Addr} {tas : TA} {ρ : Rho} {nx bk ct : Rho → Prop} {rt : PyData → Rho → Prop} {Φ : PyData → Rho → Prop} {pre : List PyData → (PyData → Prop) → (String → PyData → Prop) → Prop} {K : PySem.W.Frag} {c : Value} {i j : Nat} {Wo : WX} {a C dx : Addr} {d : PyData}
/-- try: f(..) / except x as n: m = n -/
theorem q_tryC (h : Wa tas ρ fun ds ρ1 => i < ρ1.length ∧ ∃ ψ, pre ds (fun _ => nx ρ1) ψ ∧ ∀ n d, ψ n d → PySem.W.exmOne K (.ref (cA n)) c = some true ∧ ∀ a dx, nx (((ρ1.set i .any).set j (.res (excR a (cA n) dx d))).set i .any)) :
    Ws F G0 (fun D σ H => tTry (SpX cA pre) tas (wKeep K c i (tAsg (tVar i) (gName j)) Wo D) D σ H) ρ ⟨nx, rt, bk, ct⟩ := fun G H σ s D q1 q2 q3 q4 =>
  h F G0 G H σ s _ fun vs ds ρ1 G1 H1 s1 g1 r1 ⟨hi, ψ, p, pk⟩ => by
    refine ⟨G1, ds, _, ψ, s1.gh, r1, p, fun v d G' H' gr r q => q1 σ ρ1 G' H' (s1.grow gr) (g1.trans gr.g) q, ?_⟩
    intro n dx y d G' H' b1 b2 b3 b4 b5 b6 b7 ry hψ
    obtain ⟨e1, e2⟩ := pk n d hψ
    refine ⟨true, e1, fun _ a ha => ?_, fun z => nomatch z⟩
    have hi' : i < σ.length := by rw [s1.len]; exact hi
    refine ⟨.ref a, by rw [List.getElem?_set_self hi'], fun ha' => ?_⟩
    have gr : Grow G1 H1 G' H' := ⟨b3, b1, b2, b4⟩
    have s2 : Sta F G0 G' H' σ ρ1 := s1.grow gr
    have s3 : Sta F G0 G' (upd H' a (exH (.ref (cA n)) (some dx) a)) σ ρ1 := s2.laid ha'
    have s4 := s3.setN (i := i) (x := some (.ref a))
    have nda : dx ≠ a := fun z => by rw [z, ha'] at b7; cases b7
    have fdx : F dx = none := none_of s1.fh b5
    have s5 := s4.setR (i := j) (v := .ref a) (r := excR a (cA n) dx d) ⟨rfl, upd_same, y, by rw [upd_ne nda]; exact b7, ry⟩ (fun b hb => ?_) (fun k z hk ez b hb hb2 => ?_)
    · exact q1 _ _ G' _ (s5.setN (i := i) (x := none)) (g1.trans b3) (e2 a dx)
    · rcases List.mem_cons.mp hb with rfl | hb
      · exact ⟨none_of s2.fh ha', none_of s2.gh ha', by rw [upd_same]; simp⟩
      · obtain rfl := List.mem_singleton.mp hb
        exact ⟨fdx, b6, by rw [upd_ne nda, b7]; simp⟩
    · have old : ∀ b, b ∈ z.fp → ρ1[k]? = some z ∨ z = .any := fun b hb => by
        by_cases hki : i = k
        · subst hki
          rw [List.getElem?_set_self (by rw [← s1.len]; exact hi')] at ez
          exact .inr (Option.some.inj ez).symm
        · rw [List.getElem?_set_ne hki] at ez
          exact .inl ez
      rcases old b hb with o | o
      · rcases List.mem_cons.mp hb2 with rfl | hb2
        · exact s2.nofp ha' k z o hb
        · obtain rfl := List.mem_singleton.mp hb2
          exact s1.nofp b5 k z o hb
      · subst o
        cases hb
theorem we_isx {cv : Addr} {b : Bool} (h0 : ρ[j]? = some (.res (excR a C dx d))) (T : XqC K C) (hk : PySem.W.kitOne K (.ref C) (.ref cv) = some b) (q : Φ (.bool b) ρ) : We (tCB (rIsX K) (tCons (tVar j) (tCons (tC (.ref cv)) tNil))) ρ Φ := fun F G0 G H σ s Q k => by
  obtain ⟨v, e, ⟨rfl, ea, y, ed, ry⟩, _⟩ := s.getR h0
  exact ⟨_, e, a, C, dx, _, .ref cv, .ref cv, b, rfl, fun u r => r, ea, ed, T, hk, k _ _ ρ G H s (Same.refl G) (.bl b) q⟩
theorem we_xv (h0 : ρ[j]? = some (.res (excR a C dx d))) (T : XqC K C) (q : Φ d ρ) : We (tXv K (tVar j)) ρ Φ := fun F G0 G H σ s Q k => by
  obtain ⟨v, e, ⟨rfl, ea, y, ed, ry⟩, _⟩ := s.getR h0
  exact ⟨_, e, a, C, dx, _, y, rfl, ea, ed, T, rfl, k _ _ ρ G H s (Same.refl G) ry q⟩
theorem we_isnX (h0 : ρ[j]? = some (.res (excR a C dx d))) (q : Φ (.bool false) ρ) : We (tOp rIsN (tVar j) (tC .non)) ρ Φ := fun F G0 G H σ s Q k => by
  obtain ⟨v, e, ⟨rfl, ea, y, ed, ry⟩, _⟩ := s.getR h0
  exact ⟨_, e, rfl, k _ _ ρ G H s (Same.refl G) (.bl false) q⟩
end
end Dv

namespace Dv
open PySem L2 PyProof.Rows PySem.Spec
/-! ### calls by names alone -/
def permL {α : Type} (n : Nat) (π : List Nat) (us ws : List α) : List α := match us with
  | [] => if ws.length = n then π.filterMap fun i => ws[i]? else []
  | _ :: _ => []
theorem permL_len {α : Type} {n m : Nat} {π : List Nat} {us ws : List α} (h : (permL n π us ws).length = m) (hm : 0 < m) : us = [] ∧ ws.length = n := by
  unfold permL at h
  cases us with
  | nil =>
    simp only at h
    by_cases e : ws.length = n
    · exact ⟨rfl, e⟩
    · rw [if_neg e] at h
      simp at h
      omega
  | cons a l =>
    simp at h
    omega
theorem filterMap_rel {α β : Type} {R : α → β → Prop} {vs : List α} {us : List β} (h : ∀ i : Nat, (vs[i]? = none ∧ us[i]? = none) ∨ ∃ a b, vs[i]? = some a ∧ us[i]? = some b ∧ R a b) : ∀ π : List Nat, Paired R (π.filterMap fun i => vs[i]?) (π.filterMap fun i => us[i]?)
  | [] => .nil
  | i :: π => by
    rw [List.filterMap_cons, List.filterMap_cons]
    rcases h i with ⟨e1, e2⟩ | ⟨a, b, e1, e2, r⟩
    · rw [e1, e2]
      exact filterMap_rel h π
    · rw [e1, e2]
      exact .cons r (filterMap_rel h π)
theorem vals_at : ∀ {vs : List V} {us : List Value}, Vals vs us → ∀ i : Nat, (vs[i]? = none ∧ us[i]? = none) ∨ ∃ a b, vs[i]? = some a ∧ us[i]? = some b ∧ L2.RelV a b
  | [], [], _, i => .inl ⟨rfl, rfl⟩
  | v :: vs, u :: us, h, 0 => by
    cases h with
    | cons r _ => exact .inr ⟨v, u, rfl, rfl, r⟩
  | v :: vs, u :: us, h, i + 1 => by
    cases h with
    | cons _ r => exact vals_at r i
theorem perm_vals {n : Nat} {π : List Nat} {vs zs : List V} {us ws : List Value} (r1 : Vals vs us) (r2 : Vals zs ws) : Vals (permL n π vs zs) (permL n π us ws) := by
  cases r1 with
  | nil =>
    unfold permL
    have hl := r2.length
    by_cases e : zs.length = n
    · simp only
      rw [if_pos e, if_pos (by omega)]
      exact filterMap_rel (vals_at r2) π
    · simp only
      rw [if_neg e, if_neg (by omega)]
      exact .nil
  | cons _ _ => exact .nil
theorem rpa_at {H : Hp} {vs : List V} {ds : List PyData} (h : RpA H vs ds) (i : Nat) : (vs[i]? = none ∧ ds[i]? = none) ∨ ∃ a b, vs[i]? = some a ∧ ds[i]? = some b ∧ Rp H a b := by
  cases q : ds[i]? with
  | none =>
    refine .inl ⟨?_, rfl⟩
    have hl := h.len
    rw [List.getElem?_eq_none_iff] at q ⊢
    omega
  | some d =>
    obtain ⟨v, e, r⟩ := h.get q
    exact .inr ⟨v, d, e, rfl, r⟩
theorem rpa_pair {H : Hp} : ∀ {vs : List V} {ds : List PyData}, Paired (Rp H) vs ds → RpA H vs ds
  | _, _, .nil => .nil
  | _, _, .cons r rr => .cons r (rpa_pair rr)
theorem perm_rpa {H : Hp} {n : Nat} {π : List Nat} {vs : List V} {ds : List PyData} (r : RpA H vs ds) : RpA H (permL n π [] vs) (permL n π [] ds) := by
  unfold permL
  have hl := r.len
  by_cases e : vs.length = n
  · simp only
    rw [if_pos e, if_pos (by omega)]
    exact rpa_pair (filterMap_rel (rpa_at r) π)
  · simp only
    rw [if_neg e, if_neg (by omega)]
    exact .nil
section
variable {cA : String → Addr} {E : XK} {tk : TA} {ρ : Rho} {Φ : PyData → Rho → Prop} {n : Nat} {π : List Nat}
theorem we_callKX {pre : List PyData → (PyData → Prop) → (String → PyData → Prop) → Prop} (h : Wa tk ρ fun ds ρ1 => pre (permL n π [] ds) (fun d => Φ d ρ1) fun _ _ => False) : We (tCallK (SpX cA pre) (permL n π) E tNil tk) ρ Φ := fun F G0 G H σ s Q k =>
  h F G0 G H σ s _ fun vs ds ρ1 G1 H1 s1 g1 r1 p => ⟨G1, _, _, _, s1.gh, perm_rpa r1, p, fun v d G' H' gr r q => k v d ρ1 G' H' (s1.grow gr) (g1.trans gr.g) r q, .never⟩
theorem we_callK {pre : List PyData → (PyData → Prop) → Prop} (h : Wa tk ρ fun ds ρ1 => pre (permL n π [] ds) fun d => Φ d ρ1) : We (tCallK (SpD pre) (permL n π) E tNil tk) ρ Φ := fun F G0 G H σ s Q k =>
  h F G0 G H σ s _ fun vs ds ρ1 G1 H1 s1 g1 r1 p => ⟨G1, _, _, s1.gh, perm_rpa r1, p, fun v d G' H' gr r q => k v d ρ1 G' H' (s1.grow gr) (g1.trans gr.g) r q⟩
end
end Dv

namespace Dv
open PySem L2 PyProof.Rows PySem.Spec
section
variable {φ : PyData → Prop} {i j : Int}
theorem op2_mulL (h1 : -18446744073709551616 < i) (h2 : i < 18446744073709551616) (q : φ (.int (i * j))) : Op2 rMulU (.int i) (.int j) φ := op2_mulI (Or.inl ⟨h1, h2⟩) q
theorem op2_mulR (h1 : -18446744073709551616 < j) (h2 : j < 18446744073709551616) (q : φ (.int (i * j))) : Op2 rMulU (.int i) (.int j) φ := op2_mulI (Or.inr ⟨h1, h2⟩) q
end
theorem q_setJ {F G0 : Hp} {te ti : TE} {i : Nat} {ρ : Rho} {nx bk ct : Rho → Prop} {rt : PyData → Rho → Prop} (h : We te ρ fun d ρ1 => ∃ p ds1, ρ1[i]? = some (.res (lst p ds1)) ∧ We ti ρ1 fun k ρ2 => ∃ ds n j, ρ2[i]? = some (.res (lst p ds)) ∧ k = .int n ∧ ixN ds.length n = some j ∧ nx (ρ2.set i (.res (lst p (ds.set j d))))) :
    Ws F G0 (tAsg te (gSub (tVar i) ti rSetL)) ρ ⟨nx, rt, bk, ct⟩ := fun G H σ s D q1 q2 q3 q4 =>
  h F G0 G H σ s _ fun u d ρ1 G1 H1 s1 g1 r1 ⟨p, ds1, k1, hi⟩ => by
    obtain ⟨v1, e1, ⟨rfl, xs1, _, hp1, _, _⟩, _⟩ := s1.getR k1
    refine ⟨_, e1, hi F G0 G1 H1 σ s1 _ fun w k ρ2 G2 H2 s2 g2 r2 ⟨ds, n, j, k2, e2, ej, q⟩ => ?_⟩
    subst e2
    cases r2
    obtain ⟨v2, e2, ⟨_, xs, _, hp, ra, rfl⟩, _⟩ := s2.getR k2
    exact ⟨p, xs, n, j, rfl, rfl, hp, by rw [ra.len]; exact ej, q1 _ _ G2 _ (s2.upd k2 (P' := fun x => x = List.set _ j d) (ra.set (r1.mono g2) j) rfl) (g1.trans g2) q⟩
theorem FnG.no {P : Program} {w : World} {K : PySem.W.Frag} {mg : Str → Option Value} {base : Heap} {cx : CXT} {k : Nat} {f : Addr} {fd : FuncData} {ps : List Str} {pre : List PyData → (PyData → Prop) → Prop} (h : ∀ ds φ, pre ds φ → False) : FnG P w K mg base cx k f fd ps (SpD pre) where
  len := fun vs H Q E ⟨G, ds, φ, s, r, p, k⟩ => (h ds φ p).elim
  run := fun A outer s H args us vs Q E hr hg e0 hb rv ⟨G, ds, φ, _, r, p, k⟩ => (h ds φ p).elim
theorem dep_mem {d : PyData} : ∀ {ds : List PyData}, d ∈ ds → d.depth ≤ PyData.depthAll ds
  | e :: ds, h => by
    simp only [PyData.depthAll]
    rcases List.mem_cons.mp h with rfl | h
    · exact Nat.le_max_left _ _
    · exact Nat.le_trans (dep_mem h) (Nat.le_max_right _ _)
theorem lay_mem {d : PyData} : ∀ {ds : List PyData}, PyData.canLayAll0 ds = true → d ∈ ds → d.canLay0 = true
  | e :: ds, k, h => by
    simp only [PyData.canLayAll0, Bool.and_eq_true] at k
    rcases List.mem_cons.mp h with rfl | h
    · exact k.1
    · exact lay_mem k.2 h
theorem nod_mem {d : PyData} : ∀ {ds : List PyData}, PyData.hasDictAll ds = false → d ∈ ds → d.hasDict = false
  | e :: ds, k, h => by
    simp only [PyData.hasDictAll, Bool.or_eq_false_iff] at k
    rcases List.mem_cons.mp h with rfl | h
    · exact k.1
    · exact nod_mem k.2 h
theorem OkdN.of_list {n : Nat} {xs : List PyData} (h : OkdN n (.list xs)) : ∃ k, n = k + 1 ∧ ∀ x ∈ xs, OkdN k x := by
  have h3 : PyData.depthAll xs + 1 ≤ n := h.dp
  exact ⟨n - 1, by omega, fun x hx => ⟨nod_mem h.nd hx, lay_mem h.lay hx, by have := dep_mem hx; omega⟩⟩
theorem OkdN.of_tuple {n : Nat} {xs : List PyData} (h : OkdN n (.tuple xs)) : ∃ k, n = k + 1 ∧ ∀ x ∈ xs, OkdN k x := by
  have h3 : PyData.depthAll xs + 1 ≤ n := h.dp
  exact ⟨n - 1, by omega, fun x hx => ⟨nod_mem h.nd hx, lay_mem h.lay hx, by have := dep_mem hx; omega⟩⟩
theorem slotL {ρ : Rho} {i : Nat} {p : Addr} {ds : List PyData} {φ : Addr → List PyData → Prop} (h0 : ρ[i]? = some (.res (lst p ds))) (h : φ p ds) : ∃ p ds1, ρ[i]? = some (.res (lst p ds1)) ∧ φ p ds1 := ⟨p, ds, h0, h⟩
theorem pairL {α : Type} {a b : α} {φ : α → α → Prop} (h : φ a b) : ∃ x y, [a, b] = [x, y] ∧ φ x y := ⟨a, b, rfl, h⟩
theorem opf2_B0 {g : Int → Int → Bool} {i j : Int} {φ : PyData → Prop} (q : φ (.bool (g i j))) : OpF2 (rI0 fun i j => .bl (g i j)) (.int i) (.int j) φ := fun G H v u s r1 r2 Q k => by
  cases r1
  cases r2
  exact ⟨i, j, rfl, rfl, k _ _ (fun _ => .bl _) q⟩
theorem len_ok {n : Nat} {P : Prop} (h : n ≤ 100000) (q : P) : n ≤ 100000 ∧ P := ⟨h, q⟩
/-- the body of a def that looks into its purse -/
theorem fn_zL {P : Nat → List PyData → Prop} {pre : Nat → List PyData → (Nat → PyData → Prop) → Prop} {t : TS} {N : List Str} {n : Nat} (hn : n + 1 ≤ N.length) (hl : ∀ m ds φ, pre m ds φ → ds.length = n)
    (h : ∀ F G0 p m xs ds φ, pre m ds φ → P m xs → Ws F G0 t (slotsZ N.length (lst p xs) ds) { nx := fun ρ' => ∃ m' xs', ρ'[0]? = some (.res (lst p xs')) ∧ P m' xs' ∧ φ m' .none, rt := fun d ρ' => ∃ m' xs', ρ'[0]? = some (.res (lst p xs')) ∧ P m' xs' ∧ φ m' d })
    {vs : List V} {H : Hp} {Q : VK} {E : XK} (hs : SpZ P pre vs H Q E) : t { nx := fun _ H' => Q .non H', rt := Q } (L2.start N vs) H := by
  obtain ⟨G, p, ws, ds, m, φ, e, hok, hG, s, r, hp, k⟩ := hs
  subst e
  have hv : ws.length + 1 ≤ N.length := by rw [r.len, hl m ds φ hp]; exact hn
  obtain ⟨_, xs, es, hx, rx, hP⟩ := hok
  have st : Sta (delH H p) G G H (L2.start N (.ref p :: ws)) (slotsZ N.length (lst p es) ds) := by
    refine ⟨fun a o e => ?_, s, Same.refl G, fun a o e _ => e, ?_, fun i x e => ?_, fun i j x y hij e1 e2 a ha hb => ?_⟩
    · by_cases hap : a = p
      · rw [hap, delH_same] at e
        cases e
      · rw [delH_ne hap] at e
        exact e
    · unfold L2.start slotsZ slots0
      have := r.len
      simp
      omega
    · cases i with
      | zero =>
        simp only [slotsZ, List.getElem?_cons_zero, Option.some.injEq] at e
        subst e
        refine ⟨.ref p, rfl, ⟨rfl, xs, es, hx, rx, rfl⟩, fun a ha => ?_⟩
        have e' : a = p := by simpa [lst, lstP] using ha
        subst e'
        exact ⟨delH_same, hG, by rw [hx]; simp⟩
      | succ i =>
        simp only [slotsZ, List.getElem?_cons_succ] at e
        rcases slots0_get e with ⟨d, rfl, h⟩ | rfl
        · obtain ⟨v, e1, e2⟩ := r.get h
          exact ⟨v, by rw [start_get (show (V.ref p :: ws)[i + 1]? = some v by simpa using e1)]; rfl, e2⟩
        · trivial
    · cases j with
      | zero => omega
      | succ j =>
        simp only [slotsZ, List.getElem?_cons_succ] at e2
        rcases slots0_get e2 with ⟨d, rfl, h⟩ | rfl
        · cases hb
        · cases hb
  have fin : ∀ (v : V) (d : PyData) (σ' : L2.St) (ρ' : Rho) (G' H' : Hp), Sta (delH H p) G G' H' σ' ρ' → Same G G' → Rp G' v d → (∃ m' xs', ρ'[0]? = some (.res (lst p xs')) ∧ P m' xs' ∧ φ m' d) → Q v H' := fun v d σ' ρ' G' H' s' g r' ⟨m', xs', e, hP', q⟩ => by
    obtain ⟨v0, e0, ⟨hv0, ys, fs, hy, ry, efs⟩, hfp⟩ := s'.getR e
    subst efs
    have nG := (hfp p List.mem_cons_self).2.1
    refine k v d m' G' H' ⟨g, fun a o ha e => s'.fh a o (by rw [delH_ne ha]; exact e), s'.gh, fun a o e n => ?_⟩ ⟨rfl, ys, fs, hy, ry, hP'⟩ r' q
    refine s'.new a o e ?_
    rw [delH_ne (fun z => by rw [z, nG] at e; cases e)]
    exact n
  exact h _ G p m es ds φ hp hP G H _ st _ (fun σ' ρ' G' H' s' g q => fin .non .none σ' ρ' G' H' s' g .non q) (fun v d σ' ρ' G' H' s' g r' q => fin v d σ' ρ' G' H' s' g r' q) (fun _ _ _ _ _ _ q => q.elim) (fun _ _ _ _ _ _ q => q.elim)
/-- a new list with what is so of it alone -/
theorem q_setP {F G0 : Hp} {te : TE} {i : Nat} {ρ : Rho} {nx bk ct : Rho → Prop} {rt : PyData → Rho → Prop} (P : List PyData → Prop) (h : Wn te ρ fun ds ρ1 => P ds ∧ ∀ p, nx (ρ1.set i (.res (lstP p P)))) : Ws F G0 (tAsg te (gName i)) ρ ⟨nx, rt, bk, ct⟩ := fun G H σ s D q1 q2 q3 q4 =>
  h F G0 G H σ s _ fun p xs ds ρ1 G1 H1 s1 g1 hp r1 hF hG hn ⟨hP, q⟩ => q1 _ _ G1 H1 (s1.setR (v := .ref p) (r := lstP p P) ⟨rfl, xs, ds, hp, r1, hP⟩ (fun a ha => by
      have e : a = p := by simpa [lstP] using ha
      subst e
      exact ⟨hF, hG, by rw [hp]; simp⟩) (fun j x _ e a ha hb => by
      have e' : a = p := by simpa [lstP] using hb
      subst e'
      exact hn j x e ha)) g1 (q p)
end Dv

namespace Dv
open PySem L2 PyProof.Rows PySem.Spec
/-! ### a list of lists of ours -/
theorem RpA.of_get {H : Hp} : ∀ {vs : List V} {ds : List PyData}, vs.length = ds.length → (∀ (k : Nat) (v : V) (d : PyData), vs[k]? = some v → ds[k]? = some d → Rp H v d) → RpA H vs ds
  | [], [], _, _ => .nil
  | v :: vs, d :: ds, hl, h => .cons (h 0 v d rfl rfl) (RpA.of_get (by simpa using hl) fun k x y e1 e2 => h (k + 1) x y (by simpa using e1) (by simpa using e2))
  | [], _ :: _, hl, _ => by simp at hl
  | _ :: _, [], hl, _ => by simp at hl
def nest (p : Addr) (qs : List Addr) (dss : List (List PyData)) : Res where
  fp := p :: qs
  ok := fun G H v => v = .ref p ∧ H p = some (.lst (qs.map V.ref)) ∧ qs.length = dss.length ∧ qs.Nodup ∧ p ∉ qs ∧ ∀ (k : Nat) (q : Addr) (ds : List PyData), qs[k]? = some q → dss[k]? = some ds → ∃ xs, H q = some (.lst xs) ∧ RpA G xs ds
  mono := by
    rintro G H G' H' v ⟨e, h1, h2, h3, h4, h5⟩ g k
    refine ⟨e, (k p List.mem_cons_self).trans h1, h2, h3, h4, fun i q ds e1 e2 => ?_⟩
    obtain ⟨xs, a, b⟩ := h5 i q ds e1 e2
    exact ⟨xs, (k q (List.mem_cons_of_mem _ (List.mem_of_getElem? e1))).trans a, b.mono g⟩
def ptrR (q : Addr) : Res where
  fp := []
  ok := fun _ _ v => v = .ref q
  mono := fun h _ _ => h
section
variable {F G0 G H : Hp} {σ : L2.St} {ρ : Rho} {i : Nat} {p : Addr} {qs : List Addr} {dss : List (List PyData)}
/-- a look at it as data -/
theorem Sta.see (s : Sta F G0 G H σ ρ) (h : ρ[i]? = some (.res (nest p qs dss))) : ∃ G', Same G G' ∧ Same G' H ∧ (∀ a o, G' a = some o → G a = some o ∨ a ∈ p :: qs) ∧ σ[i]? = some (some (.ref p)) ∧ H p = some (.lst (qs.map V.ref)) ∧ qs.length = dss.length ∧ Rp G' (.ref p) (.list (dss.map .list)) ∧
    ∀ (k : Nat) (q : Addr) (ds : List PyData), qs[k]? = some q → dss[k]? = some ds → Rp G' (.ref q) (.list ds) ∧ ∃ xs, H q = some (.lst xs) ∧ RpA G xs ds := by
  obtain ⟨v, e, ⟨rfl, h1, h2, h3, h4, h5⟩, hfp⟩ := s.getR h
  have hfp' : ∀ a ∈ p :: qs, F a = none ∧ G a = none ∧ H a ≠ none := hfp
  have sG : Same G (fun a => if a ∈ p :: qs then H a else G a) := fun a o ea => by
    show (if a ∈ p :: qs then H a else G a) = some o
    split
    · rename_i hm
      rw [(hfp' a hm).2.1] at ea
      cases ea
    · exact ea
  have inner : ∀ (k : Nat) (q : Addr) (ds : List PyData), qs[k]? = some q → dss[k]? = some ds → Rp (fun a => if a ∈ p :: qs then H a else G a) (.ref q) (.list ds) ∧ ∃ xs, H q = some (.lst xs) ∧ RpA G xs ds := fun k q ds e1 e2 => by
    obtain ⟨xs, a, b⟩ := h5 k q ds e1 e2
    have hm : q ∈ p :: qs := List.mem_cons_of_mem _ (List.mem_of_getElem? e1)
    exact ⟨.lst (show (if q ∈ p :: qs then H q else G q) = _ by rw [if_pos hm]; exact a) (b.mono sG), xs, a, b⟩
  refine ⟨fun a => if a ∈ p :: qs then H a else G a, sG, fun a o ea => ?_, fun a o ea => ?_, e, h1, h2, .lst (show (if p ∈ p :: qs then H p else G p) = _ by rw [if_pos List.mem_cons_self]; exact h1) (RpA.of_get (by simpa using h2) fun k v d e1 e2 => ?_), inner⟩
  · have ea' : (if a ∈ p :: qs then H a else G a) = some o := ea
    split at ea'
    · exact ea'
    · exact s.gh a o ea'
  · have ea' : (if a ∈ p :: qs then H a else G a) = some o := ea
    split at ea'
    · rename_i hm
      exact .inr hm
    · exact .inl ea'
  · rw [List.getElem?_map] at e1 e2
    cases q1 : qs[k]? with
    | none => rw [q1] at e1; cases e1
    | some q =>
      cases q2 : dss[k]? with
      | none => rw [q2] at e2; cases e2
      | some ds =>
        rw [q1] at e1
        rw [q2] at e2
        cases e1
        cases e2
        exact (inner k q ds q1 q2).1
theorem Sta.forget (s : Sta F G0 G H σ ρ) (j : Nat) : Sta F G0 G H σ (ρ.set j .any) := by
  by_cases hj : j < σ.length
  · have z := s.setN (i := j) (x := σ[j])
    rw [List.set_getElem_self] at z
    exact z
  · rw [List.set_eq_of_length_le (by rw [← s.len]; omega)]
    exact s
/-- the whole becomes data -/
theorem Sta.thaw (s : Sta F G0 G H σ ρ) (h : ρ[i]? = some (.res (nest p qs dss))) : ∃ G', Same G G' ∧ Rp G' (.ref p) (.list (dss.map .list)) ∧ σ[i]? = some (some (.ref p)) ∧ Sta F G0 G' H σ (ρ.set i (.val (.list (dss.map .list)))) := by
  obtain ⟨G', g1, g2, g3, e, _, _, rp, _⟩ := s.see h
  obtain ⟨v, e', _, hfp⟩ := s.getR h
  have hfp' : ∀ a ∈ p :: qs, F a = none ∧ G a = none ∧ H a ≠ none := hfp
  have hi : i < ρ.length := (List.getElem?_eq_some_iff.mp h).1
  have s1 : Sta F G0 G' H σ (ρ.set i .any) := by
    have z := s.forget i
    refine ⟨z.fh, g2, z.g0.trans g1, fun a o ea na => ?_, z.len, fun j x ej => ?_, z.apart⟩
    · rcases g3 a o ea with q | q
      · exact z.new a o q na
      · exact absurd (hfp' a q).1 na
    · have q := z.slot j x ej
      cases x with
      | any => trivial
      | val d =>
        obtain ⟨u, a, b⟩ := q
        exact ⟨u, a, b.mono g1⟩
      | res r =>
        obtain ⟨u, a, b, c⟩ := q
        refine ⟨u, a, r.mono b g1 fun _ _ => rfl, fun x hx => ⟨(c x hx).1, ?_, (c x hx).2.2⟩⟩
        have hji : i ≠ j := fun z => by
          subst z
          rw [List.getElem?_set_self hi] at ej
          cases ej
        rw [List.getElem?_set_ne hji] at ej
        cases y : G' x with
        | none => rfl
        | some o =>
          rcases g3 x o y with q | q
          · rw [(c x hx).2.1] at q
            cases q
          · rcases Nat.lt_or_ge i j with hl | hl
            · exact absurd hx (s.apart i j _ _ hl h ej x q)
            · exact absurd q (s.apart j i _ _ (by omega) ej h x hx)
  have s2 := s1.setV (i := i) rp
  rw [List.set_set] at s2
  have eσ : σ.set i (some (.ref p)) = σ := by
    have hl : i < σ.length := by rw [s.len]; exact hi
    have e2 := e
    rw [List.getElem?_eq_getElem hl] at e2
    rw [← Option.some.inj e2]
    exact List.set_getElem_self hl
  rw [eσ] at s2
  exact ⟨G', g1, rp, e, s2⟩
end
section
variable {te ta tb ti : TE} {tas : TA} {ρ : Rho} {Φ : PyData → Rho → Prop} {K : PySem.W.Frag} {i j k : Nat} {p q : Addr} {qs : List Addr} {dss dss0 : List (List PyData)} {r : R2} {F G0 : Hp} {nx bk ct : Rho → Prop} {rt : PyData → Rho → Prop}
theorem we_forget (j : Nat) (h : We te (ρ.set j .any) Φ) : We te ρ Φ := fun F G0 G H σ s Q k => h F G0 G H σ (s.forget j) Q k
theorem q_forget {ts : TS} {Ψ : Outs} (j : Nat) (h : Ws F G0 ts (ρ.set j .any) Ψ) : Ws F G0 ts ρ Ψ := fun G H σ s => h G H σ (s.forget j)
theorem we_varN (h : ρ[i]? = some (.res (nest p qs dss))) (q : Φ (.list (dss.map .list)) (ρ.set i (.val (.list (dss.map .list))))) : We (tVar i) ρ Φ := fun F G0 G H σ s Q k => by
  obtain ⟨G', g, rp, e, s'⟩ := s.thaw h
  exact ⟨_, e, k _ _ _ G' H s' g rp q⟩
theorem we_opRN (h : ρ[i]? = some (.res (nest p qs dss0))) (q : We tb ρ fun y ρ1 => ∃ dss, ρ1[i]? = some (.res (nest p qs dss)) ∧ OpF2 r (.list (dss.map .list)) y fun z => Φ z ρ1) : We (tOp r (tVar i) tb) ρ Φ := fun F G0 G H σ s Q k => by
  obtain ⟨_, _, _, _, e, _⟩ := s.see h
  refine ⟨_, e, q F G0 G H σ s _ fun u y ρ1 G1 H1 s1 g1 r1 ⟨dss, h1, op⟩ => ?_⟩
  obtain ⟨G', a, b, _, _, _, _, rp, _⟩ := s1.see h1
  exact op G' H1 _ _ b rp (r1.mono a) Q fun w z hw pz => k w z ρ1 G1 H1 s1 g1 (hw G1) pz
theorem we_opRNI {n : Int} (h : ρ[i]? = some (.res (nest p qs dss0))) (hn : ixN dss0.length n = some k) (q : We tb ρ fun y ρ1 => ∃ dss ds, ρ1[i]? = some (.res (nest p qs dss)) ∧ dss[k]? = some ds ∧ OpF2 r (.list ds) y fun z => Φ z ρ1) : We (tOp r (tOp (rIx K) (tVar i) (tC (.int n))) tb) ρ Φ := fun F G0 G H σ s Q kk => by
  obtain ⟨_, _, _, _, e, hp, hl, _⟩ := s.see h
  have hk : k < qs.length := by
    rw [hl]
    exact (ixN_seq hn).2.1 |> fun z => z
  refine ⟨_, e, .inl ⟨p, qs.map V.ref, n, .ref qs[k], rfl, rfl, .inl (.inl hp), ?_, q F G0 G H σ s _ fun u y ρ1 G1 H1 s1 g1 r1 ⟨dss, ds, h1, h2, op⟩ => ?_⟩⟩
  · unfold atI
    rw [List.length_map, hl, hn]
    show (qs.map V.ref)[k]? = _
    rw [List.getElem?_map, List.getElem?_eq_getElem hk]
    rfl
  · obtain ⟨G', a, b, _, _, _, _, _, inn⟩ := s1.see h1
    exact op G' H1 _ _ b (inn k _ ds (List.getElem?_eq_getElem hk) h2).1 (r1.mono a) Q fun w z hw pz => kk w z ρ1 G1 H1 s1 g1 (hw G1) pz
/-- x = rows[e] -/
theorem q_ptr (h : ρ[i]? = some (.res (nest p qs dss0))) (q : We te ρ fun y ρ1 => ∃ dss n k, ρ1[i]? = some (.res (nest p qs dss)) ∧ y = .int n ∧ ixN dss.length n = some k ∧ ∀ q, qs[k]? = some q → nx (ρ1.set j (.res (ptrR q)))) : Ws F G0 (tAsg (tOp (rIx K) (tVar i) te) (gName j)) ρ ⟨nx, rt, bk, ct⟩ := fun G H σ s D q1 q2 q3 q4 => by
  obtain ⟨_, _, _, _, e, hp, hl, _⟩ := s.see h
  refine ⟨_, e, q F G0 G H σ s _ fun u y ρ1 G1 H1 s1 g1 r1 ⟨dss, n, k, h1, ey, en, cont⟩ => ?_⟩
  subst ey
  cases r1
  obtain ⟨_, _, _, _, e1, hp1, hl1, _⟩ := s1.see h1
  have hk : k < qs.length := by
    rw [hl1]
    exact (ixN_seq en).2.1
  refine .inl ⟨p, qs.map V.ref, n, .ref qs[k], rfl, rfl, .inl (.inl hp1), ?_, ?_⟩
  · unfold atI
    rw [List.length_map, hl1, en]
    show (qs.map V.ref)[k]? = _
    rw [List.getElem?_map, List.getElem?_eq_getElem hk]
    rfl
  · exact q1 _ _ G1 H1 (s1.setR (v := .ref qs[k]) (r := ptrR qs[k]) rfl (fun a ha => nomatch ha) (fun _ _ _ _ a _ hb => nomatch hb)) g1 (cont _ (List.getElem?_eq_getElem hk))
theorem we_lenP {ds : List PyData} (hj : ρ[j]? = some (.res (ptrR q))) (hi : ρ[i]? = some (.res (nest p qs dss))) (hq : qs[k]? = some q) (hd : dss[k]? = some ds) (h : Φ (.int ds.length) ρ) : We (tCB (rLen K) (tCons (tVar j) tNil)) ρ Φ := fun F G0 G H σ s Q kk => by
  obtain ⟨v, e, ev, _⟩ := s.getR hj
  have ev' : v = .ref q := ev
  subst ev'
  obtain ⟨G', a, b, _, _, _, _, _, inn⟩ := s.see hi
  obtain ⟨_, xs, hx, rx⟩ := inn k q ds hq hd
  exact ⟨_, e, .ref q, ds.length, rfl, .inl ⟨xs, .inl (.inl hx), rx.len.symm⟩, kk _ _ ρ G H s (Same.refl G) (.int _) h⟩
theorem we_ixP (hj : ρ[j]? = some (.res (ptrR q))) (h : We tb ρ fun y ρ1 => ∃ dss ds n d, ρ1[i]? = some (.res (nest p qs dss)) ∧ qs[k]? = some q ∧ dss[k]? = some ds ∧ y = .int n ∧ atI ds n = some d ∧ Φ d ρ1) : We (tOp (rIx K) (tVar j) tb) ρ Φ := fun F G0 G H σ s Q kk => by
  obtain ⟨v, e, ev, _⟩ := s.getR hj
  have ev' : v = .ref q := ev
  subst ev'
  refine ⟨_, e, h F G0 G H σ s _ fun u y ρ1 G1 H1 s1 g1 r1 ⟨dss, ds, n, d, hi, hq, hd, ey, ed, c⟩ => ?_⟩
  subst ey
  cases r1
  obtain ⟨G', a, b, _, _, _, _, _, inn⟩ := s1.see hi
  obtain ⟨_, xs, hx, rx⟩ := inn k q ds hq hd
  obtain ⟨w, e1, e2⟩ := rx.atI ed
  exact .inl ⟨q, xs, n, w, rfl, rfl, .inl (.inl hx), e1, kk w d ρ1 G1 H1 s1 g1 e2 c⟩
end
end Dv

namespace Dv
open PySem L2 PyProof.Rows PySem.Spec
theorem nodup_at {α : Type} {l : List α} (h : l.Nodup) {i j : Nat} {a : α} (e1 : l[i]? = some a) (e2 : l[j]? = some a) : i = j := by
  obtain ⟨h1, h2⟩ := List.getElem?_eq_some_iff.mp e1
  obtain ⟨h3, h4⟩ := List.getElem?_eq_some_iff.mp e2
  exact (List.getElem_inj h).mp (h2.trans h4.symm)
section
variable {F G0 G H : Hp} {σ : L2.St} {ρ : Rho} {i k : Nat} {p q : Addr} {qs : List Addr} {dss : List (List PyData)}
theorem Sta.updN (s : Sta F G0 G H σ ρ) (h0 : ρ[i]? = some (.res (nest p qs dss))) (hq : qs[k]? = some q) {xs : List V} {ds : List PyData} (r : RpA G xs ds) : Sta F G0 G (L2.upd H q (.lst xs)) σ (ρ.set i (.res (nest p qs (dss.set k ds)))) := by
  obtain ⟨v, e1, ⟨hv, h1, h2, h3, h4, h5⟩, hfp⟩ := s.getR h0
  have hin : q ∈ (nest p qs dss).fp := List.mem_cons_of_mem _ (List.mem_of_getElem? hq)
  obtain ⟨nF, nG, nH⟩ := hfp q hin
  have hi : i < ρ.length := (List.getElem?_eq_some_iff.mp h0).1
  have pq : p ≠ q := fun z => h4 (by rw [z]; exact List.mem_of_getElem? hq)
  refine ⟨fun a o e => ?_, fun a o e => ?_, s.g0, s.new, by rw [List.length_set, s.len], fun j x e => ?_, fun j l x y hjl ej el a ha hb => ?_⟩
  · rw [upd_ne fun z => by rw [z, nF] at e; cases e]
    exact s.fh a o e
  · rw [upd_ne fun z => by rw [z, nG] at e; cases e]
    exact s.gh a o e
  · by_cases hj : i = j
    · subst hj
      rw [List.getElem?_set_self hi] at e
      cases e
      refine ⟨v, by rw [e1]; rfl, ⟨hv, by rw [upd_ne pq]; exact h1, by rw [List.length_set]; exact h2, h3, h4, fun l q' ds' a1 a2 => ?_⟩, fun a ha => ?_⟩
      · by_cases hl : k = l
        · subst hl
          rw [hq] at a1
          cases a1
          have hk : k < dss.length := by
            have := (List.getElem?_eq_some_iff.mp hq).1
            omega
          rw [List.getElem?_set_self hk] at a2
          cases a2
          exact ⟨xs, upd_same, r⟩
        · rw [List.getElem?_set_ne hl] at a2
          obtain ⟨ys, b1, b2⟩ := h5 l q' ds' a1 a2
          exact ⟨ys, by rw [upd_ne fun z => hl (nodup_at h3 hq (by rw [← z]; exact a1))]; exact b1, b2⟩
      · obtain ⟨c1, c2, c3⟩ := hfp a ha
        refine ⟨c1, c2, ?_⟩
        by_cases haq : a = q
        · rw [haq, upd_same]
          simp
        · rw [upd_ne haq]
          exact c3
    · rw [List.getElem?_set_ne hj] at e
      have z := s.slot j x e
      cases x with
      | any => trivial
      | val d => exact z
      | res r' =>
        obtain ⟨v', e', kk, n'⟩ := z
        have hne : ∀ a ∈ r'.fp, a ≠ q := fun a ha z => by
          rcases Nat.lt_or_ge i j with hl | hl
          · exact s.apart i j _ _ hl h0 e q hin (by rw [← z]; exact ha)
          · exact s.apart j i _ _ (by omega) e h0 a ha (by rw [z]; exact hin)
        refine ⟨v', e', r'.mono kk (Same.refl G) fun a ha => upd_ne (hne a ha), fun a ha => ⟨(n' a ha).1, (n' a ha).2.1, ?_⟩⟩
        rw [upd_ne (hne a ha)]
        exact (n' a ha).2.2
  · by_cases hj : i = j
    · subst hj
      rw [List.getElem?_set_self hi] at ej
      cases ej
      rw [List.getElem?_set_ne (by omega)] at el
      exact s.apart i l _ y hjl h0 el a ha hb
    · rw [List.getElem?_set_ne hj] at ej
      by_cases hl : i = l
      · subst hl
        rw [List.getElem?_set_self hi] at el
        cases el
        exact s.apart j i x _ hjl ej h0 a ha hb
      · rw [List.getElem?_set_ne hl] at el
        exact s.apart j l x y hjl ej el a ha hb
end
section
variable {te ti : TE} {ρ : Rho} {K : PySem.W.Frag} {i j k c r : Nat} {p q : Addr} {qs : List Addr} {dss : List (List PyData)} {F G0 : Hp} {nx bk ct : Rho → Prop} {rt : PyData → Rho → Prop}
/-- row[e] = d, row one of ours -/
theorem q_setQ (h : We te ρ fun d ρ1 => ρ1[j]? = some (.res (ptrR q)) ∧ We ti ρ1 fun kk ρ2 => ∃ dss ds n l, ρ2[i]? = some (.res (nest p qs dss)) ∧ qs[k]? = some q ∧ dss[k]? = some ds ∧ kk = .int n ∧ ixN ds.length n = some l ∧ nx (ρ2.set i (.res (nest p qs (dss.set k (ds.set l d)))))) :
    Ws F G0 (tAsg te (gSub (tVar j) ti rSetL)) ρ ⟨nx, rt, bk, ct⟩ := fun G H σ s D q1 q2 q3 q4 =>
  h F G0 G H σ s _ fun u d ρ1 G1 H1 s1 g1 r1 ⟨hj, hi⟩ => by
    obtain ⟨v, e, ev, _⟩ := s1.getR hj
    have ev' : v = .ref q := ev
    subst ev'
    refine ⟨_, e, hi F G0 G1 H1 σ s1 _ fun w kk ρ2 G2 H2 s2 g2 r2 ⟨dss, ds, n, l, h2, hq, hd, ek, el, cont⟩ => ?_⟩
    subst ek
    cases r2
    obtain ⟨G', a, b, _, _, _, _, _, inn⟩ := s2.see h2
    obtain ⟨_, xs, hx, rx⟩ := inn k q ds hq hd
    exact ⟨q, xs, n, l, rfl, rfl, hx, by rw [rx.len]; exact el, q1 _ _ G2 _ (s2.updN h2 hq (rx.set (r1.mono g2) l)) (g1.trans g2) cont⟩
theorem wipe_eq_set {σ : L2.St} {vs : List Nat} {r : Nat} {x : Option V} (hr : r ∈ vs) : L2.wipe ((L2.wipe σ vs).set r x) vs = L2.wipe σ vs := by
  exact (wipe_eq (by rw [List.length_set]) fun k hk => List.getElem?_set_ne fun z => hk (by rw [← z]; exact hr)).trans wipe_wipe
theorem we_lenN {Φ : PyData → Rho → Prop} (hi : ρ[i]? = some (.res (nest p qs dss))) (h : Φ (.int dss.length) ρ) : We (tCB (rLen K) (tCons (tVar i) tNil)) ρ Φ := fun F G0 G H σ s Q kk => by
  obtain ⟨G', a, b, _, e, hp, hl, _⟩ := s.see hi
  exact ⟨_, e, .ref p, dss.length, rfl, .inl ⟨qs.map V.ref, .inl (.inl hp), by rw [List.length_map, hl]⟩, kk _ _ ρ G H s (Same.refl G) (.int _) h⟩
theorem ixN_nat {n r : Nat} (h : r < n) : ixN n (r : Int) = some r := by
  unfold ixN
  rw [if_pos (by omega), if_pos (by omega), Int.toNat_natCast]
theorem sig_rpa {G : Hp} (z : Str) : RpA G (z.cps.toList.map fun c => V.str ⟨#[c]⟩) (signs z) := RpA.of_map (fun c => .str _) _
/-- rows = [list(row) for row in texts] -/
theorem q_setNest {vs : List Nat} {zs : List Str} (hr : r ∈ vs) (hc : ρ[c]? = some (.val (.list (zs.map .str)))) (hlen : zs.length < 100000) (hz : ∀ z ∈ zs, z.length ≤ 100000) (hm : mergeR ρ (wipeR ρ vs) vs = ρ) (hrl : r < ρ.length)
    (h : ∀ p qs, qs.length = zs.length → nx (ρ.set i (.res (nest p qs (zs.map signs))))) :
    Ws F G0 (tAsg (tLc (iList K (tVar c)) (gName r) tYes (tCB (rLstU K) (tCons (tVar r) tNil)) vs) (gName i)) ρ ⟨nx, rt, bk, ct⟩ := fun G H σ s D q1 q2 q3 q4 => by
  unfold tAsg tLc
  refine (wi_list (we_var hc ⟨_, rfl, (⟨rfl, rfl⟩ : (zs.map PyData.str) = zs.map PyData.str ∧ ρ = ρ)⟩) : Wi (iList K (tVar c)) ρ fun ds ρ1 => ds = zs.map PyData.str ∧ ρ1 = ρ) F G0 G H σ s _ fun J ds ρ1 G1 H1 s1 g1 wk ⟨eds, eρ⟩ => ?_
  subst eds
  subst eρ
  intro D' nD
  have nF : F D' = none := none_of s1.fh nD
  have st0 : Sta F G0 G1 (L2.upd H1 D' (.lst [])) (L2.wipe σ vs) (wipeR ρ1 vs) := (s1.laid nD).wipe vs
  have fp0 : ∀ (j : Nat) (x : Slot), (wipeR ρ1 vs)[j]? = some x → D' ∉ x.fp := fun j x e => by
    rcases wipeR_get e with e | rfl
    · exact s1.nofp nD j x e
    · intro z
      cases z
  refine ⟨fun t m H' => m = zs.length - t ∧ t ≤ zs.length ∧ ∃ G' qs, Sta F G0 G' H' (L2.wipe σ vs) (wipeR ρ1 vs) ∧ Same G1 G' ∧ H' D' = some (.lst (qs.map V.ref)) ∧ G' D' = none ∧ qs.length = t ∧ qs.Nodup ∧ D' ∉ qs ∧
      (∀ a ∈ D' :: qs, F a = none ∧ G' a = none ∧ H' a ≠ none ∧ ∀ (j : Nat) (x : Slot), (wipeR ρ1 vs)[j]? = some x → a ∉ x.fp) ∧ ∀ (k : Nat) (q : Addr) (z : Str), qs[k]? = some q → zs[k]? = some z → H' q = some (.lst (z.cps.toList.map fun c => V.str ⟨#[c]⟩)),
    ⟨zs.length, by omega, Nat.zero_le _, G1, [], st0, Same.refl G1, upd_same, none_of s1.gh nD, rfl, List.nodup_nil, by simp, fun a ha => ?_, fun k q z e => by simp at e⟩, ?_⟩
  · obtain rfl := List.mem_singleton.mp ha
    exact ⟨nF, none_of s1.gh nD, by rw [upd_same]; simp, fp0⟩
  rintro t m H' ⟨rfl, ht, G', qs, s', g', hD, nG, hql, hnd, hDq, hfr, hin⟩
  obtain ⟨w1, w2⟩ := wk G' H' g' s'.gh
  by_cases hlt : t < zs.length
  · have ez : zs[t]? = some zs[t] := List.getElem?_eq_getElem hlt
    have ed : (zs.map PyData.str)[t]? = some (.str zs[t]) := by rw [List.getElem?_map, ez]; rfl
    obtain ⟨v1, v2⟩ := w2 t _ ed
    refine .inr ⟨v1, fun H2 => ∃ G2 qs2, Sta F G0 G2 H2 (L2.wipe σ vs) (wipeR ρ1 vs) ∧ Same G1 G2 ∧ H2 D' = some (.lst (qs2.map V.ref)) ∧ G2 D' = none ∧ qs2.length = t + 1 ∧ qs2.Nodup ∧ D' ∉ qs2 ∧
      (∀ a ∈ D' :: qs2, F a = none ∧ G2 a = none ∧ H2 a ≠ none ∧ ∀ (j : Nat) (x : Slot), (wipeR ρ1 vs)[j]? = some x → a ∉ x.fp) ∧ ∀ (k : Nat) (q : Addr) (z : Str), qs2[k]? = some q → zs[k]? = some z → H2 q = some (.lst (z.cps.toList.map fun c => V.str ⟨#[c]⟩)),
      fun H2 ⟨G2, qs2, b⟩ => ⟨zs.length - (t + 1), by omega, rfl, hlt, G2, qs2, b⟩, fun x H2 y => ?_⟩
    obtain ⟨G3, gr, rx⟩ := v2 x H2 y
    cases rx with
    | str _ =>
    have s3 := s'.grow gr
    have hrw : r < (L2.wipe σ vs).length := by
      rw [wipe_length, s1.len]
      exact hrl
    refine ⟨wipe_eq_set hr, ?_⟩
    show (tCB (rLstU K) (tCons (tVar r) tNil)) ((L2.wipe σ vs).set r (some (.str zs[t]))) H2 _
    refine ⟨.str zs[t], by rw [List.getElem?_set_self hrw], .inr ⟨zs[t], rfl, szl (hz _ (List.getElem_mem hlt)), fun l hl => ?_⟩⟩
    have keep : ∀ a ∈ D' :: qs, H2 a = H' a := fun a ha => by
      obtain ⟨_, _, c3, _⟩ := hfr a ha
      cases q : H' a with
      | none => exact absurd q c3
      | some u => exact gr.h a u q
    have lne : ∀ a ∈ D' :: qs, a ≠ l := fun a ha z => by
      have := keep a ha
      rw [z, hl] at this
      exact (hfr a ha).2.2.1 (by rw [z]; exact this.symm)
    have hD2 : L2.upd H2 l (.lst (zs[t].cps.toList.map fun c => V.str ⟨#[c]⟩)) D' = some (.lst (qs.map V.ref)) := by
      rw [upd_ne (lne D' List.mem_cons_self), keep D' List.mem_cons_self]
      exact hD
    refine ⟨qs.map V.ref, hD2, by rw [List.length_map, hql]; exact szs (by omega), G3, qs ++ [l], ?_, g'.trans gr.g, by rw [upd_same, List.map_append]; rfl, ?_, by simp [hql], ?_, ?_, ?_, ?_⟩
    · have s4 : Sta F G0 G3 (L2.upd H2 l (.lst (zs[t].cps.toList.map fun c => V.str ⟨#[c]⟩))) (L2.wipe σ vs) (wipeR ρ1 vs) := s3.laid hl
      refine s4.put nF ?_ (hfr D' List.mem_cons_self).2.2.2
      cases q : G3 D' with
      | none => rfl
      | some u =>
        have := gr.new D' u q (hfr D' List.mem_cons_self).2.2.1
        rw [nG] at this
        cases this
    · cases q : G3 D' with
      | none => rfl
      | some u =>
        have := gr.new D' u q (hfr D' List.mem_cons_self).2.2.1
        rw [nG] at this
        cases this
    · rw [List.nodup_append]
      exact ⟨hnd, by simp, fun a ha b hb => by
        obtain rfl := List.mem_singleton.mp hb
        exact lne a (List.mem_cons_of_mem _ ha)⟩
    · intro z
      rcases List.mem_append.mp z with z | z
      · exact hDq z
      · exact lne D' List.mem_cons_self (List.mem_singleton.mp z)
    · intro a ha
      have hl3 : a = l ∨ a ∈ D' :: qs := by
        rcases List.mem_cons.mp ha with h | h
        · exact .inr (by rw [h]; exact List.mem_cons_self)
        · rcases List.mem_append.mp h with h | h
          · exact .inr (List.mem_cons_of_mem _ h)
          · exact .inl (List.mem_singleton.mp h)
      rcases hl3 with rfl | hm'
      · refine ⟨none_of s3.fh hl, none_of s3.gh hl, ?_, s3.nofp hl⟩
        rw [upd_ne (Ne.symm (lne D' List.mem_cons_self)), upd_same]
        simp
      · obtain ⟨c1, c2, c3, c4⟩ := hfr a hm'
        refine ⟨c1, ?_, ?_, c4⟩
        · cases q : G3 a with
          | none => rfl
          | some u =>
            have := gr.new a u q c3
            rw [c2] at this
            cases this
        · by_cases haD : a = D'
          · rw [haD, upd_same]
            simp
          · rw [upd_ne haD, upd_ne (lne a hm'), keep a hm']
            exact c3
    · intro k q z e1 e2
      by_cases hk : k < qs.length
      · rw [List.getElem?_append_left hk] at e1
        have hm' : q ∈ D' :: qs := List.mem_cons_of_mem _ (List.mem_of_getElem? e1)
        have hqD : q ≠ D' := fun z => hDq (by rw [← z]; exact List.mem_of_getElem? e1)
        rw [upd_ne hqD, upd_ne (lne q hm'), keep q hm']
        exact hin k q z e1 e2
      · rw [List.getElem?_append_right (by omega)] at e1
        have hk0 : k - qs.length = 0 := by
          have := (List.getElem?_eq_some_iff.mp e1).1
          simp at this
          omega
        rw [hk0] at e1
        have el : l = q := by simpa using e1
        subst el
        have hkt : k = t := by omega
        subst hkt
        rw [ez] at e2
        cases e2
        rw [upd_ne (Ne.symm (lne D' List.mem_cons_self)), upd_same]
  · have e : t = zs.length := by omega
    subst e
    refine .inl ⟨by simpa using w1, ?_⟩
    have sm := s'.merge s1 g'
    rw [hm] at sm
    refine q1 _ _ G' H' (sm.setR (v := .ref D') (r := nest D' qs (zs.map signs)) ⟨rfl, hD, by simp [hql], hnd, hDq, fun k q ds e1 e2 => ?_⟩ (fun a ha => ?_) (fun j x hji ex a ha hb => ?_)) (g1.trans g') (h D' qs hql)
    · rw [List.getElem?_map] at e2
      cases qz : zs[k]? with
      | none => rw [qz] at e2; cases e2
      | some z =>
        rw [qz] at e2
        cases e2
        exact ⟨_, hin k q z e1 qz, sig_rpa z⟩
    · obtain ⟨c1, c2, c3, _⟩ := hfr a ha
      exact ⟨c1, c2, c3⟩
    · have ex2 : (mergeR ρ1 (wipeR ρ1 vs) vs)[j]? = some x := by rw [hm]; exact ex
      rcases mergeR_get ex2 with ⟨_, e⟩ | rfl
      · exact (hfr a hb).2.2.2 j x e ha
      · rw [keepV_fp] at ha
        cases ha
end
end Dv

namespace Dv
open PySem L2 PyProof.Rows PySem.Spec
section
variable {tas : TA} {ρ : Rho} {F G0 : Hp} {nx bk ct : Rho → Prop} {rt : PyData → Rho → Prop} {i j l : Nat}
theorem q_par3 (h : Wa tas ρ fun ds ρ1 => ∃ x y z, ds = [x, y, z] ∧ nx (((ρ1.set i (.val x)).set j (.val y)).set l (.val z))) : Ws F G0 (tPar3 i j l tas) ρ ⟨nx, rt, bk, ct⟩ := fun G H σ s D q1 q2 q3 q4 =>
  h F G0 G H σ s _ fun vs ds ρ1 G1 H1 s1 g1 r1 ⟨x, y, z, e, p⟩ => by
    subst e
    cases r1 with
    | cons ra rb =>
      cases rb with
      | cons rb rc =>
        cases rc with
        | cons rc rd =>
          cases rd
          exact ⟨_, _, _, rfl, q1 _ _ G1 H1 (((s1.setV ra).setV rb).setV rc) g1 p⟩
theorem tripL {α : Type} {a b c : α} {φ : α → α → α → Prop} (h : φ a b c) : ∃ x y z, [a, b, c] = [x, y, z] ∧ φ x y z := ⟨a, b, c, rfl, h⟩
end
end Dv

namespace Dv
open PySem L2
/-! ### trees whose lists are nobody else's: L tells where the lists lie -/
mutual
inductive Tr (G H : Hp) : V → PyData → List Addr → Prop
  | flt {v : V} {d : PyData} : Rp G v d → flat d = true → Tr G H v d []
  | lst {a : Addr} {xs : List V} {ds : List PyData} {L : List Addr} : H a = some (.lst xs) → TrA G H xs ds L → a ∉ L → Tr G H (.ref a) (.list ds) (a :: L)
  | tup {a : Addr} {xs : List V} {ds : List PyData} {L : List Addr} : G a = some (.tup xs) → TrA G H xs ds L → Tr G H (.ref a) (.tuple ds) L
inductive TrA (G H : Hp) : List V → List PyData → List Addr → Prop
  | nil : TrA G H [] [] []
  | cons {v : V} {vs : List V} {d : PyData} {ds : List PyData} {L M : List Addr} : Tr G H v d L → TrA G H vs ds M → (∀ a ∈ L, a ∉ M) → TrA G H (v :: vs) (d :: ds) (L ++ M)
end
mutual
theorem Tr.mono {G H G' H' : Hp} (e : Same G G') : ∀ {d : PyData} {v : V} {L : List Addr}, Tr G H v d L → (∀ a ∈ L, H' a = H a) → Tr G' H' v d L
  | .none, _, _, h, k => by cases h with | flt r f => exact .flt (r.mono e) f
  | .bool b, _, _, h, k => by cases h with | flt r f => exact .flt (r.mono e) f
  | .int b, _, _, h, k => by cases h with | flt r f => exact .flt (r.mono e) f
  | .str b, _, _, h, k => by cases h with | flt r f => exact .flt (r.mono e) f
  | .list ds, _, _, h, k => by
    cases h with
    | flt r f => cases f
    | lst h1 h2 h3 => exact .lst ((k _ List.mem_cons_self).trans h1) (TrA.mono e h2 fun a ha => k a (List.mem_cons_of_mem _ ha)) h3
  | .tuple ds, _, _, h, k => by
    cases h with
    | flt r f => cases f
    | tup h1 h2 => exact .tup (e _ _ h1) (TrA.mono e h2 k)
  | .dict ds, _, _, h, k => by
    cases h with
    | flt r f => cases f
theorem TrA.mono {G H G' H' : Hp} (e : Same G G') : ∀ {ds : List PyData} {vs : List V} {L : List Addr}, TrA G H vs ds L → (∀ a ∈ L, H' a = H a) → TrA G' H' vs ds L
  | [], _, _, h, k => by cases h; exact .nil
  | d :: ds, _, _, h, k => by
    cases h with
    | cons h1 h2 h3 => exact .cons (Tr.mono e h1 fun a ha => k a (List.mem_append_left _ ha)) (TrA.mono e h2 fun a ha => k a (List.mem_append_right _ ha)) h3
end
/-- G, and what H tells at M -/
def frz (G H : Hp) (M : List Addr) : Hp := fun a => if a ∈ M then H a else G a
theorem frz_in {G H : Hp} {M : List Addr} {a : Addr} (h : a ∈ M) : frz G H M a = H a := if_pos h
theorem frz_out {G H : Hp} {M : List Addr} {a : Addr} (h : a ∉ M) : frz G H M a = G a := if_neg h
theorem frz_same {G H : Hp} {M : List Addr} (h : ∀ a ∈ M, G a = none) : Same G (frz G H M) := fun a o e => by
  rw [frz_out fun z => by rw [h a z] at e; cases e]
  exact e
theorem frz_le {G H : Hp} {M : List Addr} (s : Same G H) : Same (frz G H M) H := fun a o e => by
  by_cases h : a ∈ M
  · rw [frz_in h] at e
    exact e
  · rw [frz_out h] at e
    exact s a o e
mutual
theorem Tr.rp {G H : Hp} {M : List Addr} (n : ∀ a ∈ M, G a = none) : ∀ {d : PyData} {v : V} {L : List Addr}, Tr G H v d L → (∀ a ∈ L, a ∈ M) → Rp (frz G H M) v d
  | .none, _, _, h, k => by cases h with | flt r f => exact r.mono (frz_same n)
  | .bool b, _, _, h, k => by cases h with | flt r f => exact r.mono (frz_same n)
  | .int b, _, _, h, k => by cases h with | flt r f => exact r.mono (frz_same n)
  | .str b, _, _, h, k => by cases h with | flt r f => exact r.mono (frz_same n)
  | .list ds, _, _, h, k => by
    cases h with
    | flt r f => cases f
    | lst h1 h2 h3 => exact .lst (by rw [frz_in (k _ List.mem_cons_self)]; exact h1) (TrA.rp n h2 fun a ha => k a (List.mem_cons_of_mem _ ha))
  | .tuple ds, _, _, h, k => by
    cases h with
    | flt r f => cases f
    | tup h1 h2 => exact .tup (frz_same n _ _ h1) (TrA.rp n h2 k)
  | .dict ds, _, _, h, k => by
    cases h with
    | flt r f => cases f
theorem TrA.rp {G H : Hp} {M : List Addr} (n : ∀ a ∈ M, G a = none) : ∀ {ds : List PyData} {vs : List V} {L : List Addr}, TrA G H vs ds L → (∀ a ∈ L, a ∈ M) → RpA (frz G H M) vs ds
  | [], _, _, h, k => by cases h; exact .nil
  | d :: ds, _, _, h, k => by
    cases h with
    | cons h1 h2 h3 => exact .cons (Tr.rp n h1 fun a ha => k a (List.mem_append_left _ ha)) (TrA.rp n h2 fun a ha => k a (List.mem_append_right _ ha))
end
mutual
theorem Tr.live {G H : Hp} : ∀ {d : PyData} {v : V} {L : List Addr}, Tr G H v d L → ∀ a ∈ L, H a ≠ none
  | .none, _, _, h => by cases h with | flt r f => intro a ha; cases ha
  | .bool b, _, _, h => by cases h with | flt r f => intro a ha; cases ha
  | .int b, _, _, h => by cases h with | flt r f => intro a ha; cases ha
  | .str b, _, _, h => by cases h with | flt r f => intro a ha; cases ha
  | .list ds, _, _, h => by
    cases h with
    | flt r f => cases f
    | lst h1 h2 h3 =>
      intro a ha
      rcases List.mem_cons.mp ha with rfl | ha
      · rw [h1]; simp
      · exact TrA.live h2 a ha
  | .tuple ds, _, _, h => by
    cases h with
    | flt r f => cases f
    | tup h1 h2 => exact TrA.live h2
  | .dict ds, _, _, h => by
    cases h with
    | flt r f => cases f
theorem TrA.live {G H : Hp} : ∀ {ds : List PyData} {vs : List V} {L : List Addr}, TrA G H vs ds L → ∀ a ∈ L, H a ≠ none
  | [], _, _, h => by cases h; intro a ha; cases ha
  | d :: ds, _, _, h => by
    cases h with
    | cons h1 h2 h3 =>
      intro a ha
      rcases List.mem_append.mp ha with ha | ha
      · exact Tr.live h1 a ha
      · exact TrA.live h2 a ha
end
theorem TrA.len {G H : Hp} : ∀ {ds : List PyData} {vs : List V} {L : List Addr}, TrA G H vs ds L → vs.length = ds.length
  | [], _, _, h => by cases h; rfl
  | d :: ds, _, _, h => by
    cases h with
    | cons h1 h2 h3 => simp [TrA.len h2]
/-! no list is in it -/
mutual
def nl : PyData → Bool
  | .list _ => false
  | .dict _ => false
  | .tuple ds => nlA ds
  | _ => true
def nlA : List PyData → Bool
  | [] => true
  | d :: ds => nl d && nlA ds
end
mutual
theorem Tr.of_nl {G H : Hp} : ∀ {d : PyData} {v : V}, nl d = true → Rp G v d → Tr G H v d []
  | .none, _, h, r => .flt r rfl
  | .bool b, _, h, r => .flt r rfl
  | .int b, _, h, r => .flt r rfl
  | .str b, _, h, r => .flt r rfl
  | .list ds, _, h, r => by simp [nl] at h
  | .dict ds, _, h, r => by simp [nl] at h
  | .tuple ds, _, h, r => by
    cases r with
    | tup h1 h2 => exact .tup h1 (TrA.of_nl (by simpa [nl] using h) h2)
theorem TrA.of_nl {G H : Hp} : ∀ {ds : List PyData} {vs : List V}, nlA ds = true → RpA G vs ds → TrA G H vs ds []
  | [], _, h, r => by cases r; exact .nil
  | d :: ds, _, h, r => by
    cases r with
    | cons r1 r2 =>
      simp only [nlA, Bool.and_eq_true] at h
      exact .cons (L := []) (M := []) (Tr.of_nl h.1 r1) (TrA.of_nl h.2 r2) (by simp)
end
theorem nlA_all {ds : List PyData} : nlA ds = ds.all nl := by
  induction ds with
  | nil => rfl
  | cons d ds ih => simp [nlA, ih]
theorem nl_flat {d : PyData} (h : flat d = true) : nl d = true := by
  cases d <;> first | rfl | cases h
theorem TrA.app {G H : Hp} : ∀ {ds es : List PyData} {vs ws : List V} {L M : List Addr}, TrA G H vs ds L → TrA G H ws es M → (∀ a ∈ L, a ∉ M) → TrA G H (vs ++ ws) (ds ++ es) (L ++ M)
  | [], _, _, _, _, _, h, k, _ => by cases h; exact k
  | d :: ds, _, _, _, _, _, h, k, n => by
    cases h with
    | cons h1 h2 h3 =>
      rw [List.append_assoc]
      refine .cons h1 (TrA.app h2 k fun a ha => n a (List.mem_append_right _ ha)) fun a ha hb => ?_
      rcases List.mem_append.mp hb with hb | hb
      · exact h3 a ha hb
      · exact n a (List.mem_append_left _ ha) hb
/-- a thing that is nobody else's -/
def own (L : List Addr) (d : PyData) : Res where
  fp := L
  ok := fun G H v => Tr G H v d L
  mono := fun h g k => h.mono g k
/-- a list at a whose items are nobody's concern any more -/
def rawL (a : Addr) (n : Nat) : Res where
  fp := [a]
  ok := fun _ H v => v = .ref a ∧ ∃ xs, H a = some (.lst xs) ∧ xs.length = n
  mono := by
    rintro G H G' H' v ⟨e, xs, h1, h2⟩ g k
    exact ⟨e, xs, (k a List.mem_cons_self).trans h1, h2⟩
section
variable {F G0 G H G' H' : Hp} {σ : L2.St} {ρ : Rho} {M : List Addr}
/-- lists of nobody's become data -/
theorem Sta.freezeM (s : Sta F G0 G H σ ρ) (n : ∀ a ∈ M, F a = none ∧ G a = none) (ap : ∀ (j : Nat) (x : Slot), ρ[j]? = some x → ∀ a ∈ x.fp, a ∉ M) : Sta F G0 (frz G H M) H σ ρ where
  fh := s.fh
  gh := frz_le s.gh
  g0 := s.g0.trans (frz_same fun a ha => (n a ha).2)
  new := fun a o e nF => by
    by_cases h : a ∈ M
    · exact absurd (n a h).1 nF
    · rw [frz_out h] at e
      exact s.new a o e nF
  len := s.len
  slot := fun i x e => by
    have q := s.slot i x e
    have sm : Same G (frz G H M) := frz_same fun a ha => (n a ha).2
    cases x with
    | any => trivial
    | val d =>
      obtain ⟨v, e, r⟩ := q
      exact ⟨v, e, r.mono sm⟩
    | res r =>
      obtain ⟨v, e', k, n'⟩ := q
      refine ⟨v, e', r.mono k sm fun a ha => rfl, fun a ha => ⟨(n' a ha).1, ?_, (n' a ha).2.2⟩⟩
      rw [frz_out (ap i _ e a ha)]
      exact (n' a ha).2.1
  apart := s.apart
theorem Sta.holdM (s : Sta F G0 G H σ ρ) (n : ∀ a ∈ M, G a = none) (ap : ∀ (j : Nat) (x : Slot), ρ[j]? = some x → ∀ a ∈ x.fp, a ∉ M) : Sta (frz F H M) G0 G H σ ρ where
  fh := frz_le s.fh
  gh := s.gh
  g0 := s.g0
  new := fun a o e nF => by
    by_cases h : a ∈ M
    · rw [n a h] at e
      cases e
    · rw [frz_out h] at nF
      exact s.new a o e nF
  len := s.len
  slot := fun i x e => by
    have q := s.slot i x e
    cases x with
    | any => trivial
    | val d => exact q
    | res r =>
      obtain ⟨v, e', k, n'⟩ := q
      refine ⟨v, e', k, fun a ha => ⟨?_, (n' a ha).2⟩⟩
      rw [frz_out (ap i _ e a ha)]
      exact (n' a ha).1
  apart := s.apart
theorem Sta.unholdM {H0 : Hp} (s : Sta (frz F H0 M) G0 G H σ ρ) (n : ∀ a ∈ M, F a = none ∧ G0 a = none ∧ H0 a ≠ none) : Sta F G0 G H σ ρ ∧ (∀ a ∈ M, H a = H0 a) ∧ (∀ a ∈ M, G a = none) ∧ ∀ (j : Nat) (x : Slot), ρ[j]? = some x → ∀ a ∈ x.fp, a ∉ M := by
  have hH : ∀ a ∈ M, H a = H0 a := fun a ha => by
    cases q : H0 a with
    | none => exact absurd q (n a ha).2.2
    | some u => exact s.fh a u (by rw [frz_in ha]; exact q)
  refine ⟨⟨fun a o e => s.fh a o ?_, s.gh, s.g0, fun a o e nF => s.new a o e ?_, s.len, fun i x e => ?_, s.apart⟩, hH, fun a ha => ?_, fun j x e a hx ha => ?_⟩
  · rw [frz_out fun z => by rw [(n a z).1] at e; cases e]
    exact e
  · rw [frz_out fun z => nF (n a z).1]
    exact nF
  · have q := s.slot i x e
    cases x with
    | any => trivial
    | val d => exact q
    | res r =>
      obtain ⟨v, e', k, n'⟩ := q
      refine ⟨v, e', k, fun a ha => ⟨?_, (n' a ha).2⟩⟩
      have z := (n' a ha).1
      by_cases hb : a ∈ M
      · exact (n a hb).1
      · rw [frz_out hb] at z
        exact z
  · cases q : G a with
    | none => rfl
    | some o =>
      have z := s.new a o q (by rw [frz_in ha]; exact (n a ha).2.2)
      rw [(n a ha).2.1] at z
      cases z
  · have q := s.slot j x e
    cases x with
    | any => cases hx
    | val d => cases hx
    | res r =>
      obtain ⟨v, e', k, n'⟩ := q
      have z := (n' a hx).1
      rw [frz_in ha] at z
      exact (n a ha).2.2 z
/-- what lies at new places is in no slot -/
theorem Sta.newL {L : List Addr} (s : Sta F G0 G H σ ρ) (n : ∀ a ∈ L, H a = none) : ∀ (j : Nat) (x : Slot), ρ[j]? = some x → ∀ a ∈ x.fp, a ∉ L := fun j x e a hx ha => by
  have q := s.slot j x e
  cases x with
  | any => cases hx
  | val d => cases hx
  | res r =>
    obtain ⟨v, e', k, n'⟩ := q
    exact (n' a hx).2.2 (n a ha)
end
/-- what is told is nobody else's -/
def Wr (te : TE) (ρ : Rho) (Φ : PyData → Rho → Prop) : Prop := ∀ (F G0 G H : Hp) (σ : L2.St), Sta F G0 G H σ ρ → ∀ Q : VK, (∀ v d L ρ' G' H', Sta F G0 G' H' σ ρ' → Same G G' → Tr G' H' v d L → (∀ a ∈ L, F a = none ∧ G' a = none) → (∀ (j : Nat) (x : Slot), ρ'[j]? = some x → ∀ a ∈ x.fp, a ∉ L) → Φ d ρ' → Q v H') → te σ H Q
/-- a def that tells something of nobody's -/
def SpO (pre : List PyData → (PyData → Prop) → Prop) : Sp := fun vs H Q _ => ∃ G ds φ, Same G H ∧ RpA G vs ds ∧ pre ds φ ∧ ∀ v d L G' H', Grow G H G' H' → Tr G' H' v d L → (∀ a ∈ L, H a = none ∧ G' a = none) → φ d → Q v H'
theorem spo_len {pre : List PyData → (PyData → Prop) → Prop} {n : Nat} (hl : ∀ ds φ, pre ds φ → ds.length = n) : ∀ vs H Q E, SpO pre vs H Q E → vs.length = n := fun vs H Q E ⟨G, ds, φ, s, r, p, k⟩ => by rw [r.len, hl ds φ p]
/-- a suite that returns something of nobody's -/
def WsO (F G0 : Hp) (ts : TS) (ρ : Rho) (rt : PyData → Rho → Prop) : Prop := ∀ (G H : Hp) (σ : L2.St), Sta F G0 G H σ ρ → ∀ D : Ends,
  (∀ v d L σ' ρ' G' H', Sta F G0 G' H' σ' ρ' → Same G G' → Tr G' H' v d L → (∀ a ∈ L, F a = none ∧ G' a = none) → rt d ρ' → D.rt v H') → ts D σ H
theorem fn_own {pre : List PyData → (PyData → Prop) → Prop} {t : TS} {N : List Str} {n : Nat} (hn : n ≤ N.length) (hl : ∀ ds φ, pre ds φ → ds.length = n)
    (h : ∀ F G0 ds φ, pre ds φ → WsO F G0 t (slots0 N.length ds) fun d _ => φ d) {vs : List V} {H : Hp} {Q : VK} {E : XK} (hs : SpO pre vs H Q E) : t { nx := fun _ H' => Q .non H', rt := Q } (L2.start N vs) H := by
  obtain ⟨G, ds, φ, s, r, p, k⟩ := hs
  have hv : vs.length ≤ N.length := by rw [r.len, hl ds φ p]; exact hn
  exact h H G ds φ p G H _ (sta_start s r hv) _ fun v d L σ' ρ' G' H' s' g r' nL q => k v d L G' H' ⟨g, s'.fh, s'.gh, s'.new⟩ r' nL q
section
variable {te ta tb tc : TE} {tt tu : TT} {tas : TA} {ts tsu : TS} {ρ : Rho} {Φ Φ' : PyData → Rho → Prop} {Φb : Bool → Rho → Prop} {K : PySem.W.Frag} {g : TG} {wi : TI}
theorem Wr.imp (h : Wr te ρ Φ) (k : ∀ d ρ', Φ d ρ' → Φ' d ρ') : Wr te ρ Φ' := fun F G0 G H σ s Q q => h F G0 G H σ s Q fun v d L ρ' G' H' s' g r a b p => q v d L ρ' G' H' s' g r a b (k d ρ' p)
/-- it may be taken as data -/
theorem we_own (h : Wr te ρ Φ) : We te ρ Φ := fun F G0 G H σ s Q k => h F G0 G H σ s Q fun v d L ρ' G' H' s' g r n ap p =>
  k v d ρ' (frz G' H' L) H' (s'.freezeM n ap) (g.trans (frz_same fun a ha => (n a ha).2)) (r.rp (fun a ha => (n a ha).2) fun _ h => h) p
theorem wr_new (h : Wn te ρ fun ds ρ1 => nlA ds = true ∧ Φ (.list ds) ρ1) : Wr te ρ Φ := fun F G0 G H σ s Q k =>
  h F G0 G H σ s Q fun p xs ds ρ' G' H' s' g hp r hF hG hn ⟨hnl, q⟩ => k _ _ [p] ρ' G' H' s' g (.lst hp (TrA.of_nl hnl r) (by simp)) (fun a ha => by rw [List.mem_singleton.mp ha]; exact ⟨hF, hG⟩)
    (fun j x e a hx ha => hn j x e (by rw [← List.mem_singleton.mp ha]; exact hx)) q
theorem wr_nl (h : We te ρ fun d ρ1 => nl d = true ∧ Φ d ρ1) : Wr te ρ Φ := fun F G0 G H σ s Q k =>
  h F G0 G H σ s Q fun v d ρ' G' H' s' g r ⟨hn, q⟩ => k v d [] ρ' G' H' s' g (Tr.of_nl hn r) (by simp) (by simp) q
theorem wr_if (h : Wt tt ρ fun b ρ1 => (b = true → Wr ta ρ1 Φ) ∧ (b = false → Wr tb ρ1 Φ)) : Wr (tIf tt ta tb) ρ Φ := fun F G0 G H σ s Q k =>
  h F G0 G H σ s _ fun b ρ1 G1 H1 s1 g1 ⟨p1, p2⟩ => by
    cases b with
    | true => exact p1 rfl F G0 G1 H1 σ s1 Q fun v d L ρ' G' H' s' g r a b p => k v d L ρ' G' H' s' (g1.trans g) r a b p
    | false => exact p2 rfl F G0 G1 H1 σ s1 Q fun v d L ρ' G' H' s' g r a b p => k v d L ρ' G' H' s' (g1.trans g) r a b p
theorem wr_call {pre : List PyData → (PyData → Prop) → Prop} {E : XK} (h : Wa tas ρ fun ds ρ1 => pre ds fun d => Φ d ρ1) : Wr (tCall (SpO pre) [] E tas) ρ Φ := fun F G0 G H σ s Q k =>
  h F G0 G H σ s _ fun vs ds ρ1 G1 H1 s1 g1 r1 p => ⟨G1, ds, _, s1.gh, by rw [List.append_nil]; exact r1, p, fun v d L G' H' gr r n q =>
    k v d L ρ1 G' H' (s1.grow gr) (g1.trans gr.g) r (fun a ha => ⟨none_of s1.fh (n a ha).1, (n a ha).2⟩) (s1.newL fun a ha => (n a ha).1) q⟩
theorem wr_callK {pre : List PyData → (PyData → Prop) → Prop} {E : XK} {n : Nat} {π : List Nat} {tk : TA} (h : Wa tk ρ fun ds ρ1 => pre (permL n π [] ds) fun d => Φ d ρ1) : Wr (tCallK (SpO pre) (permL n π) E tNil tk) ρ Φ := fun F G0 G H σ s Q k =>
  h F G0 G H σ s _ fun vs ds ρ1 G1 H1 s1 g1 r1 p => ⟨G1, _, _, s1.gh, perm_rpa r1, p, fun v d L G' H' gr r n q =>
    k v d L ρ1 G' H' (s1.grow gr) (g1.trans gr.g) r (fun a ha => ⟨none_of s1.fh (n a ha).1, (n a ha).2⟩) (s1.newL fun a ha => (n a ha).1) q⟩
/-- a list of nobody's is told -/
theorem wr_varR {i : Nat} {p : Addr} {ds : List PyData} (h : ρ[i]? = some (.res (lst p ds))) (hn : nlA ds = true) (q : Φ (.list ds) (ρ.set i .any)) : Wr (tVar i) ρ Φ := fun F G0 G H σ s Q k => by
  obtain ⟨v, e, ⟨rfl, xs, ds', hp, ra, rfl⟩, hfp⟩ := s.getR h
  obtain ⟨nF, nG, nH⟩ := hfp p List.mem_cons_self
  have hi : i < ρ.length := (List.getElem?_eq_some_iff.mp h).1
  have s1 : Sta F G0 G H (σ.set i (some (.ref p))) (ρ.set i .any) := s.setN
  have eσ : σ.set i (some (.ref p)) = σ := by
    have hl : i < σ.length := by rw [s.len]; exact hi
    have e2 := e
    rw [List.getElem?_eq_getElem hl] at e2
    rw [← Option.some.inj e2]
    exact List.set_getElem_self hl
  rw [eσ] at s1
  refine ⟨_, e, k _ _ [p] _ G H s1 (Same.refl G) (.lst hp (TrA.of_nl hn ra) (by simp)) (fun a ha => by rw [List.mem_singleton.mp ha]; exact ⟨nF, nG⟩) (fun j x ej a hx ha => ?_) q⟩
  rw [List.mem_singleton.mp ha] at hx
  by_cases hj : i = j
  · subst hj
    rw [List.getElem?_set_self hi] at ej
    cases ej
    cases hx
  · rw [List.getElem?_set_ne hj] at ej
    rcases Nat.lt_or_ge i j with hl | hl
    · exact s.apart i j _ _ hl h ej p List.mem_cons_self hx
    · exact s.apart j i _ _ (by omega) ej h p hx List.mem_cons_self
/-! ### suites that return something of nobody's -/
theorem o_seq {F G0 : Hp} {rt : PyData → Rho → Prop} (h : Ws F G0 ts ρ ⟨fun ρ' => WsO F G0 tsu ρ' rt, fun d ρ' => nl d = true ∧ rt d ρ', fun _ => False, fun _ => False⟩) : WsO F G0 (tSeq ts tsu) ρ rt := fun G H σ s D q =>
  h G H σ s { D with nx := tsu D } (fun σ' ρ' G' H' s' g p => p G' H' σ' s' D fun v d L σ2 ρ2 G2 H2 s2 g2 r n p2 => q v d L σ2 ρ2 G2 H2 s2 (g.trans g2) r n p2)
    (fun v d σ' ρ' G' H' s' g r ⟨hn, p⟩ => q v d [] σ' ρ' G' H' s' g (Tr.of_nl hn r) (by simp) p) (fun _ _ _ _ _ _ z => z.elim) (fun _ _ _ _ _ _ z => z.elim)
theorem o_if {F G0 : Hp} {rt : PyData → Rho → Prop} (h : Wt tt ρ fun b ρ1 => (b = true → WsO F G0 ts ρ1 rt) ∧ (b = false → WsO F G0 tsu ρ1 rt)) : WsO F G0 (tIfS tt ts tsu) ρ rt := fun G H σ s D q =>
  h F G0 G H σ s _ fun b ρ1 G1 H1 s1 g1 p => by
    have a := fun v d L σ2 ρ2 G2 H2 s2 g2 r n p2 => q v d L σ2 ρ2 G2 H2 s2 (g1.trans g2) r n p2
    cases b with
    | true => exact p.1 rfl G1 H1 σ s1 D a
    | false => exact p.2 rfl G1 H1 σ s1 D a
theorem o_ret {F G0 : Hp} {rt : PyData → Rho → Prop} (h : Wr te ρ rt) : WsO F G0 (tRet te) ρ rt := fun G H σ s D q => h F G0 G H σ s _ fun v d L ρ1 G1 H1 s1 g1 r n ap p => q v d L _ ρ1 G1 H1 s1 g1 r n p
/-! ### slots -/
theorem q_setO {F G0 : Hp} {i : Nat} {nx bk ct : Rho → Prop} {rt : PyData → Rho → Prop} (h : Wr te ρ fun d ρ1 => ∀ L, nx (ρ1.set i (.res (own L d)))) : Ws F G0 (tAsg te (gName i)) ρ ⟨nx, rt, bk, ct⟩ := fun G H σ s D q1 q2 q3 q4 =>
  h F G0 G H σ s _ fun v d L ρ1 G1 H1 s1 g1 r n ap p => q1 _ _ G1 H1 (s1.setR (v := v) (r := own L d) r (fun a ha => ⟨(n a ha).1, (n a ha).2, r.live a ha⟩) (fun j x _ e a ha hb => ap j x e a ha hb)) g1 (p L)
/-- a, b = something of nobody's, x -/
theorem q_parO {F G0 : Hp} {i j : Nat} {nx bk ct : Rho → Prop} {rt : PyData → Rho → Prop} (h : Wr ta ρ fun d ρ1 => We tb ρ1 fun y ρ2 => ∀ L, nx ((ρ2.set i (.res (own L d))).set j (.val y))) : Ws F G0 (tPar i j (tCons ta (tCons tb tNil))) ρ ⟨nx, rt, bk, ct⟩ := fun G H σ s D q1 q2 q3 q4 =>
  h F G0 G H σ s _ fun v d L ρ1 G1 H1 s1 g1 r n ap q =>
    q _ _ _ _ _ (s1.holdM (M := L) (fun a ha => (n a ha).2) ap) _ fun u y ρ2 G2 H2 s2 g2 r2 k => by
      obtain ⟨s3, e3, n3, ap3⟩ := s2.unholdM fun a ha => ⟨(n a ha).1, none_of s1.g0 (n a ha).2, r.live a ha⟩
      refine ⟨_, _, rfl, q1 _ _ G2 H2 (Sta.setV (s3.setR (v := v) (r := own L d) (r.mono g2 e3) (fun a ha => ⟨(n a ha).1, n3 a ha, by rw [e3 a ha]; exact r.live a ha⟩) (fun j x _ e a ha hb => ap3 j x e a ha hb)) r2) (g1.trans g2) (k L)⟩
/-- only data stays to be seen -/
def seen : Slot → Slot
  | .res _ => .any
  | x => x
theorem Sta.lend {F G0 G H : Hp} {σ : L2.St} {i : Nat} {L : List Addr} {d : PyData} (s : Sta F G0 G H σ ρ) (h : ρ[i]? = some (.res (own L d))) : Sta H (frz G H L) (frz G H L) H σ ((ρ.map seen).set i (.val d)) ∧ Same G (frz G H L) := by
  obtain ⟨v, e, r, n⟩ := s.getR h
  have r : Tr G H v d L := r
  have n : ∀ a ∈ L, F a = none ∧ G a = none ∧ H a ≠ none := n
  have hi : i < ρ.length := (List.getElem?_eq_some_iff.mp h).1
  have sm : Same G (frz G H L) := frz_same fun a ha => (n a ha).2.1
  have fp0 : ∀ (j : Nat) (x : Slot), ((ρ.map seen).set i (.val d))[j]? = some x → x.fp = [] := fun j x ej => by
    by_cases hj : i = j
    · subst hj
      rw [List.getElem?_set_self (by rw [List.length_map]; exact hi)] at ej
      cases ej
      rfl
    · rw [List.getElem?_set_ne hj, List.getElem?_map] at ej
      cases q : ρ[j]? with
      | none => rw [q] at ej; cases ej
      | some y =>
        rw [q] at ej
        obtain rfl := Option.some.inj ej
        cases y <;> rfl
  refine ⟨⟨Same.refl H, frz_le s.gh, Same.refl _, fun a o e _ => e, by rw [List.length_set, List.length_map, s.len], fun j x ej => ?_, fun j k x y _ e1 _ a ha _ => ?_⟩, sm⟩
  · by_cases hj : i = j
    · subst hj
      rw [List.getElem?_set_self (by rw [List.length_map]; exact hi)] at ej
      cases ej
      exact ⟨v, by rw [e]; rfl, r.rp (fun a ha => (n a ha).2.1) fun _ h => h⟩
    · rw [List.getElem?_set_ne hj, List.getElem?_map] at ej
      cases q : ρ[j]? with
      | none => rw [q] at ej; cases ej
      | some y =>
        rw [q] at ej
        obtain rfl := Option.some.inj ej
        have z := s.slot j y q
        cases y with
        | any => trivial
        | res r => trivial
        | val d' =>
          obtain ⟨v', e', r'⟩ := z
          exact ⟨v', e', r'.mono sm⟩
  · rw [fp0 j x e1] at ha
    cases ha
/-- something of nobody's is looked at as data; the answer is flat -/
theorem we_lend {i : Nat} {L : List Addr} {d : PyData} (h : ρ[i]? = some (.res (own L d))) (q : We te ((ρ.map seen).set i (.val d)) fun d' _ => flat d' = true ∧ Φ d' ρ) : We te ρ Φ := fun F G0 G H σ s Q k => by
  obtain ⟨s1, sm⟩ := s.lend h
  exact q _ _ _ _ σ s1 Q fun v d' ρ' G' H' s' g r ⟨hf, p⟩ => k v d' ρ G H' (s.grow ⟨Same.refl G, s'.fh, s.gh.trans s'.fh, fun _ _ e _ => e⟩) (Same.refl G) (r.flat hf) p
theorem wt_lend {i : Nat} {L : List Addr} {d : PyData} (h : ρ[i]? = some (.res (own L d))) (q : Wt tt ((ρ.map seen).set i (.val d)) fun b _ => Φb b ρ) : Wt tt ρ Φb := fun F G0 G H σ s Q k => by
  obtain ⟨s1, sm⟩ := s.lend h
  exact q _ _ _ _ σ s1 Q fun b ρ' G' H' s' g p => k b ρ G H' (s.grow ⟨Same.refl G, s'.fh, s.gh.trans s'.fh, fun _ _ e _ => e⟩) (Same.refl G) p
end
end Dv

namespace Dv
open PySem L2
/-! ### something of nobody's is spoilt: each list in it gets one more item -/
def endsSp (ds : List PyData) : Bool := match ds.getLast? with
  | some (.str x) => x == "spoilt"
  | _ => false
mutual
def clean : PyData → Bool
  | .list ds => !endsSp ds && (decide (ds.length < 90000) && cleanA ds)
  | .tuple ds => decide (ds.length < 90000) && cleanA ds
  | .dict _ => false
  | .str x => decide (x.length < 90000) && x.cps.toList.all fun c => decide (c < 128)
  | _ => true
def cleanA : List PyData → Bool
  | [] => true
  | d :: ds => clean d && cleanA ds
end
theorem cleanA_all {ds : List PyData} : cleanA ds = ds.all clean := by
  induction ds with
  | nil => rfl
  | cons d ds ih => simp [cleanA, ih]
/-- growing, but for what lies at L -/
structure GrowL (L : List Addr) (G H G' H' : Hp) : Prop where
  g : Same G G'
  h : ∀ a o, a ∉ L → H a = some o → H' a = some o
  gh : Same G' H'
  new : ∀ a o, a ∉ L → G' a = some o → H a ≠ none → G a = some o
def SpS (n : Nat) : Sp := fun vs H Q _ => ∃ G v d L, vs = [v] ∧ Same G H ∧ Tr G H v d L ∧ (∀ a ∈ L, G a = none) ∧ clean d = true ∧ d.depth < n ∧ ∀ G' H', GrowL L G H G' H' → Q (.bl true) H'
theorem sps_len {n : Nat} : ∀ vs H Q E, SpS n vs H Q E → vs.length = 1 := fun vs H Q E ⟨G, v, d, L, e, _⟩ => by rw [e]; rfl
def delM (H : Hp) (L : List Addr) : Hp := fun a => if a ∈ L then none else H a
theorem delM_in {H : Hp} {L : List Addr} {a : Addr} (h : a ∈ L) : delM H L a = none := if_pos h
theorem delM_out {H : Hp} {L : List Addr} {a : Addr} (h : a ∉ L) : delM H L a = H a := if_neg h
def rawX (a : Addr) (xs : List V) : Res where
  fp := [a]
  ok := fun _ H v => v = .ref a ∧ H a = some (.lst xs)
  mono := by
    rintro G H G' H' v ⟨e, h1⟩ g k
    exact ⟨e, (k a List.mem_cons_self).trans h1⟩
section
variable {F G0 G H G' H' : Hp} {σ : L2.St} {ρ : Rho} {L : List Addr}
theorem Sta.growL (s : Sta F G0 G H σ ρ) (w : GrowL L G H G' H') (n : ∀ a ∈ L, F a = none ∧ G a = none) (ap : ∀ (j : Nat) (x : Slot), ρ[j]? = some x → ∀ a ∈ x.fp, a ∉ L) : Sta F G0 G' H' σ ρ where
  fh := fun a o e => w.h a o (fun z => by rw [(n a z).1] at e; cases e) (s.fh a o e)
  gh := w.gh
  g0 := s.g0.trans w.g
  new := fun a o e nF => s.new a o (w.new a o (fun z => nF (n a z).1) e (by
    cases q : F a with
    | none => exact absurd q nF
    | some u => rw [s.fh a u q]; simp)) nF
  len := s.len
  slot := fun i x e => by
    have q := s.slot i x e
    cases x with
    | any => trivial
    | val d =>
      obtain ⟨v, e', r⟩ := q
      exact ⟨v, e', r.mono w.g⟩
    | res r =>
      obtain ⟨v, e', k, n'⟩ := q
      have hh : ∀ a ∈ r.fp, H' a = H a := fun a ha => by
        cases z : H a with
        | none => exact absurd z (n' a ha).2.2
        | some u => exact w.h a u (ap i _ e a ha) z
      refine ⟨v, e', r.mono k w.g hh, fun a ha => ⟨(n' a ha).1, ?_, by rw [hh a ha]; exact (n' a ha).2.2⟩⟩
      cases z : G' a with
      | none => rfl
      | some u => rw [← w.new a u (ap i _ e a ha) z (n' a ha).2.2]; exact (n' a ha).2.1
  apart := s.apart
theorem wipeR_fp {vs : List Nat} {j : Nat} {x : Slot} {a : Addr} (h : ∀ (j : Nat) (x : Slot), ρ[j]? = some x → a ∉ x.fp) (e : (wipeR ρ vs)[j]? = some x) : a ∉ x.fp := by
  rcases wipeR_get e with e | rfl
  · exact h j x e
  · intro z
    cases z
theorem mergeR_fp {vs : List Nat} {ρ1 : Rho} {j : Nat} {x : Slot} {a : Addr} (h : ∀ (j : Nat) (x : Slot), ρ[j]? = some x → a ∉ x.fp) (e : (mergeR ρ1 ρ vs)[j]? = some x) : a ∉ x.fp := by
  rcases mergeR_get e with ⟨_, e⟩ | rfl
  · exact h j x e
  · rw [keepV_fp]
    intro z
    cases z
theorem rpa_rep {n : Nat} : RpA G (List.replicate n (.bl true)) (List.replicate n (.bool true)) := by
  induction n with
  | zero => exact .nil
  | succ n ih => exact .cons (.bl true) ih
theorem spoil_loop {J : It} {xs : List V} {ds : List PyData} {n j : Nat} {D : Addr} {E : XK} {Q : VK} (s : Sta F G0 G H σ ρ) (hj : j < σ.length) (tr : TrA G H xs ds L) (nL : ∀ b ∈ L, F b = none ∧ G b = none)
    (ap : ∀ (k : Nat) (x : Slot), ρ[k]? = some x → ∀ a ∈ x.fp, a ∉ L)
    (hJ : ∀ G' H', Sta F G0 G' H' (L2.wipe σ [j]) (wipeR ρ [j]) → Same G G' → J.stop xs.length H' ∧ ∀ k x, xs[k]? = some x → J.go k H' ∧ ∀ y H'', J.yld k H' y H'' → H'' = H' ∧ y = x)
    (hc : ∀ d ∈ ds, clean d = true ∧ d.depth < n) (hl : ds.length < 100000) (nD : H D = none)
    (fin : ∀ G' H', Sta F G0 G' H' σ (mergeR ρ (wipeR ρ [j]) [j]) → Same G G' → H' D = some (.lst (List.replicate ds.length (.bl true))) → G' D = none → (∀ (k : Nat) (x : Slot), (mergeR ρ (wipeR ρ [j]) [j])[k]? = some x → D ∉ x.fp) → Q (.ref D) H') :
    ∃ W : Nat → Nat → Hp → Prop, (∃ m, W 0 m (L2.upd H D (.lst []))) ∧ ∀ i m H, W i m H →
      (J.stop i H ∧ Q (.ref D) H) ∨ (J.go i H ∧ ∃ Nx : Hp → Prop, (∀ H', Nx H' → ∃ m', m' < m ∧ W (i + 1) m' H') ∧ ∀ x H', J.yld i H x H' → gName j x (L2.wipe σ [j]) H' fun σ2 H2 => L2.wipe σ2 [j] = L2.wipe σ [j] ∧ tYes σ2 H2 fun b H3 =>
        if b = true then tCall (SpS n) [] E (tCons (tVar j) tNil) σ2 H3 fun y H4 => ∃ acc, H4 D = some (.lst acc) ∧ acc.length < sizeLine ∧ Nx (L2.upd H4 D (.lst (acc ++ [y]))) else Nx H3) := by
  have hlen := tr.len
  have nF : F D = none := none_of s.fh nD
  have DL : D ∉ L := fun z => tr.live D z nD
  have fp0 : ∀ (k : Nat) (x : Slot), (wipeR ρ [j])[k]? = some x → D ∉ x.fp := fun k x e => wipeR_fp (fun k x e => s.nofp nD k x e) e
  refine ⟨fun i m H' => m = xs.length - i ∧ i ≤ xs.length ∧ ∃ G' M, Sta F G0 G' H' (L2.wipe σ [j]) (wipeR ρ [j]) ∧ Same G G' ∧ H' D = some (.lst (List.replicate i (.bl true))) ∧ G' D = none ∧ TrA G' H' (xs.drop i) (ds.drop i) M ∧ (∀ b ∈ M, b ∈ L) ∧ (∀ b ∈ M, G' b = none),
    ⟨xs.length, by omega, Nat.zero_le _, G, L, (s.laid nD).wipe [j], Same.refl G, upd_same, none_of s.gh nD, ?_, fun _ h => h, fun b hb => (nL b hb).2⟩, ?_⟩
  · exact tr.mono (Same.refl G) fun a ha => upd_ne fun z => DL (by rw [← z]; exact ha)
  rintro i m H1 ⟨rfl, hi, G1, M, s1, g1, hD, nG1, tr1, sub, nM⟩
  obtain ⟨w1, w2⟩ := hJ G1 H1 s1 g1
  by_cases hlt : i < xs.length
  · have hlt2 : i < ds.length := by omega
    rw [List.drop_eq_getElem_cons hlt, List.drop_eq_getElem_cons hlt2] at tr1
    cases tr1 with
    | @cons _ _ _ _ L1 M1 t1 t2 dis =>
      obtain ⟨v1, v2⟩ := w2 i _ (List.getElem?_eq_getElem hlt)
      refine .inr ⟨v1, fun H2 => ∃ G' M, Sta F G0 G' H2 (L2.wipe σ [j]) (wipeR ρ [j]) ∧ Same G G' ∧ H2 D = some (.lst (List.replicate (i + 1) (.bl true))) ∧ G' D = none ∧ TrA G' H2 (xs.drop (i + 1)) (ds.drop (i + 1)) M ∧ (∀ b ∈ M, b ∈ L) ∧ (∀ b ∈ M, G' b = none),
        fun H2 q => ⟨xs.length - (i + 1), by omega, rfl, hlt, q⟩, fun x H2 y => ?_⟩
      obtain ⟨rfl, rfl⟩ := v2 x H2 y
      obtain ⟨c1, c2⟩ := hc ds[i] (List.getElem_mem hlt2)
      have D1 : D ∉ L1 := fun z => DL (sub D (List.mem_append_left _ z))
      refine ⟨by simp [L2.wipe], ?_⟩
      show tCall (SpS n) [] E (tCons (tVar j) tNil) _ H2 _
      refine ⟨xs[i], by simp [L2.wipe, hj], G1, xs[i], ds[i], L1, rfl, s1.gh, t1, fun a ha => nM a (List.mem_append_left _ ha), c1, c2, fun G2 H3 w => ?_⟩
      have nL1 : ∀ a ∈ L1, F a = none ∧ G1 a = none := fun a ha => ⟨(nL a (sub a (List.mem_append_left _ ha))).1, nM a (List.mem_append_left _ ha)⟩
      have ap1 : ∀ (k : Nat) (x : Slot), (wipeR ρ [j])[k]? = some x → ∀ a ∈ x.fp, a ∉ L1 := fun k x e a hx ha => wipeR_fp (a := a) (fun k x e hx => ap k x e a hx (sub a (List.mem_append_left _ ha))) e hx
      have s3 := s1.growL w nL1 ap1
      have nG2 : G2 D = none := by
        cases z : G2 D with
        | none => rfl
        | some u => rw [w.new D u D1 z (by rw [hD]; simp)] at nG1; cases nG1
      have hD3 : H3 D = some (.lst (List.replicate i (.bl true))) := w.h D _ D1 hD
      refine ⟨List.replicate i (.bl true), hD3, by rw [List.length_replicate]; exact szs (by omega), G2, M1, s3.put nF nG2 fp0, g1.trans w.g, ?_, nG2, ?_, fun b hb => sub b (List.mem_append_right _ hb), fun b hb => ?_⟩
      · rw [upd_same, List.replicate_succ']
      · refine t2.mono w.g fun a ha => ?_
        have na : a ∉ L1 := fun z => dis a z ha
        rw [upd_ne fun z => DL (by rw [← z]; exact sub a (List.mem_append_right _ ha))]
        cases z : H2 a with
        | none => exact absurd z (t2.live a ha)
        | some u => exact w.h a u na z
      · have nb : b ∉ L1 := fun z => dis b z hb
        cases z : G2 b with
        | none => rfl
        | some u =>
          have := nM b (List.mem_append_right _ hb)
          rw [w.new b u nb z (t2.live b hb)] at this
          cases this
  · have e : i = xs.length := by omega
    subst e
    refine .inl ⟨w1, fin G1 H1 (s1.merge s g1) g1 (by rw [← hlen]; exact hD) nG1 fun k x e => mergeR_fp (fun k x e => fp0 k x e) e⟩
end
section
variable {ρ : Rho} {K : PySem.W.Frag} {i j n : Nat} {E : XK} {L : List Addr} {ds : List PyData} {Φ : List PyData → Rho → Prop}
theorem own_at {F G0 G H : Hp} {σ : L2.St} {d : PyData} (s : Sta F G0 G H σ ρ) (h : ρ[i]? = some (.res (own L d))) : ∃ v, σ[i]? = some (some v) ∧ Tr G H v d L ∧ (∀ a ∈ L, F a = none ∧ G a = none) ∧ ∀ (k : Nat) (x : Slot), (ρ.set i .any)[k]? = some x → ∀ a ∈ x.fp, a ∉ L := by
  obtain ⟨v, e, r, n⟩ := s.getR h
  refine ⟨v, e, r, fun a ha => ⟨(n a ha).1, (n a ha).2.1⟩, fun k x ek a hx ha => ?_⟩
  have hi : i < ρ.length := (List.getElem?_eq_some_iff.mp h).1
  by_cases hj : i = k
  · subst hj
    rw [List.getElem?_set_self hi] at ek
    cases ek
    cases hx
  · rw [List.getElem?_set_ne hj] at ek
    rcases Nat.lt_or_ge i k with hl | hl
    · exact s.apart i k _ _ hl h ek a ha hx
    · exact s.apart k i _ _ (by omega) ek h a hx ha
theorem wn_spoilT (h : ρ[i]? = some (.res (own L (.tuple ds)))) (hj : j < ρ.length) (hc : ∀ d ∈ ds, clean d = true ∧ d.depth < n) (hl : ds.length < 100000) (q : Φ (List.replicate ds.length (.bool true)) (mergeR (ρ.set i .any) (wipeR (ρ.set i .any) [j]) [j])) :
    Wn (tLc (iTup K (tVar i)) (gName j) tYes (tCall (SpS n) [] E (tCons (tVar j) tNil)) [j]) ρ Φ := fun F G0 G H σ s Q k => by
  obtain ⟨v, e, r, nL, ap⟩ := own_at s h
  cases r with
  | flt r f => cases f
  | @tup a xs _ _ h1 h2 =>
    refine ⟨_, e, a, rfl, ⟨xs, .inl (.inl (s.gh _ _ h1))⟩, fun D nD => ?_⟩
    refine spoil_loop (s.forget i) (by rw [s.len]; exact hj) h2 nL ap (fun G' H' s' g' => ?_) hc hl nD fun G' H' s' g' hD nG fp => k D _ _ _ G' H' s' g' hD rpa_rep (none_of s.fh nD) nG fp q
    have hq : SqT K H' a xs := .inl (.inl (s'.gh _ _ (g' _ _ h1)))
    refine ⟨⟨xs, hq, Nat.le_refl _⟩, fun k x ex => ⟨⟨xs, x, hq, ex⟩, fun y H'' z => ?_⟩⟩
    obtain ⟨eH, z⟩ := z
    have z1 := z xs hq
    rw [ex] at z1
    exact ⟨eH, (Option.some.inj z1).symm⟩
theorem wn_spoilL (h : ρ[i]? = some (.res (own L (.list ds)))) (hj : j < ρ.length) (hij : i ≠ j) (hc : ∀ d ∈ ds, clean d = true ∧ d.depth < n) (hl : ds.length < 100000) (q : ∀ a xs, xs.length = ds.length → Φ (List.replicate ds.length (.bool true)) (mergeR (ρ.set i (.res (rawX a xs))) (wipeR (ρ.set i (.res (rawX a xs))) [j]) [j])) :
    Wn (tLc (iList K (tVar i)) (gName j) tYes (tCall (SpS n) [] E (tCons (tVar j) tNil)) [j]) ρ Φ := fun F G0 G H σ s Q k => by
  obtain ⟨v, e, r, nL, ap⟩ := own_at s h
  have hi : i < ρ.length := (List.getElem?_eq_some_iff.mp h).1
  cases r with
  | flt r f => cases f
  | @lst a xs _ L' h1 h2 h3 =>
    refine ⟨_, e, a, rfl, ⟨xs, .inl (.inl h1)⟩, fun D nD => ?_⟩
    have nA := nL a List.mem_cons_self
    have s1 : Sta F G0 G H σ (ρ.set i (.res (rawX a xs))) := by
      have s0 := (s.forget i).setR (i := i) (v := .ref a) (r := rawX a xs) ⟨rfl, h1⟩ (fun b hb => by
        have e' : b = a := List.mem_singleton.mp hb
        subst e'
        exact ⟨nA.1, nA.2, by rw [h1]; simp⟩) (fun k x _ ek b hb hb2 => ap k x ek b hb (by
          rw [show b = a from List.mem_singleton.mp hb2]
          exact List.mem_cons_self))
      have eσ : σ.set i (some (.ref a)) = σ := by
        have hl : i < σ.length := by rw [s.len]; exact hi
        have e2 := e
        rw [List.getElem?_eq_getElem hl] at e2
        rw [← Option.some.inj e2]
        exact List.set_getElem_self hl
      rw [eσ, List.set_set] at s0
      exact s0
    have ap1 : ∀ (k : Nat) (x : Slot), (ρ.set i (.res (rawX a xs)))[k]? = some x → ∀ b ∈ x.fp, b ∉ L' := fun k x ek b hx hb => by
      by_cases hk : i = k
      · subst hk
        rw [List.getElem?_set_self hi] at ek
        cases ek
        have e' : b = a := List.mem_singleton.mp hx
        exact h3 (e' ▸ hb)
      · rw [List.getElem?_set_ne hk] at ek
        exact ap k x (by rw [List.getElem?_set_ne hk]; exact ek) b hx (List.mem_cons_of_mem _ hb)
    refine spoil_loop s1 (by rw [s.len]; exact hj) h2 (fun b hb => nL b (List.mem_cons_of_mem _ hb)) ap1 (fun G' H' s' g' => ?_) hc hl nD fun G' H' s' g' hD nG fp => k D _ _ _ G' H' s' g' hD rpa_rep (none_of s.fh nD) nG fp (q a xs h2.len)
    have hs : (wipeR (ρ.set i (.res (rawX a xs))) [j])[i]? = some (.res (rawX a xs)) := by
      show ((ρ.set i (.res (rawX a xs))).set j .any)[i]? = _
      rw [List.getElem?_set_ne (fun z => hij z.symm), List.getElem?_set_self hi]
    obtain ⟨v', e', ⟨_, hx⟩, _⟩ := s'.getR hs
    have hq : SqL K H' a xs := .inl (.inl hx)
    refine ⟨⟨xs, hq, Nat.le_refl _⟩, fun k x ex => ⟨⟨xs, x, hq, ex⟩, fun y H'' z => ?_⟩⟩
    obtain ⟨eH, z⟩ := z
    have z1 := z xs hq
    rw [ex] at z1
    exact ⟨eH, (Option.some.inj z1).symm⟩
/-- a list that was walked gets one more item, and is forgotten -/
theorem q_appX {F G0 : Hp} {te : TE} {nx bk ct : Rho → Prop} {rt : PyData → Rho → Prop} {a : Addr} {xs : List V} (h0 : ρ[i]? = some (.res (rawX a xs))) (hx : xs.length < 100000) (h : We te ρ fun _ ρ1 => ρ1 = ρ ∧ nx (ρ.set i .any)) : Ws F G0 (tDrop (tBM K "list" rAppend (tVar i) (tCons te tNil))) ρ ⟨nx, rt, bk, ct⟩ := fun G H σ s D q1 q2 q3 q4 => by
  obtain ⟨v, e, ⟨rfl, hp0⟩, _⟩ := s.getR h0
  refine ⟨_, e, .inl ⟨rfl, xs, .inl (.inl hp0)⟩, h F G0 G H σ s _ fun u d ρ1 G1 H1 s1 g1 r1 ⟨e1, k2⟩ => ?_⟩
  subst e1
  obtain ⟨v1, e1, ⟨rfl, hp⟩, n⟩ := s1.getR h0
  obtain ⟨nF, nG, _⟩ := n a List.mem_cons_self
  have hi : i < ρ1.length := (List.getElem?_eq_some_iff.mp h0).1
  refine ⟨a, xs, u, rfl, rfl, hp, szs hx, q1 _ _ G1 _ ((s1.forget i).put nF nG fun k x ek hx => ?_) g1 k2⟩
  by_cases hk : i = k
  · subst hk
    rw [List.getElem?_set_self hi] at ek
    cases ek
    cases hx
  · rw [List.getElem?_set_ne hk] at ek
    rcases Nat.lt_or_ge i k with hl | hl
    · exact s1.apart i k _ _ hl h0 ek a List.mem_cons_self hx
    · exact s1.apart k i _ _ (by omega) ek h0 a hx List.mem_cons_self
/-- the call -/
theorem we_spoilt {d : PyData} {Φ : PyData → Rho → Prop} (h : ρ[i]? = some (.res (own L d))) (hc : clean d = true) (hd : d.depth < n) (q : Φ (.bool true) (ρ.set i .any)) : We (tCall (SpS n) [] E (tCons (tVar i) tNil)) ρ Φ := fun F G0 G H σ s Q k => by
  obtain ⟨v, e, r, nL, ap⟩ := own_at s h
  exact ⟨v, e, G, v, d, L, rfl, s.gh, r, fun a ha => (nL a ha).2, hc, hd, fun G' H' w => k _ _ _ G' H' ((s.forget i).growL w nL ap) w.g (.bl true) q⟩
theorem fn_s {t : TS} {N : List Str} (hN : 1 ≤ N.length) (h : ∀ F G0 L d, clean d = true → d.depth < n → Ws F G0 t (slotsZ N.length (own L d) []) { nx := fun _ => False, rt := fun d' _ => d' = .bool true }) {vs : List V} {H : Hp} {Q : VK} {E : XK} (hs : SpS n vs H Q E) : t { nx := fun _ H' => Q .non H', rt := Q } (L2.start N vs) H := by
  obtain ⟨G, v, d, L, rfl, s, r, nL, hc, hd, k⟩ := hs
  have st : Sta (delM H L) G G H (L2.start N [v]) (slotsZ N.length (own L d) []) := by
    refine ⟨fun a o e => ?_, s, Same.refl G, fun a o e _ => e, ?_, fun i x e => ?_, fun i j x y hij e1 e2 a ha hb => ?_⟩
    · by_cases ha : a ∈ L
      · rw [delM_in ha] at e
        cases e
      · rw [delM_out ha] at e
        exact e
    · unfold L2.start slotsZ slots0
      simp
    · cases i with
      | zero =>
        simp only [slotsZ, List.getElem?_cons_zero, Option.some.injEq] at e
        subst e
        exact ⟨v, rfl, r, fun a ha => ⟨delM_in ha, nL a ha, r.live a ha⟩⟩
      | succ i =>
        simp only [slotsZ, List.getElem?_cons_succ] at e
        rcases slots0_get e with ⟨d, rfl, h⟩ | rfl
        · cases h
        · trivial
    · cases j with
      | zero => omega
      | succ j =>
        simp only [slotsZ, List.getElem?_cons_succ] at e2
        rcases slots0_get e2 with ⟨d, rfl, h⟩ | rfl
        · cases hb
        · cases hb
  refine h _ G L d hc hd G H _ st _ (fun _ _ _ _ _ _ z => z.elim) (fun v d' σ' ρ' G' H' s' g r' q => ?_) (fun _ _ _ _ _ _ z => z.elim) (fun _ _ _ _ _ _ z => z.elim)
  subst q
  cases r'
  refine k G' H' ⟨g, fun a o ha e => s'.fh a o (by rw [delM_out ha]; exact e), s'.gh, fun a o ha e n => s'.new a o e (by rw [delM_out ha]; exact n)⟩
end
end Dv

namespace Dv
open PySem L2 Zx
theorem RpA.of_getI {H : Hp} : ∀ {vs : List V} {ds : List PyData}, vs.length = ds.length → (∀ (i : Nat) v d, vs[i]? = some v → ds[i]? = some d → Rp H v d) → RpA H vs ds
  | [], [], _, _ => .nil
  | v :: vs, d :: ds, hl, h => .cons (h 0 v d rfl rfl) (RpA.of_getI (by simpa using hl) fun i v d e1 e2 => h (i + 1) v d (by simpa using e1) (by simpa using e2))
/-- what can be zipped -/
def SeqD (x : PyData) (xs : List PyData) : Prop := x = .list xs ∨ x = .tuple xs ∨ ∃ z, x = .str z ∧ z.length ≤ 100000 ∧ xs = signs z
theorem rpa_signs {G : Hp} {z : Str} : RpA G (signV z) (signs z) := by
  unfold signV signs
  induction z.cps.toList with
  | nil => exact .nil
  | cons c r ih => exact .cons (.str _) ih
theorem seq_src {K : PySem.W.Frag} {G H : Hp} {v : V} {x : PyData} {xs : List PyData} (s : Same G H) (r : Rp G v x) (h : SeqD x xs) : ∃ vs, Src K H v vs ∧ RpA G vs xs ∧ ∀ z, v = .str z → z.cps.size ≤ sizeLine := by
  rcases h with rfl | rfl | ⟨z, rfl, hz, rfl⟩
  · cases r with
    | lst h1 h2 => exact ⟨_, .inl ⟨_, rfl, .inl (.inl (s _ _ h1))⟩, h2, fun z e => nomatch e⟩
  · cases r with
    | tup h1 h2 => exact ⟨_, .inr (.inl ⟨_, rfl, .inl (.inl (s _ _ h1))⟩), h2, fun z e => nomatch e⟩
  · cases r
    refine ⟨_, .inr (.inr ⟨z, rfl, rfl⟩), rpa_signs, fun z' e => ?_⟩
    cases e
    exact szl hz
section
variable {te ta tb tc : TE} {tt tu : TT} {tas : TA} {ρ : Rho} {K : PySem.W.Frag} {g tg tg1 : TG} {wi wi1 : TI} {Φ : PyData → Rho → Prop}
/-- list(zip(a, b)) -/
theorem wn_listZp {Φ : List PyData → Rho → Prop} (h : Wa tas ρ fun ds ρ1 => ∃ x y xs ys, ds = [x, y] ∧ SeqD x xs ∧ SeqD y ys ∧ Φ (pairs xs ys) ρ1) : Wn (tLstZp (tZp K tas)) ρ Φ := fun F G0 G H σ s Q k =>
  h F G0 G H σ s _ fun vs ds ρ1 G1 H1 s1 g1 r1 ⟨x, y, xs, ys, e, h1, h2, q⟩ => by
    subst e
    cases r1 with
    | cons ra rb =>
      cases rb with
      | cons rb rc =>
        cases rc
        obtain ⟨us, c1, c2, c3⟩ := seq_src (K := K) s1.gh ra h1
        obtain ⟨ws, d1, d2, d3⟩ := seq_src (K := K) s1.gh rb h2
        refine ⟨_, _, us, ws, rfl, c1, d1, c3, d3, fun D H' Ts ext nD hD hl hp hT => ?_⟩
        have nT : ∀ a ∈ Ts, G1 a = none := fun a ha => none_of s1.gh (hT a ha)
        have gr : Grow G1 H1 (frz G1 H' Ts) H' := ⟨frz_same nT, ext, frz_le (s1.gh.trans ext), fun a o e n => by
          by_cases ha : a ∈ Ts
          · exact absurd (hT a ha) n
          · rw [frz_out ha] at e
            exact e⟩
        have l1 := c2.len
        have l2 := d2.len
        have nDT : D ∉ Ts := fun hm => by
          obtain ⟨j, hj, e⟩ := List.getElem_of_mem hm
          exact (hp j D (by rw [List.getElem?_eq_getElem hj, e])).1 rfl
        refine k D (Ts.map V.ref) (pairs xs ys) ρ1 _ H' (s1.grow gr) (g1.trans gr.g) hD (RpA.of_getI ?_ fun i v d e1 e2 => ?_) (none_of s1.fh nD) (by rw [frz_out nDT]; exact none_of s1.gh nD) (s1.nofp nD) q
        · rw [List.length_map, hl]
          simp [pairs]
          omega
        · rw [List.getElem?_map] at e1
          cases eT : Ts[i]? with
          | none => rw [eT] at e1; cases e1
          | some T =>
            rw [eT] at e1
            obtain rfl := (Option.some.inj e1).symm
            obtain ⟨_, u, w, e3, e4, e5⟩ := hp i T eT
            obtain ⟨du, e6, r6⟩ := c2.getV e3
            obtain ⟨dw, e7, r7⟩ := d2.getV e4
            unfold pairs at e2
            rw [List.getElem?_zipWith, e6, e7] at e2
            obtain rfl := (Option.some.inj e2).symm
            have hm : T ∈ Ts := List.mem_of_getElem? eT
            exact .tup (by rw [frz_in hm]; exact e5) (.cons (r6.mono gr.g) (.cons (r7.mono gr.g) .nil))
/-- enumerate(zip(text, text)) -/
theorem wi_enumZip {Φ : List PyData → Rho → Prop} (h : Wa tas ρ fun ds ρ1 => ∃ a b, ds = [.str a, .str b] ∧ Φ (enumd (pairs (signs a) (signs b))) ρ1) : Wi (iEnumZip tas) ρ Φ := fun F G0 G H σ s R k =>
  h F G0 G H σ s _ fun vs ds ρ1 G1 H1 s1 g1 r1 ⟨a, b, e, q⟩ => by
    subst e
    cases r1 with
    | cons ra rb =>
      cases rb with
      | cons rb rc =>
        cases rc
        cases ra
        cases rb
        refine ⟨a, b, rfl, k _ _ ρ1 G1 H1 s1 g1 (fun G2 H2 s2 s3 => ?_) q⟩
        have la : (signV a).length = (signs a).length := by simp [signV, signs]
        have lb : (signV b).length = (signs b).length := by simp [signV, signs]
        have hl : (enumd (pairs (signs a) (signs b))).length = min (signs a).length (signs b).length := by simp [enumd, pairs, inz_len]
        refine ⟨?_, fun i d e => ?_⟩
        · rw [hl]
          show _ = _ ∧ _ ≤ _ ∨ _ = _ ∧ _ ≤ _
          omega
        · have hi : i < min (signs a).length (signs b).length := by
            rw [← hl]
            exact (List.getElem?_eq_some_iff.mp e).1
          refine ⟨⟨by omega, by omega⟩, fun v H' y => ?_⟩
          obtain ⟨T, U, x, y', rfl, nT, nU, hUT, rfl, e1, e2⟩ := y
          have r1 : RpA G2 (signV a) (signs a) := rpa_signs
          have r2 : RpA G2 (signV b) (signs b) := rpa_signs
          obtain ⟨dx, e3, r3⟩ := r1.getV e1
          obtain ⟨dy, e4, r4⟩ := r2.getV e2
          have ed : d = .tuple [.int (i : Int), .tuple [dx, dy]] := by
            unfold enumd at e
            rw [List.getElem?_zipWith] at e
            have hp : (pairs (signs a) (signs b))[i]? = some (.tuple [dx, dy]) := by
              unfold pairs
              rw [List.getElem?_zipWith, e3, e4]
            have hz : (inz 0 (pairs (signs a) (signs b)).length)[i]? = some (.int (i : Int)) := by
              unfold inz
              rw [List.getElem?_map, List.getElem?_range (by simp [pairs]; omega)]
              simp
            rw [hp, hz] at e
            exact (Option.some.inj e).symm
          subst ed
          obtain ⟨gr1, rT⟩ := grow_pair s3 nT r3 r4
          have nU' : L2.upd H2 T (.tup [x, y']) U = none := by rw [upd_ne hUT]; exact nU
          obtain ⟨gr2, rU⟩ := grow_pair (x := .int (i : Nat)) (y := .ref T) gr1.gh nU' (.int _) rT
          exact ⟨_, gr1.trans gr2, rU⟩
theorem rpa_pick {H : Hp} {vs : List V} {ds : List PyData} (h : RpA H vs ds) (lo hi st : Option Int) : RpA H (pick vs lo hi st) (pick ds lo hi st) := by
  unfold pick
  rw [h.len]
  exact rpa_pair (filterMap_rel (rpa_at h) _)
/-- xs[a:b:c] -/
theorem we_slSt {tl th ts : L2.TO} (h : We te ρ fun x ρ1 => Wo tl ρ1 fun lo ρ2 => Wo th ρ2 fun hi ρ3 => Wo ts ρ3 fun st ρ4 => ∃ ds c, x = .list ds ∧ st = some c ∧ c ≠ 0 ∧ (pick ds lo hi (some c)).length ≤ 100000 ∧ Φ (.list (pick ds lo hi (some c))) ρ4) : We (tSlS K te tl th ts) ρ Φ := fun F G0 G H σ s Q k =>
  h F G0 G H σ s _ fun v x ρ1 G1 H1 s1 g1 r1 p1 => p1 F G0 G1 H1 σ s1 _ fun lo ρ2 G2 H2 s2 g2 p2 => p2 F G0 G2 H2 σ s2 _ fun hi ρ3 G3 H3 s3 g3 p3 => p3 F G0 G3 H3 σ s3 _ fun st ρ4 G4 H4 s4 g4 ⟨ds, c, ex, es, hc, hl, q⟩ => by
    subst ex es
    cases r1 with
    | @lst a xs _ h1 h2 =>
      have m := (g2.trans g3).trans g4
      have rp := rpa_pick (h2.mono m) lo hi (some c)
      refine ⟨_, _, c, rfl, rfl, hc, .inl (.inl (s4.gh _ _ (m _ _ h1))), by rw [rp.len]; exact szl hl, fun p hp => ?_⟩
      have ng := none_of s4.gh hp
      exact k _ _ ρ4 (L2.upd G4 p (.lst (pick xs lo hi (some c)))) _ (s4.grow (.laid s4.gh hp)) ((g1.trans m).trans (same_upd ng)) (.lst upd_same (rp.mono (same_upd ng))) q
/-- s.ljust(n, sign) -/
theorem we_ljust (h : We ta ρ fun x ρ1 => ∃ z, x = .str z ∧ Wa tas ρ1 fun ds ρ2 => ∃ i f, ds = [.int i, .str f] ∧ PadOk i = true ∧ f.length = 1 ∧ Φ (.str (Txt.ljustF z i (f.cps.getD 0 0))) ρ2) : We (tBM K "str" rLjF ta tas) ρ Φ := fun F G0 G H σ s Q k =>
  h F G0 G H σ s _ fun v x ρ1 G1 H1 s1 g1 r1 ⟨z, e, p⟩ => by
    subst e
    cases r1
    refine ⟨rfl, p F G0 G1 H1 σ s1 _ fun vs ds ρ2 G2 H2 s2 g2 r2 ⟨i, f, e, hp, hf, q⟩ => ?_⟩
    subst e
    cases r2 with
    | cons ra rb =>
      cases rb with
      | cons rb rc =>
        cases rc
        cases ra
        cases rb
        exact ⟨z, f, i, rfl, rfl, hp, hf, k _ _ ρ2 G2 H2 s2 (g1.trans g2) (.str _) q⟩
theorem wipe_sub {σ : L2.St} {vs vs1 : List Nat} (h : ∀ k ∈ vs1, k ∈ vs) : L2.wipe (L2.wipe σ vs1) vs = L2.wipe σ vs := wipe_eq (wipe_length σ vs1) fun k hk => wipe_out fun z => hk (h k z)
/-- two walks in one comprehension, each item by itself -/
theorem wn_lc2 {α β : Type} {vs js vs1 js1 : List Nat} {Φ : List PyData → Rho → Prop} (hj : ∀ k ∈ js, k ∈ vs) (hj1 : ∀ k ∈ js1, k ∈ vs1) (hv : ∀ k ∈ vs1, k ∈ vs)
    (h : Wi wi ρ fun ds ρ1 => ∃ (zs : List α) (gz : α → PyData) (m : Nat) (ws : α → List β) (gw : α → β → PyData) (c : α → β → Bool) (f : α → β → PyData), ds = zs.map gz ∧ zs.length * m < 100000 ∧ (∀ a ∈ zs, (ws a).length ≤ m) ∧ mergeR ρ1 (wipeR ρ1 vs) vs = ρ1 ∧
      (∀ a, a ∈ zs → Wg tg js (gz a) (wipeR ρ1 vs) fun ρ2 => wipeR (wipeR ρ2 vs1) vs = wipeR ρ1 vs ∧ Wi wi1 ρ2 fun es ρ3 => ρ3 = ρ2 ∧ es = (ws a).map (gw a) ∧
        ∀ b, b ∈ ws a → Wg tg1 js1 (gw a b) (wipeR ρ2 vs1) fun ρ4 => wipeR ρ4 vs1 = wipeR ρ2 vs1 ∧ Wt tt ρ4 fun k ρ5 => ρ5 = ρ4 ∧ k = c a b ∧ (k = true → We te ρ4 fun y ρ6 => ρ6 = ρ4 ∧ y = f a b)) ∧
      Φ (zs.flatMap fun a => ((ws a).filter (c a)).map (f a)) ρ1) : Wn (tLc2 wi tg tYes wi1 tg1 tt te vs vs1) ρ Φ := fun F G0 G H σ s Q k =>
  h F G0 G H σ s _ fun J ds ρ1 G1 H1 s1 g1 wk ⟨zs, gz, m, ws, gw, c, f, hz, hlen, hws, hm, turn, fin⟩ => by
    intro D nD
    have nF : F D = none := none_of s1.fh nD
    have nG0 : G0 D = none := none_of s1.g0 (none_of s1.gh nD)
    have st0 : Sta F G0 G1 (L2.upd H1 D (.lst [])) (L2.wipe σ vs) (wipeR ρ1 vs) := (s1.laid nD).wipe vs
    have fp0 : ∀ (j : Nat) (x : Slot), (wipeR ρ1 vs)[j]? = some x → D ∉ x.fp := fun j x e => wipeR_fp (fun j x e => s1.nofp nD j x e) e
    have hds : ds.length = zs.length := by rw [hz, List.length_map]
    refine ⟨fun i n H' => n = zs.length - i ∧ i ≤ zs.length ∧ ∃ G' acc as, Sta F G0 G' H' (L2.wipe σ vs) (wipeR ρ1 vs) ∧ Same G1 G' ∧ H' D = some (.lst acc) ∧ RpA G' acc as ∧ G' D = none ∧ as = (zs.take i).flatMap (fun a => ((ws a).filter (c a)).map (f a)) ∧ as.length ≤ i * m,
      ⟨zs.length, by omega, Nat.zero_le _, G1, [], [], st0, Same.refl G1, upd_same, .nil, none_of s1.gh nD, rfl, by simp⟩, ?_⟩
    rintro i n H' ⟨rfl, hi, G', acc, as, s', g', hD, ra, nG, eas, hal⟩
    obtain ⟨w1, w2⟩ := wk G' H' g' s'.gh
    by_cases hlt : i < zs.length
    · have ed : ds[i]? = some (gz zs[i]) := by rw [hz, List.getElem?_map, List.getElem?_eq_getElem hlt]; rfl
      obtain ⟨v1, v2⟩ := w2 i _ ed
      have hmem : zs[i] ∈ zs := List.getElem_mem hlt
      generalize ea : zs[i] = a at hmem
      have et : zs.take (i + 1) = zs.take i ++ [a] := by rw [List.take_add_one, List.getElem?_eq_getElem hlt, ea]; rfl
      refine .inr ⟨v1, fun H2 => ∃ G2 acc as, Sta F G0 G2 H2 (L2.wipe σ vs) (wipeR ρ1 vs) ∧ Same G1 G2 ∧ H2 D = some (.lst acc) ∧ RpA G2 acc as ∧ G2 D = none ∧ as = (zs.take (i + 1)).flatMap (fun a => ((ws a).filter (c a)).map (f a)) ∧ as.length ≤ (i + 1) * m,
        fun H2 q => ⟨zs.length - (i + 1), by omega, rfl, hlt, q⟩, fun x H2 y => ?_⟩
      obtain ⟨G3, gr, rx⟩ := v2 x H2 y
      rw [ea] at rx
      have s3 := (s'.hold hD nF nG fp0).grow gr
      refine turn a hmem (L2.upd F D (.lst acc)) G0 G3 H2 (L2.wipe σ vs) x s3 rx _ fun σ4 ρ4 s4 e4 ⟨hw, p4⟩ => ?_
      have el : σ4.length = (L2.wipe σ vs).length := e4.1
      have ew : L2.wipe σ4 vs = L2.wipe σ vs := by
        rw [← wipe_wipe (σ := σ)]
        exact wipe_eq el fun k hk => e4.2 k fun z => hk (hj k z)
      refine ⟨ew, ?_⟩
      show wi1 σ4 H2 _
      refine p4 _ _ _ _ _ s4 _ fun J1 es ρ5 G5 H5 s5 g5 wk1 ⟨eρ, ees, turn1⟩ => ?_
      subst eρ ees
      obtain ⟨s6, hD6, nG6, fp6⟩ := s5.unhold nF nG0
      have fp7 : ∀ (j : Nat) (x : Slot), (wipeR ρ5 vs1)[j]? = some x → D ∉ x.fp := fun j x e => wipeR_fp fp6 e
      have hwa := hws a hmem
      refine ⟨fun j n H' => n = (ws a).length - j ∧ j ≤ (ws a).length ∧ ∃ G' acc' as', Sta F G0 G' H' (L2.wipe σ4 vs1) (wipeR ρ5 vs1) ∧ Same G5 G' ∧ H' D = some (.lst acc') ∧ RpA G' acc' as' ∧ G' D = none ∧ as' = as ++ (((ws a).take j).filter (c a)).map (f a) ∧ as'.length ≤ i * m + j,
        ⟨(ws a).length, by omega, Nat.zero_le _, G5, acc, as, s6.wipe vs1, Same.refl G5, hD6, ra.mono (gr.g.trans g5), nG6, by simp, by omega⟩, ?_⟩
      rintro j n H7 ⟨rfl, hjl, G7, acc', as', s7, g7, hD7, ra7, nG7, eas', hal'⟩
      obtain ⟨u1, u2⟩ := wk1 G7 H7 g7 s7.gh
      rw [List.length_map] at u1
      by_cases hlt1 : j < (ws a).length
      · have ed1 : ((ws a).map (gw a))[j]? = some (gw a (ws a)[j]) := by rw [List.getElem?_map, List.getElem?_eq_getElem hlt1]; rfl
        obtain ⟨y1, y2⟩ := u2 j _ ed1
        have hmem1 : (ws a)[j] ∈ ws a := List.getElem_mem hlt1
        generalize eb : (ws a)[j] = b at hmem1
        have et1 : (ws a).take (j + 1) = (ws a).take j ++ [b] := by rw [List.take_add_one, List.getElem?_eq_getElem hlt1, eb]; rfl
        refine .inr ⟨y1, fun H2 => ∃ G' acc' as', Sta F G0 G' H2 (L2.wipe σ4 vs1) (wipeR ρ5 vs1) ∧ Same G5 G' ∧ H2 D = some (.lst acc') ∧ RpA G' acc' as' ∧ G' D = none ∧ as' = as ++ (((ws a).take (j + 1)).filter (c a)).map (f a) ∧ as'.length ≤ i * m + (j + 1),
          fun H2 q => ⟨(ws a).length - (j + 1), by omega, rfl, hlt1, q⟩, fun x1 H8 y3 => ?_⟩
        obtain ⟨G8, gr8, rx8⟩ := y2 x1 H8 y3
        rw [eb] at rx8
        have s8 := (s7.hold hD7 nF nG7 fp7).grow gr8
        refine turn1 b hmem1 (L2.upd F D (.lst acc')) G0 G8 H8 (L2.wipe σ4 vs1) x1 s8 rx8 _ fun σ9 ρ9 s9 e9 ⟨hw9, p9⟩ => ?_
        have ew9 : L2.wipe σ9 vs1 = L2.wipe σ4 vs1 := by
          rw [← wipe_wipe (σ := σ4)]
          exact wipe_eq e9.1 fun k hk => e9.2 k fun z => hk (hj1 k z)
        refine ⟨ew9, p9 _ _ _ _ _ s9 _ fun kb ρ10 G10 H10 s10 g10 ⟨eρ10, ekb, p10⟩ => ?_⟩
        subst eρ10
        cases kb with
        | true =>
          show te σ9 H10 _
          refine p10 rfl _ _ _ _ _ s10 _ fun u y ρ11 G11 H11 s11 g11 r11 ⟨eρ11, ey⟩ => ?_
          subst eρ11 ey
          obtain ⟨s12, hD12, nG12, fp12⟩ := s11.unhold nF nG0
          have ra12 := ra7.mono ((gr8.g.trans g10).trans g11)
          have hi1 : i * m + j < zs.length * m := by
            have h1 : (i + 1) * m ≤ zs.length * m := Nat.mul_le_mul_right m hlt
            rw [Nat.succ_mul] at h1
            omega
          refine ⟨acc', hD12, by rw [ra12.len]; exact szs (by omega), G11, acc' ++ [u], as' ++ [f a b], ?_, ((g7.trans gr8.g).trans g10).trans g11, upd_same, ra12.app (.one r11), nG12, ?_, by rw [List.length_append]; exact Nat.succ_le_succ hal'⟩
          · rw [← ew9, ← hw9]
            exact (s12.put nF nG12 fp12).wipe vs1
          · rw [eas', et1, List.filter_append, List.map_append, List.append_assoc, List.filter_cons, ← ekb]
            rfl
        | false =>
          show ∃ _, _
          obtain ⟨s12, hD12, nG12, fp12⟩ := s10.unhold nF nG0
          refine ⟨G10, acc', as', ?_, (g7.trans gr8.g).trans g10, hD12, ra7.mono (gr8.g.trans g10), nG12, ?_, by omega⟩
          · rw [← ew9, ← hw9]
            exact s12.wipe vs1
          · rw [eas', et1, List.filter_append, List.map_append, List.filter_cons, ← ekb]
            simp
      · have e : j = (ws a).length := by omega
        subst e
        refine .inl ⟨u1, G7, acc', as', ?_, ((g'.trans gr.g).trans g5).trans g7, hD7, ra7, nG7, ?_, by rw [Nat.succ_mul]; omega⟩
        · rw [← ew, ← wipe_sub hv, ← hw]
          exact s7.wipe vs
        · rw [eas', eas, et, List.take_length, List.flatMap_append]
          simp
    · have e : i = zs.length := by omega
      subst e
      rw [hds] at w1
      refine .inl ⟨w1, k D acc as (mergeR ρ1 (wipeR ρ1 vs) vs) G' H' (s'.merge s1 g') (g1.trans g') hD ra nF nG (fun j x e => mergeR_fp fp0 e) ?_⟩
      rw [hm, eas, List.take_length]
      exact fin
end
end Dv

namespace Dv
open PySem L2 Zx PyProof.Rows PySem.Spec
/-! ### rules with the written part by its name -/
section
variable {X : Cx} {K : PySem.W.Frag} {e e2 o : Expr} {es : List Expr} {ta te : TE} {t : TA} {p p2 pos pos2 apos cpos tpos : Pos} {kk : Nat} {elts : List Expr}
theorem k_listZp (h : X.K = K) (hc : X.calm = true) (hg : Gl X "list") (hm : X.mg "list" = none) (hg2 : Gl X "zip") (hm2 : X.mg "zip" = none) (ha : PA X [e, e2] t) (hs : starEach [e, e2] X.env = (false, eval e X.env) :: starEach [e2] X.env := by rfl) (hpl : (backTo pos2 (starEach [e2] X.env)).any (·.1) = false := by rfl)
    (na : starEach [.Call (.Name "zip" p2) [e, e2] [] pos2] X.env = (false, eval (.Call (.Name "zip" p2) [e, e2] [] pos2) X.env) :: starEach [] X.env := by rfl) : PE X (.Call (.Name "list" p) [.Call (.Name "zip" p2) [e, e2] [] pos2] [] pos) (tLstZp (tZp K t)) := by
  subst h
  exact pe_listZp hc hg hm (pzp hg2 hm2 ha hs hpl) na
theorem k_slS (h : X.K = K) {st : Expr} {lo hi : Option Expr} {tl th ts : L2.TO} {p3 : Pos} (he : PE X e te) (hl : PO X lo tl) (hu : PO X hi th) (hst : PO X (some st) ts)
    (htail : ∀ (a b : Addr), subscripted (.Slice lo hi (some st) p3) false (.ref a) (.ref b) = operate [.ref a, .ref b] (getItem (.ref a) (.ref b)) := by intros; with_unfolding_all rfl) : PE X (.Subscript e (.Slice lo hi (some st) p3) pos) (tSlS K te tl th ts) := by
  subst h
  exact pe_slS he hl hu hst htail
theorem k_ljust (h : X.K = K) (ho : PE X o ta) (ha : PA X (e :: es) t)
    (hbase : attributeBase o "ljust" X.env (eval o X.env) = eval o X.env := by rfl)
    (hfew : ((backTo cpos (starEach (e :: es) X.env)).all (fun x => !x.1) && (backToKw cpos (keywordEach [] X.env)).all (fun x => x.1.isSome)
      && decide ((e :: es).length + ([] : List Keyword).length + (if ([] : List Keyword).isEmpty then 0 else 1) < 30)) = true := by rfl)
    (hline : (apos.endLine == cpos.line) = true := by rfl) (hs : starEach (e :: es) X.env = (false, eval e X.env) :: starEach es X.env := by rfl) (hplain : (backTo cpos (starEach es X.env)).any (·.1) = false := by rfl) :
    PE X (.Call (.Attribute o "ljust" apos) (e :: es) [] cpos) (tBM K "str" rLjF ta t) := by
  subst h
  exact pe_bm PySem.F.plainAttrs_str PySem.F.slot_str_ljust PySem.F.type_str_ljust mt_ljustF ho ha hbase hfew hline hs hplain
theorem k_sortedS (h : X.K = K) : CallR X (.builtin "sorted") (rSortedS K) := by subst h; exact cr_sortedS
theorem k_pzipA (h : X.K = K) (hg : Gl X "zip") (hm : X.mg "zip" = none) (ha : PA X [e, e2] t)
    (hs : starEach [e, e2] X.env = (false, eval e X.env) :: starEach [e2] X.env := by rfl) (hpl : (backTo pos (starEach [e2] X.env)).any (·.1) = false := by rfl) : PI X (.Tuple elts kk tpos) (.Call (.Name "zip" p) [e, e2] [] pos) (RZ.iZipA K t) := by
  subst h
  exact RZ.pi_zipA hg hm ha hs hpl
/-- xs[i] as what stands ahead of xs[i] += e -/
theorem k_pget (h : X.K = K) : PGet X (rIxL K) := by
  subst h
  intro pins s σ H x y v u Q I rx ry h
  obtain ⟨p, xs, i, z, rfl, rfl, hq, he, q⟩ := h
  cases rx
  obtain ⟨t, rfl⟩ := ry
  obtain ⟨its, r, pl, hz⟩ := I.list hq
  obtain ⟨j, h1, h2, h3, h4, h5⟩ := atI_get he
  obtain ⟨w, ew, rw'⟩ := r.get h2
  have hl := r.length
  have hn := line63
  by_cases h0 : 0 ≤ i
  · have hj : i.toNat = j := by
      rw [seqIndex_of h0 h5] at h1
      exact Option.some.inj h1
    exact wpAny_getItem_list pl.isList h0 (by omega) (by rw [hj]; simpa using ew) ⟨z, H, I, rw', q⟩
  · have hj : (i + (its.toArray.size : Int)).toNat = j := by
      rw [seqIndex_neg (by omega) h4] at h1
      rw [List.size_toArray, ← hl]
      exact Option.some.inj h1
    exact wpAny_getItem_list_neg pl.isList (by omega) (by rw [List.size_toArray] <;> omega) (by omega) (by rw [hj]; simpa using ew) ⟨z, H, I, rw', q⟩
end
/-! ### by values -/
section
variable {te ta ti ty : TE} {tas : TA} {ρ : Rho} {K : PySem.W.Frag} {Φ : PyData → Rho → Prop} {φ : List PyData → Prop} {i : Nat} {p : Addr} {tip : TIp} {nx bk ct : Rho → Prop} {rt : PyData → Rho → Prop}
/-- xs[i] += e -/
theorem q_augL {F G0 : Hp} {ds0 : List PyData} (h0 : ρ[i]? = some (.res (lst p ds0))) (h : We ti ρ fun k ρ1 => ∃ ds n x, ρ1[i]? = some (.res (lst p ds)) ∧ k = .int n ∧ atI ds n = some x ∧ flat x = true ∧ We te ρ1 fun y ρ2 => Op2 tip x y fun z => ∃ ds2 j, ρ2[i]? = some (.res (lst p ds2)) ∧ ixN ds2.length n = some j ∧ nx (ρ2.set i (.res (lst p (ds2.set j z))))) :
    Ws F G0 (tAugS (tVar i) ti te (rIxL K) tip rSetL) ρ ⟨nx, rt, bk, ct⟩ := fun G H σ s D q1 q2 q3 q4 => by
  obtain ⟨v, e, ⟨rfl, _⟩, _⟩ := s.getR h0
  refine ⟨_, e, h F G0 G H σ s _ fun u k ρ1 G1 H1 s1 g1 r1 ⟨ds, n, x, k1, ek, ex, hf, hy⟩ => ?_⟩
  subst ek
  cases r1
  obtain ⟨v1, e1, ⟨rfl, xs, _, hp, ra, rfl⟩, _⟩ := s1.getR k1
  obtain ⟨w, ew, rw'⟩ := ra.atI ex
  refine ⟨p, xs, n, w, rfl, rfl, .inl (.inl hp), ew, hy F G0 G1 H1 σ s1 _ fun u2 y ρ2 G2 H2 s2 g2 r2 op => ?_⟩
  refine op G2 H2 w u2 s2.gh (rw'.flat hf) r2 _ fun z dz G3 H3 gr rz ⟨ds2, j, k2, ej, q⟩ => ?_
  have s3 := s2.grow gr
  obtain ⟨v2, e2, ⟨_, ys, _, hp2, ra2, rfl⟩, _⟩ := s3.getR k2
  exact ⟨p, ys, n, j, rfl, rfl, hp2, by rw [ra2.len]; exact ej, q1 _ _ G3 _ (s3.upd k2 (P' := fun x => x = List.set _ j dz) (ra2.set rz j) rfl) ((g1.trans g2).trans gr.g) q⟩
theorem tPairs_c {σ : L2.St} {Q : List (V × V) → Hp → Prop} : ∀ (kv : List (Str × Str)) (H : Hp), Q (kv.map fun p => (V.str p.1, V.str p.2)) H → tPairs (kv.map fun p => (tC (.str p.1), tC (.str p.2))) σ H Q
  | [], H, q => q
  | a :: kv, H, q => tPairs_c (Q := fun ps H3 => Q ((V.str a.1, V.str a.2) :: ps) H3) kv H q
def lookS : List (Str × Str) → Str → Option Str
  | [], _ => none
  | p :: r, k => if p.1 = k then some p.2 else lookS r k
theorem valV_S {k v : Str} : ∀ {kv : List (Str × Str)}, lookS kv k = some v → valV (kv.map fun p => ((.inr p.1 : Key), V.str p.2)) (.inr k) = some (.str v)
  | [], h => by cases h
  | p :: r, h => by
    unfold lookS at h
    rw [List.map_cons]
    by_cases e : p.1 = k
    · rw [if_pos e] at h
      rw [valV_pos (by rw [e])]
      rw [Option.some.inj h]
    · rw [if_neg e] at h
      rw [valV_neg (fun z => e (Sum.inr.inj z))]
      exact valV_S h
/-- {text: text, ..}[e] -/
theorem we_dispS {kv : List (Str × Str)} (hm : mergeK [] (kv.map fun p => ((.inr p.1 : Key), V.str p.2)) = kv.map fun p => ((.inr p.1 : Key), V.str p.2)) (hl : kv.length ≤ 15)
    (h : We ty ρ fun y ρ1 => ∃ k v, y = .str k ∧ lookS kv k = some v ∧ Φ (.str v) ρ1) : We (tDGet (tDisp (kv.map fun p => (tC (.str p.1), tC (.str p.2)))) ty) ρ Φ := fun F G0 G H σ s Q k => by
  intro p hp
  refine tPairs_c kv _ ⟨upd_same, kv.map fun p => ((.inr p.1 : Key), V.str p.2), by rw [List.map_map]; rfl, by rw [List.length_map]; exact hl, ?_⟩
  rw [upd_upd, hm]
  have gr : Grow G H (L2.upd G p (.dK (kv.map fun p => ((.inr p.1 : Key), V.str p.2)))) (L2.upd H p (.dK (kv.map fun p => ((.inr p.1 : Key), V.str p.2)))) := .laid s.gh hp
  refine h F G0 _ _ σ (s.grow gr) _ fun u y ρ1 G1 H1 s1 g1 r1 ⟨kx, v, ey, ev, q⟩ => ?_
  subst ey
  cases r1
  exact ⟨p, .str v, rfl, .inl ⟨_, .inr kx, .inl (s1.gh _ _ (g1 _ _ upd_same)), rfl, (valV_S ev).symm⟩, k _ _ ρ1 G1 H1 s1 (gr.g.trans g1) (.str _) q⟩
/-- sorted texts -/
theorem opn_sortedS {ss : List Str} (hl : ss.length < 64) (q : ∀ ys : List Str, ys.Perm ss → sortedS ys = true → φ (ys.map .str)) : OpN (rSortedS K) [.list (ss.map .str)] φ := fun G H vs s r Q k => by
  cases r with
  | cons r1 r2 =>
    cases r2
    cases r1 with
    | lst h1 h2 =>
      have e : ∀ {ss : List Str} {xs : List V}, RpA G xs (ss.map PyData.str) → xs = ss.map V.str := by
        intro ss
        induction ss with
        | nil => intro xs h; cases h; rfl
        | cons a ss ih =>
          intro xs h
          cases h with
          | cons ra rb =>
            cases ra
            rw [ih rb]
            rfl
      obtain rfl := e h2
      exact ⟨_, ss, rfl, .inl (.inl (s _ _ h1)), hl, fun ys p hp hs hn => k p (ys.map V.str) (ys.map .str) G H (.refl s) hn (RpA.of_map (fun x => .str x) ys) (q ys hp hs)⟩
/-- zip of two lists or of two tuples -/
theorem wi_zipA {Ψ : List PyData → Rho → Prop} (h : Wa tas ρ fun vs ρ1 => ∃ ds es, (vs = [.list ds, .list es] ∨ vs = [.tuple ds, .tuple es]) ∧ Ψ (pairs ds es) ρ1) : Wi (RZ.iZipA K tas) ρ Ψ := fun F G0 G H σ s R k =>
  h F G0 G H σ s _ fun vs ls ρ1 G1 H1 s1 g1 r1 ⟨ds, es, e, q⟩ => by
    have turn : ∀ {xs ys : List V} {G2 H2 : Hp} {i : Nat} {d : PyData}, RpA G1 xs ds → RpA G1 ys es → Same G1 G2 → Same G2 H2 → (pairs ds es)[i]? = some d → ∃ v u da db, xs[i]? = some v ∧ ys[i]? = some u ∧ Rp G2 v da ∧ Rp G2 u db ∧ d = .tuple [da, db] := by
      intro xs ys G2 H2 i d h2 h4 s2 s3 e
      unfold pairs at e
      rw [List.getElem?_zipWith] at e
      cases qa : ds[i]? with
      | none => rw [qa] at e; cases e
      | some da =>
        cases qb : es[i]? with
        | none => rw [qa, qb] at e; cases e
        | some db =>
          rw [qa, qb] at e
          obtain rfl := (Option.some.inj e).symm
          obtain ⟨v, ev, rv⟩ := h2.get qa
          obtain ⟨u, eu, ru⟩ := h4.get qb
          exact ⟨v, u, da, db, ev, eu, rv.mono s2, ru.mono s2, rfl⟩
    rcases e with e | e
    · subst e
      cases r1 with
      | cons ra rb =>
        cases rb with
        | cons rb rc =>
          cases rc
          cases ra with
          | lst h1 h2 =>
            cases rb with
            | lst h3 h4 =>
              rename_i a xs b ys
              refine ⟨a, b, xs, ys, rfl, .inl ⟨.inl (.inl (s1.gh _ _ h1)), .inl (.inl (s1.gh _ _ h3)), k _ _ ρ1 G1 H1 s1 g1 (fun G2 H2 s2 s3 => ?_) q⟩⟩
              have hq : SqL K H2 a xs := .inl (.inl (s3 _ _ (s2 _ _ h1)))
              have hq' : SqL K H2 b ys := .inl (.inl (s3 _ _ (s2 _ _ h3)))
              have e1 := h2.len
              have e2 := h4.len
              refine ⟨⟨xs, ys, hq, hq', by simp [pairs]; omega⟩, fun i d e => ?_⟩
              obtain ⟨v, u, da, db, ev, eu, rv, ru, rfl⟩ := turn h2 h4 s2 s3 e
              refine ⟨⟨xs, ys, v, u, hq, hq', ev, eu⟩, fun x H' y => ?_⟩
              obtain ⟨T, x1, x2, rfl, nT, rfl, f1, f2⟩ := y
              have z1 := f1 _ hq
              have z2 := f2 _ hq'
              rw [ev] at z1
              rw [eu] at z2
              cases z1
              cases z2
              exact ⟨_, grow_pair s3 nT rv ru⟩
    · subst e
      cases r1 with
      | cons ra rb =>
        cases rb with
        | cons rb rc =>
          cases rc
          cases ra with
          | tup h1 h2 =>
            cases rb with
            | tup h3 h4 =>
              rename_i a xs b ys
              refine ⟨a, b, xs, ys, rfl, .inr ⟨.inl (.inl (s1.gh _ _ h1)), .inl (.inl (s1.gh _ _ h3)), k _ _ ρ1 G1 H1 s1 g1 (fun G2 H2 s2 s3 => ?_) q⟩⟩
              have hq : SqT K H2 a xs := .inl (.inl (s3 _ _ (s2 _ _ h1)))
              have hq' : SqT K H2 b ys := .inl (.inl (s3 _ _ (s2 _ _ h3)))
              have e1 := h2.len
              have e2 := h4.len
              refine ⟨⟨xs, ys, hq, hq', by simp [pairs]; omega⟩, fun i d e => ?_⟩
              obtain ⟨v, u, da, db, ev, eu, rv, ru, rfl⟩ := turn h2 h4 s2 s3 e
              refine ⟨⟨xs, ys, v, u, hq, hq', ev, eu⟩, fun x H' y => ?_⟩
              obtain ⟨T, x1, x2, rfl, nT, rfl, f1, f2⟩ := y
              have z1 := f1 _ hq
              have z2 := f2 _ hq'
              rw [ev] at z1
              rw [eu] at z2
              cases z1
              cases z2
              exact ⟨_, grow_pair s3 nT rv ru⟩
end
/-! ### defs with defaults that are all None -/
structure FunT (K : PySem.W.Frag) (x qual : Str) (st : Stmt) (its : List Value) (f : Addr) (fd : FuncData) : Prop where
  ex : ∃ (oc : Value) (od : Option Addr) (dT : Addr) (kV doc pm : Value) (an : Option Addr) (cdv ct : Value) (osl : Array (Option Value)),
    fd = PySem.W.fnOf x qual (defArgs st) (defBody st) (defScope st) (.ref dT) kV doc pm an cdv ct ∧ K.lookup f = some ⟨oc, od, .func fd, osl⟩ ∧ PySem.W.codeIn K cdv qual = true ∧ ∃ o n, K.lookup dT = some o ∧ o.data = .seq its.toArray n
  kp : PySem.W.keepIn K (.ref f) = true
section
variable {P : Program} {w : World} {K : PySem.W.Frag} {mg : Str → Option Value} {base : Heap} {x qual : Str} {st : Stmt} {its : List Value} {f : Addr} {fd : FuncData} {ps : List Str}
theorem FunT.binds (F : FunT K x qual st its f fd) (n j : Nat) (hn : n + (its.length - j) = ps.length)
    (h : ∀ (T : Addr) (kV doc pm : Value) (an : Option Addr) (cdv ct : Value) (us : List Value), us.length = n →
      ∃ k, bindArgs (PySem.W.fnOf x qual (defArgs st) (defBody st) (defScope st) (.ref T) kV doc pm an cdv ct) ⟨us, []⟩ = seqItems? (.ref T) >>= k ∧ k (some its.toArray) = pure (ps.zip (us ++ its.drop j))) : Binds K fd ps (its.drop j) := by
  obtain ⟨oc, od, dT, kV, doc, pm, an, cdv, ct, osl, rfl, lk, hcd, o, m, lT, oT⟩ := F.ex
  intro s us X hlen
  have l2 : us.length = n := by
    rw [List.length_append, List.length_drop] at hlen
    omega
  obtain ⟨k, e1, e2⟩ := h dT kV doc pm an cdv ct us l2
  refine BindsTo.of_looks fun M => ?_
  rw [e1]
  exact looks_items X lT oT (.of_pure e2)
theorem FnG.okT {N : List Str} {k : Nat} {sp : Sp} (F : FunT K x qual st its f fd) (S : FnScope N ps (defScope st)) (len : ∀ vs H Q E, sp vs H Q E → vs.length = ps.length)
    (hb : ∀ (cdv : Value) (A : Around) (outer : List PySem.Env) (s : Shared) (H : Hp) (vs : List V) (Q : VK) (E : XK), Room k (cxOf CX0 P w K mg base N qual (defScope st) f cdv A outer s H E).nox.A → (cxOf CX0 P w K mg base N qual (defScope st) f cdv A outer s H E).nox.A.guards = some [] → sp vs H Q E →
      ∃ t, PSs (cxOf CX0 P w K mg base N qual (defScope st) f cdv A outer s H E).nox (defBody st) t ∧ t { nx := fun _ H' => Q .non H', rt := Q } (L2.start N vs) H) : FnG P w K mg base CX0 (k + 1) f fd ps sp := by
  obtain ⟨oc, od, dT, kV, doc, pm, an, cdv, ct, osl, rfl, lk, hcd, _⟩ := F.ex
  refine FnG.of lk hcd S len fun A outer s H vs Q E hr hg hsp => ?_
  obtain ⟨t, h, q⟩ := hb cdv A outer s H vs Q E hr hg hsp
  exact ⟨t, h.nox, q⟩
theorem FnG.okTX {N : List Str} {k : Nat} {sp : Sp} (F : FunT K x qual st its f fd) (S : FnScope N ps (defScope st)) (len : ∀ vs H Q E, sp vs H Q E → vs.length = ps.length)
    (hb : ∀ (cdv : Value) (A : Around) (outer : List PySem.Env) (s : Shared) (H : Hp) (vs : List V) (Q : VK) (E : XK), Room k (cxOf (L2.CX P w) P w K mg base N qual (defScope st) f cdv A outer s H E).A → (cxOf (L2.CX P w) P w K mg base N qual (defScope st) f cdv A outer s H E).A.guards = some [] → sp vs H Q E →
      ∃ t, PSs (cxOf (L2.CX P w) P w K mg base N qual (defScope st) f cdv A outer s H E) (defBody st) t ∧ t { nx := fun _ H' => Q .non H', rt := Q } (L2.start N vs) H) : FnG P w K mg base (L2.CX P w) (k + 1) f fd ps sp := by
  obtain ⟨oc, od, dT, kV, doc, pm, an, cdv, ct, osl, rfl, lk, hcd, _⟩ := F.ex
  exact FnG.of lk hcd S len fun A outer s H vs Q E hr hg hsp => hb cdv A outer s H vs Q E hr hg hsp
end
section
variable {cA : String → Addr} {E : XK} {tas : TA} {ρ : Rho} {Φ : PyData → Rho → Prop}
theorem we_callXD {pre : List PyData → (PyData → Prop) → (String → PyData → Prop) → Prop} {dvs : List V} {dd : List PyData} (hd : ∀ G, RpA G dvs dd) (h : Wa tas ρ fun ds ρ1 => pre (ds ++ dd) (fun d => Φ d ρ1) fun _ _ => False) : We (tCall (SpX cA pre) dvs E tas) ρ Φ := fun F G0 G H σ s Q k =>
  h F G0 G H σ s _ fun vs ds ρ1 G1 H1 s1 g1 r1 p => ⟨G1, ds ++ dd, _, _, s1.gh, r1.app (hd G1), p, fun v d G' H' gr r q => k v d ρ1 G' H' (s1.grow gr) (g1.trans gr.g) r q, .never⟩
theorem rpa_none1 : ∀ G, RpA G [V.non] [PyData.none] := fun G => .cons .non .nil
end
end Dv

/-! Dv27: a comprehension whose items are nobody else's. -/
namespace Dv
open PySem L2
section
variable {te ta tb tc : TE} {tt tu : TT} {tas : TA} {ts tsu : TS} {ρ : Rho} {K : PySem.W.Frag} {g : TG} {wi : TI} {Φ : PyData → Rho → Prop}
theorem wr_lc {vs js : List Nat} (hj : ∀ k ∈ js, k ∈ vs)
    (h : Wi wi ρ fun ds ρ1 => ds.length < 100000 ∧ mergeR ρ1 (wipeR ρ1 vs) vs = ρ1 ∧ ∃ f : PyData → PyData,
      (∀ d, d ∈ ds → Wg g js d (wipeR ρ1 vs) fun ρ2 => wipeR ρ2 vs = wipeR ρ1 vs ∧ Wr te ρ2 fun y ρ4 => ρ4 = ρ2 ∧ y = f d) ∧ Φ (.list (ds.map f)) ρ1) : Wr (tLc wi g tYes te vs) ρ Φ := fun F G0 G H σ s Q k =>
  h F G0 G H σ s _ fun J ds ρ1 G1 H1 s1 g1 wk ⟨hl, hm, f, turn, fin⟩ => by
    intro D nD
    have nF : F D = none := none_of s1.fh nD
    have st0 : Sta F G0 G1 (L2.upd H1 D (.lst [])) (L2.wipe σ vs) (wipeR ρ1 vs) := (s1.laid nD).wipe vs
    have fp0 : ∀ (j : Nat) (x : Slot), (wipeR ρ1 vs)[j]? = some x → ∀ a ∈ x.fp, a ∉ [D] := fun j x e a ha hb => by
      obtain rfl := List.mem_singleton.mp hb
      rcases wipeR_get e with e | rfl
      · exact s1.nofp nD j x e ha
      · cases ha
    refine ⟨fun i m H' => m = ds.length - i ∧ i ≤ ds.length ∧ ∃ G' acc L, Sta F G0 G' H' (L2.wipe σ vs) (wipeR ρ1 vs) ∧ Same G1 G' ∧ H' D = some (.lst acc) ∧ TrA G' H' acc ((ds.take i).map f) L ∧ (∀ a ∈ D :: L, F a = none ∧ G' a = none) ∧ D ∉ L ∧ (∀ (j : Nat) (x : Slot), (wipeR ρ1 vs)[j]? = some x → ∀ a ∈ x.fp, a ∉ D :: L),
      ⟨ds.length, by omega, Nat.zero_le _, G1, [], [], st0, Same.refl G1, upd_same, .nil, fun a ha => by rw [List.mem_singleton.mp ha]; exact ⟨nF, none_of s1.gh nD⟩, by simp, fp0⟩, ?_⟩
    rintro i m H' ⟨rfl, hi, G', acc, L, s', g', hD, ra, nM, nDL, fp'⟩
    obtain ⟨w1, w2⟩ := wk G' H' g' s'.gh
    by_cases hlt : i < ds.length
    · have ed : ds[i]? = some ds[i] := List.getElem?_eq_getElem hlt
      obtain ⟨v1, v2⟩ := w2 i _ ed
      refine .inr ⟨v1, fun H2 => ∃ G2 acc L, Sta F G0 G2 H2 (L2.wipe σ vs) (wipeR ρ1 vs) ∧ Same G1 G2 ∧ H2 D = some (.lst acc) ∧ TrA G2 H2 acc ((ds.take (i + 1)).map f) L ∧ (∀ a ∈ D :: L, F a = none ∧ G2 a = none) ∧ D ∉ L ∧ (∀ (j : Nat) (x : Slot), (wipeR ρ1 vs)[j]? = some x → ∀ a ∈ x.fp, a ∉ D :: L),
        fun H2 ⟨G2, acc, L, q⟩ => ⟨ds.length - (i + 1), by omega, rfl, hlt, G2, acc, L, q⟩, fun x H2 y => ?_⟩
      obtain ⟨G3, gr, rx⟩ := v2 x H2 y
      have s3 := (s'.holdM (M := D :: L) (fun a ha => (nM a ha).2) fp').grow gr
      have live : ∀ a ∈ D :: L, H' a ≠ none := fun a ha => by
        rcases List.mem_cons.mp ha with rfl | ha
        · rw [hD]
          simp
        · exact ra.live a ha
      refine turn _ (List.mem_of_getElem? ed) (frz F H' (D :: L)) G0 G3 H2 (L2.wipe σ vs) x s3 rx _ fun σ4 ρ4 s4 e4 p4 => ?_
      have el : σ4.length = (L2.wipe σ vs).length := e4.1
      have ew : L2.wipe σ4 vs = L2.wipe σ vs := by
        rw [← wipe_wipe (σ := σ)]
        exact wipe_eq el fun k hk => e4.2 k fun z => hk (hj k z)
      obtain ⟨hw, p4⟩ := p4
      refine ⟨ew, ?_⟩
      show te σ4 H2 _
      refine p4 _ _ _ _ _ s4 _ fun u y M ρ6 G6 H6 s6 g6 r6 n6 ap6 ⟨e6, ey⟩ => ?_
      subst e6 ey
      obtain ⟨s7, e7, n7, fp7⟩ := s6.unholdM fun a ha => ⟨(nM a ha).1, none_of s'.g0 (nM a ha).2, live a ha⟩
      have hM : ∀ a ∈ M, a ∉ D :: L := fun a ha hb => live a hb (by have := (n6 a ha).1; rw [frz_in hb] at this; exact this)
      have hMF : ∀ a ∈ M, F a = none := fun a ha => by
        have := (n6 a ha).1
        rw [frz_out (hM a ha)] at this
        exact this
      have hD6 : H6 D = some (.lst acc) := by rw [e7 D List.mem_cons_self]; exact hD
      have nDM : D ∉ M := fun z => hM D z List.mem_cons_self
      have len := ra.len
      rw [List.length_map, List.length_take] at len
      have eL : ∀ a ∈ L, (L2.upd H6 D (.lst (acc ++ [u]))) a = H' a := fun a ha => by
        have hne : a ≠ D := fun z => nDL (z ▸ ha)
        rw [upd_ne hne]
        exact e7 a (List.mem_cons_of_mem _ ha)
      have eM : ∀ a ∈ M, (L2.upd H6 D (.lst (acc ++ [u]))) a = H6 a := fun a ha => upd_ne fun z => nDM (z ▸ ha)
      have ra7 : TrA G6 (L2.upd H6 D (.lst (acc ++ [u]))) acc ((ds.take i).map f) L := ra.mono (gr.g.trans g6) eL
      have r7 : Tr G6 (L2.upd H6 D (.lst (acc ++ [u]))) u (f ds[i]) M := r6.mono (Same.refl _) eM
      have r8 : TrA G6 (L2.upd H6 D (.lst (acc ++ [u]))) [u] [f ds[i]] M := by
        have := TrA.cons r7 (TrA.nil (G := G6) (H := L2.upd H6 D (.lst (acc ++ [u])))) (by simp)
        rw [List.append_nil] at this
        exact this
      have et : (ds.take (i + 1)).map f = (ds.take i).map f ++ [f ds[i]] := by rw [List.take_add_one, ed, List.map_append]; rfl
      have s8 := ((s7.put (o := .lst (acc ++ [u])) nF (n7 D List.mem_cons_self) fun j x e ha => fp7 j x e D ha List.mem_cons_self)).wipe vs
      rw [ew, hw] at s8
      refine ⟨acc, hD6, szs (by omega), G6, acc ++ [u], L ++ M, s8, (g'.trans gr.g).trans g6, upd_same, ?_, fun a ha => ?_, fun ha => ?_, fun j x e a ha hb => ?_⟩
      · rw [et]
        exact ra7.app r8 fun a ha hb => hM a hb (List.mem_cons_of_mem _ ha)
      · rcases List.mem_cons.mp ha with rfl | ha
        · exact ⟨nF, n7 _ List.mem_cons_self⟩
        · rcases List.mem_append.mp ha with ha | ha
          · exact ⟨(nM a (List.mem_cons_of_mem _ ha)).1, n7 a (List.mem_cons_of_mem _ ha)⟩
          · exact ⟨hMF a ha, (n6 a ha).2⟩
      · rcases List.mem_append.mp ha with ha | ha
        · exact nDL ha
        · exact nDM ha
      · rcases List.mem_cons.mp hb with rfl | hb
        · exact fp' j x e a ha List.mem_cons_self
        · rcases List.mem_append.mp hb with hb | hb
          · exact fp' j x e a ha (List.mem_cons_of_mem _ hb)
          · rw [← hw] at e
            rcases wipeR_get e with e | rfl
            · exact ap6 j x e a ha hb
            · cases ha
    · have e : i = ds.length := by omega
      subst e
      rw [List.take_length] at ra
      have sm := s'.merge s1 g'
      rw [hm] at sm
      refine .inl ⟨w1, k (.ref D) _ (D :: L) ρ1 G' H' sm (g1.trans g') (.lst hD ra nDL) nM (fun j x e a ha hb => ?_) fin⟩
      rw [← hm] at e
      rcases mergeR_get e with ⟨_, e⟩ | rfl
      · exact fp' j x e a ha hb
      · rw [keepV_fp] at ha
        cases ha
end
section
variable {P : Program} {w : World} {K : PySem.W.Frag} {mg : Str → Option Value} {base : Heap} {cx : CXT} {k : Nat} {f : Addr} {fd : FuncData} {ps : List Str}
theorem FnG.noS : FnG P w K mg base cx k f fd ps (SpS 0) := by
  refine FnG.imp (sp := SpD fun _ _ => False) (FnG.no fun _ _ h => h) ?_
  rintro vs H Q E ⟨G, v, d, L, _, _, _, _, _, h, _⟩
  exact absurd h (Nat.not_lt_zero _)
end
end Dv

/-! Dv28: sorted(ints); the last item. -/
namespace Dv
open PySem L2
section
variable {K : PySem.W.Frag} {φ : List PyData → Prop}
theorem opn_sortedI {ns : List Int} (q : ∀ ys : List Int, ys.Perm ns → ys.Pairwise (· ≤ ·) → φ (ys.map .int)) : OpN (rSortedI K) [.list (ns.map .int)] φ := fun G H vs s r Q k => by
  cases r with
  | cons r1 r2 =>
    cases r2
    cases r1 with
    | lst h1 h2 =>
      obtain rfl := map_int h2
      exact ⟨_, ns, rfl, .inl (.inl (s _ _ h1)), fun ys p hp hs hn => k p (ys.map V.int) (ys.map .int) G H (.refl s) hn (RpA.of_map (fun x => .int x) ys) (q ys hp hs)⟩
theorem atI_last {α : Type} {xs : List α} {x : α} (h : xs.getLast? = some x) : atI xs (-1) = some x := by
  have hn : xs ≠ [] := fun z => by rw [z] at h; cases h
  have hl := List.length_pos_iff.mpr hn
  unfold atI ixN
  rw [if_neg (by decide), if_pos (by omega), show ((-1 : Int) + (xs.length : Int)).toNat = xs.length - 1 by omega]
  rw [List.getLast?_eq_getElem?] at h
  exact h
end
end Dv

/-! Dv29: what may be spoilt may be compared; a kept error is not None. -/
namespace Dv
open PySem L2
mutual
theorem clean_nod : ∀ d : PyData, clean d = true → d.hasDict = false
  | .none, _ => rfl
  | .bool _, _ => rfl
  | .int _, _ => rfl
  | .str _, _ => rfl
  | .list ds, h => by
    simp only [clean, Bool.and_eq_true] at h
    exact cleanA_nod ds h.2.2
  | .tuple ds, h => by
    simp only [clean, Bool.and_eq_true] at h
    exact cleanA_nod ds h.2
  | .dict _, h => by simp [clean] at h
theorem cleanA_nod : ∀ ds : List PyData, cleanA ds = true → PyData.hasDictAll ds = false
  | [], _ => rfl
  | d :: ds, h => by
    simp only [cleanA, Bool.and_eq_true] at h
    simp only [PyData.hasDictAll, clean_nod d h.1, cleanA_nod ds h.2, Bool.or_false]
end
mutual
theorem clean_lay : ∀ d : PyData, clean d = true → d.canLay0 = true
  | .none, _ => rfl
  | .bool _, _ => rfl
  | .int _, _ => rfl
  | .str x, h => by
    simp only [clean, Bool.and_eq_true] at h
    exact (OkdN.str (n := 0) fun c hc => of_decide_eq_true (List.all_eq_true.mp h.2 c hc)).lay
  | .list ds, h => by
    simp only [clean, Bool.and_eq_true] at h
    exact cleanA_lay ds h.2.2
  | .tuple ds, h => by
    simp only [clean, Bool.and_eq_true] at h
    exact cleanA_lay ds h.2
  | .dict _, h => by simp [clean] at h
theorem cleanA_lay : ∀ ds : List PyData, cleanA ds = true → PyData.canLayAll0 ds = true
  | [], _ => rfl
  | d :: ds, h => by
    simp only [cleanA, Bool.and_eq_true] at h
    simp only [PyData.canLayAll0, clean_lay d h.1, cleanA_lay ds h.2, Bool.and_true]
end
theorem clean_okd {d : PyData} (h : clean d = true) : OkdN d.depth d := ⟨clean_nod d h, clean_lay d h, Nat.le_refl _⟩
theorem dep_list {ds : List PyData} {n : Nat} (h : (PyData.list ds).depth < n + 1) : ∀ d ∈ ds, d.depth < n := fun d hd => by
  have := dep_mem hd
  have e : (PyData.list ds).depth = PyData.depthAll ds + 1 := by simp [PyData.depth, Nat.add_comm]
  omega
theorem dep_tup {ds : List PyData} {n : Nat} (h : (PyData.tuple ds).depth < n + 1) : ∀ d ∈ ds, d.depth < n := fun d hd => by
  have := dep_mem hd
  have e : (PyData.tuple ds).depth = PyData.depthAll ds + 1 := by simp [PyData.depth, Nat.add_comm]
  omega
section
variable {ρ : Rho} {Φ : PyData → Rho → Prop} {K : PySem.W.Frag} {a C dx : Addr} {d : PyData} {j : Nat}
theorem we_isntX (h0 : ρ[j]? = some (.res (excR a C dx d))) (q : Φ (.bool true) ρ) : We (tOp rNotN (tVar j) (tC .non)) ρ Φ := fun F G0 G H σ s Q k => by
  obtain ⟨v, e, ⟨rfl, ea, y, ed, ry⟩, _⟩ := s.getR h0
  exact ⟨_, e, rfl, k _ _ ρ G H s (Same.refl G) (.bl true) q⟩
end
end Dv

/-! Dv30: the script, a list that is looked at only; slices of it. -/
namespace Dv
open PySem L2
theorem sql_same {K : PySem.W.Frag} {G H : Hp} {a : Addr} {xs : List V} (s : Same G H) (h : SqL K G a xs) : SqL K H a xs := by
  rcases h with (h | ⟨o, h⟩) | h
  · exact .inl (.inl (s _ _ h))
  · exact .inl (.inr ⟨o, s _ _ h⟩)
  · exact .inr h
/-- a list of ints that is only looked at -/
def scr (K : PySem.W.Frag) (a : Addr) (ns : List Int) : Res where
  fp := []
  ok := fun G H v => v = .ref a ∧ SqL K G a (ns.map V.int)
  mono := by
    rintro G H G' H' v ⟨e, h⟩ g k
    exact ⟨e, sql_same g h⟩
section
variable {te ta : TE} {ρ : Rho} {K : PySem.W.Frag} {a : Addr} {ns : List Int} {i : Nat} {tl th : TO}
theorem wn_slScr {Φ : List PyData → Rho → Prop} (h0 : ρ[i]? = some (.res (scr K a ns))) (h : Wo tl ρ fun lo ρ2 => Wo th ρ2 fun hi ρ3 => Φ ((cutD ns lo hi).map .int) ρ3) : Wn (tSl (rSlU K) (tVar i) tl th) ρ Φ := fun F G0 G H σ s Q k => by
  obtain ⟨v, e, ⟨rfl, hS⟩, _⟩ := s.getR h0
  refine ⟨_, e, h F G0 G H σ s _ fun lo ρ2 G2 H2 s2 g2 p2 => p2 F G0 G2 H2 σ s2 _ fun hi ρ3 G3 H3 s3 g3 q => ?_⟩
  refine .inl (.inl ⟨_, _, rfl, sql_same s3.gh (sql_same (g2.trans g3) hS), fun p hp => k p _ _ ρ3 G3 _ (s3.laid hp) (g2.trans g3) upd_same ?_ (none_of s3.fh hp) (none_of s3.gh hp) (s3.nofp hp) q⟩)
  have e2 : cutV (ns.map V.int) lo hi = (cutD ns lo hi).map V.int := by
    unfold cutV cutD
    rw [List.length_map, List.map_take, List.map_drop]
  rw [e2]
  exact RpA.of_map (fun x => .int x) _
theorem sta_scr {G H : Hp} {a : Addr} {ns : List Int} {N : Nat} (s : Same G H) (hS : SqL K G a (ns.map V.int)) : Sta H G G H (some (V.ref a) :: List.replicate N none) (.res (scr K a ns) :: List.replicate N .any) where
  fh := Same.refl H
  gh := s
  g0 := Same.refl G
  new := fun _ _ e _ => e
  len := by simp
  slot := fun j x e => by
    rcases j with _ | j
    · obtain rfl := Option.some.inj e
      exact ⟨.ref a, rfl, ⟨rfl, hS⟩, fun b hb => nomatch hb⟩
    · have h3 := List.mem_of_getElem? e
      have e' : (List.replicate N Slot.any)[j]? = some x := e
      have h4 := List.mem_of_getElem? e'
      rw [List.eq_of_mem_replicate h4]
      trivial
  apart := fun i j x y hij e1 e2 b hb hc => by
    rcases i with _ | i
    · obtain rfl := Option.some.inj e1
      cases hb
    · have e' : (List.replicate N Slot.any)[i]? = some x := e1
      rw [List.eq_of_mem_replicate (List.mem_of_getElem? e')] at hb
      cases hb
end
end Dv

/-! Dv31: rows of ours made by any rule, rows[i][k] looked at and set; reversed(text), int(text, 2), f"{n:b}", str(n). -/
namespace Dv
open PySem L2 Zx
theorem tr_flats {G H : Hp} : ∀ {ds : List PyData} {xs : List V} {L : List Addr}, TrA G H xs ds L → (∀ d ∈ ds, flat d = true) → L = [] ∧ RpA G xs ds
  | [], _, _, h, _ => by
    cases h
    exact ⟨rfl, .nil⟩
  | d :: ds, _, _, h, hf => by
    cases h with
    | cons h1 h2 h3 =>
      obtain ⟨rfl, r2⟩ := tr_flats h2 fun e he => hf e (List.mem_cons_of_mem _ he)
      have f1 := hf d List.mem_cons_self
      cases h1 with
      | flt r f => exact ⟨rfl, .cons r r2⟩
      | lst a b c => cases f1
      | tup a b => cases f1
theorem tr_rows {G H : Hp} : ∀ {dss : List (List PyData)} {xs : List V} {L : List Addr}, TrA G H xs (dss.map .list) L → (∀ ds ∈ dss, ∀ d ∈ ds, flat d = true) →
    xs = L.map V.ref ∧ L.length = dss.length ∧ L.Nodup ∧ ∀ (k : Nat) (q : Addr) (ds : List PyData), L[k]? = some q → dss[k]? = some ds → ∃ ys, H q = some (.lst ys) ∧ RpA G ys ds
  | [], _, _, h, _ => by
    cases h
    exact ⟨rfl, rfl, .nil, fun k q ds e => by simp at e⟩
  | ds :: dss, _, _, h, hf => by
    cases h with
    | cons h1 h2 h3 =>
      obtain ⟨e1, e2, e3, e4⟩ := tr_rows h2 fun e he => hf e (List.mem_cons_of_mem _ he)
      cases h1 with
      | flt r f => cases f
      | @lst a ys _ L' h4 h5 h6 =>
        obtain ⟨rfl, r⟩ := tr_flats h5 (hf ds List.mem_cons_self)
        refine ⟨by rw [e1]; rfl, by simp [e2], List.nodup_cons.mpr ⟨h3 a (by simp), e3⟩, fun k q es k1 k2 => ?_⟩
        cases k with
        | zero =>
          cases k1
          cases k2
          exact ⟨ys, h4, r⟩
        | succ k => exact e4 k q es k1 k2
theorem tr_nest {G H : Hp} {v : V} {dss : List (List PyData)} {L : List Addr} (h : Tr G H v (.list (dss.map .list)) L) (hf : ∀ ds ∈ dss, ∀ d ∈ ds, flat d = true) : ∃ p qs, v = .ref p ∧ L = p :: qs ∧ qs.length = dss.length ∧ (nest p qs dss).ok G H v := by
  cases h with
  | flt r f => cases f
  | @lst a xs _ L' h1 h2 h3 =>
    obtain ⟨e1, e2, e3, e4⟩ := tr_rows h2 hf
    subst e1
    exact ⟨a, L', rfl, rfl, e2, rfl, h1, e2, e3, h3, e4⟩
section
variable {te ta tb ti : TE} {tas : TA} {ρ : Rho} {Φ : PyData → Rho → Prop} {K : PySem.W.Frag} {i a b k : Nat} {p : Addr} {qs : List Addr} {dss : List (List PyData)} {F G0 : Hp} {nx bk ct : Rho → Prop} {rt : PyData → Rho → Prop}
theorem q_setNO (h : Wr te ρ fun d ρ1 => ∃ dss, d = .list (dss.map .list) ∧ (∀ ds ∈ dss, ∀ d ∈ ds, flat d = true) ∧ ∀ p qs, qs.length = dss.length → nx (ρ1.set i (.res (nest p qs dss)))) : Ws F G0 (tAsg te (gName i)) ρ ⟨nx, rt, bk, ct⟩ := fun G H σ s D q1 q2 q3 q4 =>
  h F G0 G H σ s _ fun v d L ρ1 G1 H1 s1 g1 r n ap ⟨dss, e, hf, q⟩ => by
    subst e
    have hl := r.live
    obtain ⟨p, qs, rfl, rfl, el, ok⟩ := tr_nest r hf
    exact q1 _ _ G1 H1 (s1.setR (v := .ref p) (r := nest p qs dss) ok (fun a ha => ⟨(n a ha).1, (n a ha).2, hl a ha⟩) (fun j x _ e a ha hb => ap j x e a ha hb)) g1 (q p qs el)
/-- rows[x][y] -/
theorem we_ixNN {n m : Int} {ds : List PyData} {d : PyData} (h : ρ[i]? = some (.res (nest p qs dss))) (ha : ρ[a]? = some (.val (.int n))) (hb : ρ[b]? = some (.val (.int m))) (e1 : ixN dss.length n = some k) (e2 : dss[k]? = some ds) (e3 : atI ds m = some d) (q : Φ d ρ) :
    We (tOp (rIx K) (tOp (rIx K) (tVar i) (tVar a)) (tVar b)) ρ Φ := fun F G0 G H σ s Q kk => by
  obtain ⟨G', g1, g2, _, e, hp, hl, _, inn⟩ := s.see h
  obtain ⟨va, ea, ra⟩ := s.get ha
  obtain ⟨vb, eb, rb⟩ := s.get hb
  cases ra
  cases rb
  have hk : k < qs.length := by
    rw [hl]
    exact (ixN_seq e1).2.1
  refine ⟨_, e, _, ea, .inl ⟨p, qs.map V.ref, n, .ref qs[k], rfl, rfl, .inl (.inl hp), ?_, ?_⟩⟩
  · unfold atI
    rw [List.length_map, hl, e1]
    show (qs.map V.ref)[k]? = _
    rw [List.getElem?_map, List.getElem?_eq_getElem hk]
    rfl
  · obtain ⟨_, xs, hx, rx⟩ := inn k _ ds (List.getElem?_eq_getElem hk) e2
    obtain ⟨w, e4, e5⟩ := rx.atI e3
    exact ⟨_, eb, .inl ⟨_, xs, m, w, rfl, rfl, .inl (.inl hx), e4, kk w d ρ G H s (Same.refl G) e5 q⟩⟩
/-- rows[x][y] = e -/
theorem q_setNN (h : We te ρ fun d ρ1 => ∃ (p : Addr) (qs : List Addr) (dss : List (List PyData)) (n m : Int) (ds : List PyData) (k l : Nat), ρ1[i]? = some (.res (nest p qs dss)) ∧ ρ1[a]? = some (.val (.int n)) ∧ ρ1[b]? = some (.val (.int m)) ∧ ixN dss.length n = some k ∧ dss[k]? = some ds ∧ ixN ds.length m = some l ∧
      nx (ρ1.set i (.res (nest p qs (dss.set k (ds.set l d)))))) :
    Ws F G0 (tAsg te (gSub (tOp (rIx K) (tVar i) (tVar a)) (tVar b) rSetL)) ρ ⟨nx, rt, bk, ct⟩ := fun G H σ s D q1 q2 q3 q4 =>
  h F G0 G H σ s _ fun u d ρ1 G1 H1 s1 g1 r1 ⟨p, qs, dss, n, m, ds, k, l, k1, ha, hb, e1, e2, e3, cont⟩ => by
    obtain ⟨G', _, _, _, e, hp, hl, _, inn⟩ := s1.see k1
    obtain ⟨va, ea, ra⟩ := s1.get ha
    obtain ⟨vb, eb, rb⟩ := s1.get hb
    cases ra
    cases rb
    have hk : k < qs.length := by
      rw [hl]
      exact (ixN_seq e1).2.1
    refine ⟨_, e, _, ea, .inl ⟨p, qs.map V.ref, n, .ref qs[k], rfl, rfl, .inl (.inl hp), ?_, ?_⟩⟩
    · unfold atI
      rw [List.length_map, hl, e1]
      show (qs.map V.ref)[k]? = _
      rw [List.getElem?_map, List.getElem?_eq_getElem hk]
      rfl
    · have hq := List.getElem?_eq_getElem hk
      obtain ⟨_, xs, hx, rx⟩ := inn k _ ds hq e2
      exact ⟨_, eb, qs[k], xs, m, l, rfl, rfl, hx, by rw [rx.len]; exact e3, q1 _ _ G1 _ (s1.updN k1 hq (rx.set r1 l)) g1 cont⟩
/-- for c in reversed(text) -/
theorem wi_revS {Φ : List PyData → Rho → Prop} (h : We te ρ fun d ρ1 => ∃ z, d = .str z ∧ z.length ≤ 100000 ∧ Φ (signs z).reverse ρ1) : Wi (iRevS te) ρ Φ := fun F G0 G H σ s R k =>
  h F G0 G H σ s _ fun v d ρ1 G1 H1 s1 g1 r1 ⟨z, e, hz, q⟩ => by
    subst e
    cases r1
    refine ⟨z, rfl, szl hz, k (Irz z) _ ρ1 G1 H1 s1 g1 (fun G2 H2 s2 s3 => ⟨?_, fun j d ed => ⟨?_, fun x H' y => ?_⟩⟩) q⟩
    · show z.cps.size ≤ _
      rw [List.length_reverse]
      simp [signs]
    · show j < z.cps.size
      have := (List.getElem?_eq_some_iff.mp ed).1
      rw [List.length_reverse] at this
      simpa [signs] using this
    · obtain ⟨rfl, c, hc, rfl⟩ := y
      have hj := (List.getElem?_eq_some_iff.mp ed).1
      rw [List.length_reverse] at hj
      rw [List.getElem?_reverse hj] at ed
      have hl : (signs z).length = z.cps.size := by simp [signs]
      rw [hl] at ed
      have hd : d = .str ⟨#[c]⟩ := by
        unfold signs at ed
        rw [List.getElem?_map, Array.getElem?_toList, hc] at ed
        exact (Option.some.inj ed).symm
      subst hd
      exact ⟨G2, .refl s3, .str _⟩
theorem we_fmtB (h : We te ρ fun d ρ1 => ∃ n : Nat, d = .int (n : Int) ∧ (binS n).length ≤ 100000 ∧ Φ (.str (binS n)) ρ1) : We (tFmtB te) ρ Φ := fun F G0 G H σ s Q k =>
  h F G0 G H σ s _ fun v d ρ1 G1 H1 s1 g1 r1 ⟨n, e, hn, q⟩ => by
    subst e
    cases r1
    exact ⟨(n : Int), rfl, by omega, by rw [Int.natAbs_natCast]; exact szl hn, by rw [Int.natAbs_natCast]; exact k _ _ ρ1 G1 H1 s1 g1 (.str _) q⟩
theorem opc_strI {φ : PyData → Prop} {n : Int} (h : n.natAbs.log2 < 1920) (q : φ (.str (toString n : String))) : OpFC (fun xs H Q => ∃ i, xs = [.int i] ∧ i.natAbs.log2 < 1920 ∧ Q (.str (toString i : String)) H) [.int n] φ := fun G H vs s r Q k => by
  cases r with
  | cons ra rb =>
    cases rb
    cases ra
    exact ⟨n, rfl, h, k _ _ (fun _ => .str _) q⟩
theorem opc_bin {φ : PyData → Prop} {x : Str} (h1 : x.cps.toList ≠ []) (h2 : x.length ≤ 640) (h3 : ∀ c ∈ x.cps.toList, Bit c) (q : φ (.int ((binV x.cps.toList : Nat) : Int))) : OpFC rIntB [.str x, .int 2] φ := fun G H vs s r Q k => by
  cases r with
  | cons ra rb =>
    cases rb with
    | cons rb rc =>
      cases rc
      cases ra
      cases rb
      exact ⟨x, rfl, h1, h2, h3, k _ _ (fun _ => .int _) q⟩
end
end Dv

/-! Dv32: a def that draws and looks at a list that goes on changing elsewhere (SpZR); tuples and lists of things of nobody's; tuples cut; in and not in. -/
namespace Dv
open PySem L2

/-- a list with these very items -/
def lstV (p : Addr) (vs : List V) (ds : List PyData) : Res where
  fp := [p]
  ok := fun G H v => v = .ref p ∧ H p = some (.lst vs) ∧ RpA G vs ds
  mono := by
    rintro G H G' H' v ⟨e, h1, h2⟩ g k
    exact ⟨e, (k p List.mem_cons_self).trans h1, h2.mono g⟩
def SpZR (P : Nat → List PyData → Prop) (pre : Nat → List PyData → (Nat → PyData → Prop) → Prop) : Sp := fun vs H Q _ => ∃ G p a us xs n φ, vs = [.ref p, .ref a] ∧ (lstP p (P n)).ok G H (.ref p) ∧ G p = none ∧ H a = some (.lst us) ∧ RpA G us xs ∧ G a = none ∧ p ≠ a ∧ Same G H ∧ pre n xs φ ∧
  ∀ v d n' G' H', GrowP p G H G' H' → (lstP p (P n')).ok G' H' (.ref p) → Rp G' v d → φ n' d → Q v H'
theorem spzr_len {P : Nat → List PyData → Prop} {pre : Nat → List PyData → (Nat → PyData → Prop) → Prop} : ∀ vs H Q E, SpZR P pre vs H Q E → vs.length = 2 := by
  rintro _ H Q E ⟨G, p, a, us, xs, n, φ, rfl, _⟩
  rfl
theorem fn_zR {P : Nat → List PyData → Prop} {pre : Nat → List PyData → (Nat → PyData → Prop) → Prop} {t : TS} {N : List Str} (hn : 2 ≤ N.length)
    (h : ∀ F G0 p a us m xs φ, pre m xs φ → Ws F G0 t (.res (lstP p (P m)) :: .res (lstV a us xs) :: List.replicate (N.length - 2) .any) { nx := fun _ => False, rt := fun d ρ' => ∃ m', ρ'[0]? = some (.res (lstP p (P m'))) ∧ ρ'[1]? = some (.res (lstV a us xs)) ∧ φ m' d, bk := fun _ => False, ct := fun _ => False })
    {vs : List V} {H : Hp} {Q : VK} {E : XK} (hs : SpZR P pre vs H Q E) : t { nx := fun _ H' => Q .non H', rt := Q } (L2.start N vs) H := by
  obtain ⟨G, p, a, us, xs, m, φ, rfl, hok, hG, ha, ra, hGa, hpa, s, hp, k⟩ := hs
  obtain ⟨_, ys, es, hx, rx, hP⟩ := id hok
  have st : Sta (delH (delH H p) a) G G H (L2.start N [.ref p, .ref a]) (.res (lstP p (P m)) :: .res (lstV a us xs) :: List.replicate (N.length - 2) .any) := by
    refine ⟨fun b o e => ?_, s, Same.refl G, fun b o e _ => e, ?_, fun i x e => ?_, fun i j x y hij e1 e2 b hb hc => ?_⟩
    · by_cases h1 : b = a
      · rw [h1, delH_same] at e; cases e
      · rw [delH_ne h1] at e
        by_cases h2 : b = p
        · rw [h2, delH_same] at e; cases e
        · rw [delH_ne h2] at e
          exact e
    · unfold L2.start
      simp
    · rcases i with _ | _ | i
      · simp only [List.getElem?_cons_zero, Option.some.injEq] at e
        subst e
        refine ⟨.ref p, rfl, hok, fun b hb => ?_⟩
        have e' : b = p := by simpa [lstP] using hb
        subst e'
        exact ⟨by rw [delH_ne hpa, delH_same], hG, by rw [hx]; simp⟩
      · simp only [List.getElem?_cons_succ, List.getElem?_cons_zero, Option.some.injEq] at e
        subst e
        refine ⟨.ref a, rfl, ⟨rfl, ha, ra⟩, fun b hb => ?_⟩
        have e' : b = a := by simpa [lstV] using hb
        subst e'
        exact ⟨delH_same, hGa, by rw [ha]; simp⟩
      · have hx : x = .any := by
          simp only [List.getElem?_cons_succ] at e
          have h3 := List.mem_of_getElem? e
          exact List.eq_of_mem_replicate h3
        subst hx
        trivial
    · rcases j with _ | _ | j
      · omega
      · have : i = 0 := by omega
        subst this
        simp at e1 e2
        subst e1 e2
        have h1 : b = p := by simpa [Slot.fp, lstP] using hb
        have h2 : b = a := by simpa [Slot.fp, lstV] using hc
        exact hpa (h1.symm.trans h2)
      · have hy : y = .any := by
          simp only [List.getElem?_cons_succ] at e2
          have h3 := List.mem_of_getElem? e2
          exact List.eq_of_mem_replicate h3
        subst hy
        cases hc
  refine h _ G p a us m xs φ hp G H _ st _ (fun _ _ _ _ _ _ z => z.elim) (fun v d σ' ρ' G' H' s' g r' ⟨m', e, e2, q⟩ => ?_) (fun _ _ _ _ _ _ z => z.elim) (fun _ _ _ _ _ _ z => z.elim)
  obtain ⟨v0, e0, ⟨hv0, ys, fs, hy, ry, hP'⟩, hfp⟩ := s'.getR e
  obtain ⟨v1, e1, ⟨hv1, ha1, ra1⟩, hfp1⟩ := s'.getR e2
  have nG := (hfp p List.mem_cons_self).2.1
  have nGa := (hfp1 a List.mem_cons_self).2.1
  refine k v d m' G' H' ⟨g, fun b o hb e => ?_, s'.gh, fun b o e n => ?_⟩ ⟨rfl, ys, fs, hy, ry, hP'⟩ r' q
  · by_cases h1 : b = a
    · subst h1
      rw [ha] at e
      rw [ha1]
      exact e
    · exact s'.fh b o (by rw [delH_ne h1, delH_ne hb]; exact e)
  · refine s'.new b o e ?_
    rw [delH_ne (fun z => by rw [z, nGa] at e; cases e), delH_ne (fun z => by rw [z, nG] at e; cases e)]
    exact n
section
variable {te ta tb tc : TE} {tt tu : TT} {tas : TA} {ts tsu : TS} {ρ : Rho} {Φ Φ' : PyData → Rho → Prop} {Φb : Bool → Rho → Prop} {Ψ : Outs} {K : PySem.W.Frag} {g : TG} {wi : TI}
theorem we_callZR {P : Nat → List PyData → Prop} {pre : Nat → List PyData → (Nat → PyData → Prop) → Prop} {E : XK} {i j : Nat} {p a : Addr} {n0 : Nat} {xs : List PyData} (h0 : ρ[i]? = some (.res (lstP p (P n0)))) (h1 : ρ[j]? = some (.res (lst a xs))) (hij : i ≠ j)
    (h : pre n0 xs fun n' d => Φ d (ρ.set i (.res (lstP p (P n'))))) : We (tCall (SpZR P pre) [] E (tCons (tVar i) (tCons (tVar j) tNil))) ρ Φ := fun F G0 G H σ s Q k => by
  obtain ⟨v, e, ok, hfp⟩ := s.getR h0
  obtain ⟨v1, e1, ok1, hfp1⟩ := s.getR h1
  have hv : v = .ref p := ok.1
  subst hv
  obtain ⟨hv1, us, ds', ha, ra, rfl⟩ := ok1
  subst hv1
  refine ⟨_, e, _, e1, G, p, a, us, _, n0, _, rfl, ok, (hfp p List.mem_cons_self).2.1, ha, ra, (hfp1 a List.mem_cons_self).2.1, ?_, s.gh, h, fun v d n' G' H' gr ok r q => k v d _ G' H' (s.growP h0 gr ok) gr.g r q⟩
  intro hpa
  subst hpa
  rcases Nat.lt_or_ge i j with hl | hl
  · exact s.apart i j _ _ hl h0 h1 p List.mem_cons_self List.mem_cons_self
  · exact s.apart j i _ _ (by omega) h1 h0 p List.mem_cons_self List.mem_cons_self
theorem we_ixV {i : Nat} {a : Addr} {us : List V} {ds : List PyData} (h : ρ[i]? = some (.res (lstV a us ds))) (q : We tb ρ fun y ρ1 => ∃ n d, ρ1[i]? = some (.res (lstV a us ds)) ∧ y = .int n ∧ atI ds n = some d ∧ Φ d ρ1) : We (tOp (rIx K) (tVar i) tb) ρ Φ := fun F G0 G H σ s Q k => by
  obtain ⟨v, e, ⟨hv, _, _⟩, _⟩ := s.getR h
  subst hv
  refine ⟨_, e, q F G0 G H σ s _ fun u y ρ1 G1 H1 s1 g1 r1 ⟨n, d, h1, ey, ed, pz⟩ => ?_⟩
  subst ey
  cases r1
  obtain ⟨v1, e1, ⟨hv1, ha, ra⟩, _⟩ := s1.getR h1
  obtain ⟨j, ej, ed⟩ := atI_some ed
  obtain ⟨w, ew, rw'⟩ := ra.get ed
  exact .inl ⟨a, us, n, w, rfl, rfl, .inl (.inl ha), by unfold atI; rw [ra.len, ej]; exact ew, k w d ρ1 G1 H1 s1 g1 rw' pz⟩
theorem we_lenV {i : Nat} {a : Addr} {us : List V} {ds : List PyData} (h : ρ[i]? = some (.res (lstV a us ds))) (q : Φ (.int ds.length) ρ) : We (tCB (rLen K) (tCons (tVar i) tNil)) ρ Φ := fun F G0 G H σ s Q k => by
  obtain ⟨v, e, ⟨hv, ha, ra⟩, _⟩ := s.getR h
  subst hv
  exact ⟨_, e, .ref a, ds.length, rfl, .inl ⟨us, .inl (.inl ha), ra.len.symm⟩, k _ _ ρ G H s (Same.refl G) (.int _) q⟩

/-! ### several things of nobody's -/
def Wra (tas : TA) (ρ : Rho) (Φ : List PyData → Rho → Prop) : Prop := ∀ (F G0 G H : Hp) (σ : L2.St), Sta F G0 G H σ ρ → ∀ Q : List V → Hp → Prop, (∀ vs ds L ρ' G' H', Sta F G0 G' H' σ ρ' → Same G G' → TrA G' H' vs ds L → (∀ a ∈ L, F a = none ∧ G' a = none) → (∀ (j : Nat) (x : Slot), ρ'[j]? = some x → ∀ a ∈ x.fp, a ∉ L) → Φ ds ρ' → Q vs H') → tas σ H Q
theorem wra_nil {Φ : List PyData → Rho → Prop} (q : Φ [] ρ) : Wra tNil ρ Φ := fun F G0 G H σ s Q k => k [] [] [] ρ G H s (Same.refl G) .nil (by simp) (by simp) q
theorem wra_cons {Φ : List PyData → Rho → Prop} (h : Wr te ρ fun d ρ1 => Wra tas ρ1 fun ds ρ2 => Φ (d :: ds) ρ2) : Wra (tCons te tas) ρ Φ := fun F G0 G H σ s Q k =>
  h F G0 G H σ s _ fun v d L ρ1 G1 H1 s1 g1 r n ap q =>
    q _ _ _ _ _ (s1.holdM (M := L) (fun a ha => (n a ha).2) ap) _ fun vs ds M ρ2 G2 H2 s2 g2 r2 n2 ap2 p => by
      obtain ⟨s3, e3, n3, ap3⟩ := s2.unholdM fun a ha => ⟨(n a ha).1, none_of s1.g0 (n a ha).2, r.live a ha⟩
      have dj : ∀ a ∈ L, a ∉ M := fun a ha hm => by
        have := (n2 a hm).1
        rw [frz_in ha] at this
        exact r.live a ha this
      refine k _ _ (L ++ M) ρ2 G2 H2 s3 (g1.trans g2) (.cons (r.mono g2 e3) r2 dj) (fun a ha => ?_) (fun j x e a hx ha => ?_) p
      · rcases List.mem_append.mp ha with h | h
        · exact ⟨(n a h).1, n3 a h⟩
        · refine ⟨?_, (n2 a h).2⟩
          have := (n2 a h).1
          by_cases hl : a ∈ L
          · exact absurd h (dj a hl)
          · rw [frz_out hl] at this
            exact this
      · rcases List.mem_append.mp ha with h | h
        · exact ap3 j x e a hx h
        · exact ap2 j x e a hx h
theorem wra_wa {Φ : List PyData → Rho → Prop} (h : Wa tas ρ fun ds ρ1 => nlA ds = true ∧ Φ ds ρ1) : Wra tas ρ Φ := fun F G0 G H σ s Q k =>
  h F G0 G H σ s _ fun vs ds ρ1 G1 H1 s1 g1 r ⟨hn, p⟩ => k vs ds [] ρ1 G1 H1 s1 g1 (TrA.of_nl hn r) (by simp) (by simp) p
/-- a tuple of such things -/
theorem wr_tup (h : Wra tas ρ fun ds ρ1 => ds.length ≤ 100000 ∧ Φ (.tuple ds) ρ1) : Wr (tTup tas) ρ Φ := fun F G0 G H σ s Q k =>
  h F G0 G H σ s _ fun vs ds L ρ1 G1 H1 s1 g1 r n ap ⟨hl, p⟩ => ⟨by rw [r.len]; exact szl hl, fun p' hp => by
    have w : Grow G1 H1 (upd G1 p' (.tup vs)) (upd H1 p' (.tup vs)) := .laid s1.gh hp
    have ne : ∀ a ∈ L, a ≠ p' := fun a ha z => r.live a ha (by rw [z]; exact hp)
    refine k _ _ L ρ1 _ _ (s1.grow w) (g1.trans w.g) (.tup upd_same (r.mono w.g fun a ha => upd_ne (ne a ha))) (fun a ha => ⟨(n a ha).1, ?_⟩) ap p
    rw [upd_ne (ne a ha)]
    exact (n a ha).2⟩
/-- a list of such things -/
theorem wr_lst (h : Wra tas ρ fun ds ρ1 => ds.length ≤ 100000 ∧ Φ (.list ds) ρ1) : Wr (tLst tas) ρ Φ := fun F G0 G H σ s Q k =>
  h F G0 G H σ s _ fun vs ds L ρ1 G1 H1 s1 g1 r n ap ⟨hl, p⟩ => ⟨by rw [r.len]; exact szl hl, fun p' hp => by
    have ne : ∀ a ∈ L, a ≠ p' := fun a ha z => r.live a ha (by rw [z]; exact hp)
    refine k _ _ (p' :: L) ρ1 G1 _ (s1.laid hp) g1 (.lst upd_same (r.mono (Same.refl _) fun a ha => upd_ne (ne a ha)) fun z => ne p' z rfl) (fun a ha => ?_) (fun j x e a hx ha => ?_) p
    · rcases List.mem_cons.mp ha with rfl | h
      · exact ⟨none_of s1.fh hp, none_of s1.gh hp⟩
      · exact n a h
    · rcases List.mem_cons.mp ha with rfl | h
      · exact s1.nofp hp j x e hx
      · exact ap j x e a hx h⟩

/-! ### tuples cut -/
theorem we_slT {tl th : TO} (h : We te ρ fun x ρ1 => Wo tl ρ1 fun lo ρ2 => Wo th ρ2 fun hi ρ3 => ∃ ds, x = .tuple ds ∧ Φ (.tuple (cutD ds lo hi)) ρ3) : We (tSl (rSlU K) te tl th) ρ Φ := fun F G0 G H σ s Q k =>
  h F G0 G H σ s _ fun v x ρ1 G1 H1 s1 g1 r1 p1 => p1 F G0 G1 H1 σ s1 _ fun lo ρ2 G2 H2 s2 g2 p2 => p2 F G0 G2 H2 σ s2 _ fun hi ρ3 G3 H3 s3 g3 ⟨ds, e, q⟩ => by
    subst e
    cases r1 with
    | tup h1 h2 =>
      have m := g2.trans g3
      rename_i a xs
      have el := h2.len
      refine .inr ⟨a, xs, rfl, .inl (.inl (s3.gh _ _ (m _ _ h1))), fun hw => ?_, fun hw p hp => ?_⟩
      · have ec : cutD ds lo hi = ds := by
          unfold cutD
          rw [← el, hw.1, hw.2, List.drop_zero, Nat.sub_zero, el, List.take_length]
        rw [ec] at q
        exact k _ _ ρ3 G3 H3 s3 (g1.trans m) (.tup (m _ _ h1) (h2.mono m)) q
      · have w : Grow G3 H3 (upd G3 p (.tup (cutV xs lo hi))) (upd H3 p (.tup (cutV xs lo hi))) := .laid s3.gh hp
        exact k _ _ ρ3 _ _ (s3.grow w) ((g1.trans m).trans w.g) (.tup upd_same ((h2.mono m).cut.mono w.g)) q
/-! ### in, not in -/
theorem op2_inD {x : PyData} {ds : List PyData} {φ : PyData → Prop} (hx : Okd x) (hd : Okd (.list ds)) (q : φ (.bool (ds.any fun z => PyData.eqv z x))) : OpF2 (rInD K) x (.list ds) φ := fun G H v u s r1 r2 Q k =>
  ⟨x, ds, Rp.dp hx.nd (r1.mono s), Rp.dp hd.nd (r2.mono s), hx.sh, hd.sh, k _ _ (fun _ => .bl _) q⟩
theorem op2_notInD {x : PyData} {ds : List PyData} {φ : PyData → Prop} (hx : Okd x) (hd : Okd (.list ds)) (q : φ (.bool (!ds.any fun z => PyData.eqv z x))) : OpF2 (rNotInD K) x (.list ds) φ := fun G H v u s r1 r2 Q k =>
  ⟨x, ds, Rp.dp hx.nd (r1.mono s), Rp.dp hd.nd (r2.mono s), hx.sh, hd.sh, k _ _ (fun _ => .bl _) q⟩
theorem any_ints {α : Type} (f : α → Int) (i : Int) (xs : List α) : ((xs.map fun a => PyData.int (f a)).any fun z => PyData.eqv z (.int i)) = xs.any fun a => f a == i := by
  rw [List.any_map]
  rfl
end
end Dv

/-! Dv33: suites that may return something of nobody's out of loops. -/
namespace Dv
open PySem L2
def WsP (F G0 : Hp) (ts : TS) (ρ : Rho) (Ψ : Outs) : Prop := ∀ (G H : Hp) (σ : L2.St), Sta F G0 G H σ ρ → ∀ D : Ends,
  (∀ σ' ρ' G' H', Sta F G0 G' H' σ' ρ' → Same G G' → Ψ.nx ρ' → D.nx σ' H') → (∀ v d L σ' ρ' G' H', Sta F G0 G' H' σ' ρ' → Same G G' → Tr G' H' v d L → (∀ a ∈ L, F a = none ∧ G' a = none) → Ψ.rt d ρ' → D.rt v H') →
  (∀ σ' ρ' G' H', Sta F G0 G' H' σ' ρ' → Same G G' → Ψ.bk ρ' → D.bk σ' H') → (∀ σ' ρ' G' H', Sta F G0 G' H' σ' ρ' → Same G G' → Ψ.ct ρ' → D.ct σ' H') → ts D σ H
section
variable {te ta tb tc : TE} {tt tu : TT} {tas : TA} {ts tsu : TS} {ρ : Rho} {Φ Φ' : PyData → Rho → Prop} {Φb : Bool → Rho → Prop} {K : PySem.W.Frag} {g : TG} {wi : TI} {nx bk ct : Rho → Prop} {rt : PyData → Rho → Prop} {F G0 : Hp}
theorem p_ws (h : Ws F G0 ts ρ ⟨nx, fun d ρ' => nl d = true ∧ rt d ρ', bk, ct⟩) : WsP F G0 ts ρ ⟨nx, rt, bk, ct⟩ := fun G H σ s D q1 q2 q3 q4 =>
  h G H σ s D q1 (fun v d σ' ρ' G' H' s' g r ⟨hn, p⟩ => q2 v d [] σ' ρ' G' H' s' g (Tr.of_nl hn r) (by simp) p) q3 q4
theorem p_seq (h : WsP F G0 ts ρ ⟨fun ρ' => WsP F G0 tsu ρ' ⟨nx, rt, bk, ct⟩, rt, bk, ct⟩) : WsP F G0 (tSeq ts tsu) ρ ⟨nx, rt, bk, ct⟩ := fun G H σ s D q1 q2 q3 q4 =>
  h G H σ s { D with nx := tsu D } (fun σ' ρ' G' H' s' g p => p G' H' σ' s' D (fun σ2 ρ2 G2 H2 s2 g2 p2 => q1 σ2 ρ2 G2 H2 s2 (g.trans g2) p2) (fun v d L σ2 ρ2 G2 H2 s2 g2 r n p2 => q2 v d L σ2 ρ2 G2 H2 s2 (g.trans g2) r n p2)
    (fun σ2 ρ2 G2 H2 s2 g2 p2 => q3 σ2 ρ2 G2 H2 s2 (g.trans g2) p2) (fun σ2 ρ2 G2 H2 s2 g2 p2 => q4 σ2 ρ2 G2 H2 s2 (g.trans g2) p2)) q2 q3 q4
theorem p_if (h : Wt tt ρ fun b ρ1 => (b = true → WsP F G0 ts ρ1 ⟨nx, rt, bk, ct⟩) ∧ (b = false → WsP F G0 tsu ρ1 ⟨nx, rt, bk, ct⟩)) : WsP F G0 (tIfS tt ts tsu) ρ ⟨nx, rt, bk, ct⟩ := fun G H σ s D q1 q2 q3 q4 =>
  h F G0 G H σ s _ fun b ρ1 G1 H1 s1 g1 p => by
    have a1 := fun σ2 ρ2 G2 H2 s2 g2 p2 => q1 σ2 ρ2 G2 H2 s2 (g1.trans g2) p2
    have a2 := fun v d L σ2 ρ2 G2 H2 s2 g2 r n p2 => q2 v d L σ2 ρ2 G2 H2 s2 (g1.trans g2) r n p2
    have a3 := fun σ2 ρ2 G2 H2 s2 g2 p2 => q3 σ2 ρ2 G2 H2 s2 (g1.trans g2) p2
    have a4 := fun σ2 ρ2 G2 H2 s2 g2 p2 => q4 σ2 ρ2 G2 H2 s2 (g1.trans g2) p2
    cases b with
    | true => exact p.1 rfl G1 H1 σ s1 D a1 a2 a3 a4
    | false => exact p.2 rfl G1 H1 σ s1 D a1 a2 a3 a4
theorem p_nx (q : nx ρ) : WsP F G0 tNext ρ ⟨nx, rt, bk, ct⟩ := p_ws (q_nx q)
theorem p_ret (h : Wr te ρ rt) : WsP F G0 (tRet te) ρ ⟨nx, rt, bk, ct⟩ := fun G H σ s D q1 q2 q3 q4 => h F G0 G H σ s _ fun v d L ρ1 G1 H1 s1 g1 r n ap p => q2 v d L _ ρ1 G1 H1 s1 g1 r n p
theorem p_for {js : List Nat} (h : Wi wi ρ fun ds ρ1 => ∃ Iv : Nat → Rho → Prop, Iv 0 ρ1 ∧ (∀ i d ρ', ds[i]? = some d → Iv i ρ' → Wg g js d ρ' fun ρ2 => WsP F G0 ts ρ2 ⟨Iv (i + 1), rt, nx, Iv (i + 1)⟩) ∧ ∀ ρ', Iv ds.length ρ' → nx ρ') :
    WsP F G0 (tFor wi g ts) ρ ⟨nx, rt, bk, ct⟩ := fun G H σ s D q1 q2 q3 q4 =>
  h F G0 G H σ s _ fun J ds ρ1 G1 H1 s1 g1 wk ⟨Iv, i0, turn, fin⟩ => by
    refine ⟨fun i m σ' H' => m = ds.length - i ∧ i ≤ ds.length ∧ ∃ ρ' G', Sta F G0 G' H' σ' ρ' ∧ Same G1 G' ∧ Iv i ρ', ⟨ds.length, by omega, Nat.zero_le _, ρ1, G1, s1, Same.refl G1, i0⟩, ?_⟩
    rintro i m σ' H' ⟨rfl, hi, ρ', G', s', g', iv⟩
    obtain ⟨w1, w2⟩ := wk G' H' g' s'.gh
    by_cases hlt : i < ds.length
    · have ed : ds[i]? = some ds[i] := List.getElem?_eq_getElem hlt
      obtain ⟨v1, v2⟩ := w2 i _ ed
      refine .inr ⟨v1, fun σ2 H2 => ∃ ρ2 G2, Sta F G0 G2 H2 σ2 ρ2 ∧ Same G1 G2 ∧ Iv (i + 1) ρ2, fun σ2 H2 ⟨ρ2, G2, a, b, c⟩ => ⟨ds.length - (i + 1), by omega, rfl, hlt, ρ2, G2, a, b, c⟩, fun x H2 y => ?_⟩
      obtain ⟨G3, gr, rx⟩ := v2 x H2 y
      have s3 := s'.grow gr
      refine turn i _ ρ' ed iv F G0 G3 H2 σ' x s3 rx _ fun σ4 ρ4 s4 _ p4 => ?_
      have gg : Same G1 G3 := g'.trans gr.g
      exact p4 G3 H2 σ4 s4 _ (fun σ5 ρ5 G5 H5 s5 g5 p5 => ⟨ρ5, G5, s5, gg.trans g5, p5⟩) (fun v d L σ5 ρ5 G5 H5 s5 g5 r5 n5 p5 => q2 v d L σ5 ρ5 G5 H5 s5 ((g1.trans gg).trans g5) r5 n5 p5) (fun σ5 ρ5 G5 H5 s5 g5 p5 => q1 σ5 ρ5 G5 H5 s5 ((g1.trans gg).trans g5) p5) (fun σ5 ρ5 G5 H5 s5 g5 p5 => ⟨ρ5, G5, s5, gg.trans g5, p5⟩)
    · have e : i = ds.length := by omega
      subst e
      exact .inl ⟨w1, q1 σ' ρ' G' H' s' (g1.trans g') (fin ρ' iv)⟩
theorem o_seqP {rt : PyData → Rho → Prop} (h : WsP F G0 ts ρ ⟨fun ρ' => WsO F G0 tsu ρ' rt, rt, fun _ => False, fun _ => False⟩) : WsO F G0 (tSeq ts tsu) ρ rt := fun G H σ s D q =>
  h G H σ s { D with nx := tsu D } (fun σ' ρ' G' H' s' g p => p G' H' σ' s' D fun v d L σ2 ρ2 G2 H2 s2 g2 r n p2 => q v d L σ2 ρ2 G2 H2 s2 (g.trans g2) r n p2)
    q (fun _ _ _ _ _ _ z => z.elim) (fun _ _ _ _ _ _ z => z.elim)
end
end Dv

/-! Dv34: sizes of shown numbers. -/
namespace Dv
open PySem L2
theorem log_small {n : Nat} (h : n < 10 ^ 10) : n.log2 < 1920 := by
  by_cases e : n = 0
  · subst e
    decide
  · have : n < 2 ^ 40 := by omega
    have := (Nat.log2_lt e).mpr this
    omega
theorem OksN.nat {k n : Nat} (h : n < 10 ^ 10) : OksN k 10 (.int (n : Int)) := ⟨rfl, by
  show decide ((n : Int).natAbs.log2 < 1920) = true
  exact decide_eq_true (by rw [Int.natAbs_natCast]; exact log_small h), Nat.zero_le _, by
  show (PySem.Str.ofString (toString (n : Int))).length ≤ 10
  exact PySem.W.KT.len_num (by omega) (by omega)⟩
end Dv

/-! K04M: rows of bits as numbers. -/
namespace TM
open PySem L2 Dv Zx
def valF (f : Nat → Bool) (w : Nat) : Nat := val ((List.range w).map f)
theorem valF_succ (f : Nat → Bool) (w : Nat) : valF f (w + 1) = (f 0).toNat + 2 * valF (fun k => f (k + 1)) w := by
  unfold valF
  rw [List.range_succ_eq_map, List.map_cons, List.map_map]
  rfl
theorem valF_zero (f : Nat → Bool) : valF f 0 = 0 := rfl
theorem valF_more : ∀ {w n : Nat} {f : Nat → Bool}, n ≤ w → (∀ k, n ≤ k → f k = false) → valF f w = valF f n
  | 0, n, f, h, _ => by
    have : n = 0 := by omega
    subst this
    rfl
  | w + 1, 0, f, _, hf => by
    rw [valF_succ, hf 0 (Nat.le_refl _), valF_more (w := w) (n := 0) (Nat.zero_le _) fun k _ => hf (k + 1) (Nat.zero_le _)]
    rfl
  | w + 1, n + 1, f, h, hf => by
    rw [valF_succ, valF_succ, valF_more (w := w) (n := n) (by omega) fun k hk => hf (k + 1) (by omega)]
theorem valF_congr {f g : Nat → Bool} {w : Nat} (h : ∀ k, k < w → f k = g k) : valF f w = valF g w := by
  unfold valF
  rw [List.map_congr_left fun k hk => h k (List.mem_range.mp hk)]
theorem valF_and : ∀ (w : Nat) (f g : Nat → Bool), valF f w &&& valF g w = valF (fun k => f k && g k) w
  | 0, _, _ => by simp [valF_zero]
  | w + 1, f, g => by rw [valF_succ, valF_succ, valF_succ, and_two, valF_and w]
theorem valF_not : ∀ (w : Nat) (f g : Nat → Bool), valF f w - (valF f w &&& valF g w) = valF (fun k => f k && !g k) w
  | 0, _, _ => by simp [valF_zero]
  | w + 1, f, g => by
    have ih := valF_not w (fun k => f (k + 1)) (fun k => g (k + 1))
    have hle : (valF (fun k => f (k + 1)) w &&& valF (fun k => g (k + 1)) w) ≤ valF (fun k => f (k + 1)) w := Nat.and_le_left
    rw [valF_succ, valF_succ, valF_succ, and_two, ← ih]
    cases f 0 <;> cases g 0 <;> simp only [Bool.and_true, Bool.and_false, Bool.not_true, Bool.not_false, Bool.toNat_true, Bool.toNat_false] <;> omega
theorem or_two (x y : Bool) (a b : Nat) : (x.toNat + 2 * a) ||| (y.toNat + 2 * b) = (x || y).toNat + 2 * (a ||| b) := by
  apply Nat.eq_of_testBit_eq
  intro k
  rw [Nat.testBit_or]
  have t : ∀ (z : Bool) (c : Nat), (z.toNat + 2 * c).testBit k = if k = 0 then z else c.testBit (k - 1) := by
    intro z c
    cases k with
    | zero =>
      rw [Nat.testBit_zero]
      cases z <;> simp [Bool.toNat, Nat.add_mod]
    | succ k =>
      rw [Nat.testBit_succ, if_neg (by omega), Nat.add_sub_cancel]
      congr 1
      cases z <;> simp [Bool.toNat] <;> omega
  rw [t, t, t]
  split
  · rfl
  · rw [Nat.testBit_or]
theorem valF_or : ∀ (w : Nat) (f g : Nat → Bool), valF f w ||| valF g w = valF (fun k => f k || g k) w
  | 0, _, _ => by simp [valF_zero]
  | w + 1, f, g => by rw [valF_succ, valF_succ, valF_succ, or_two, valF_or w]
theorem valF_lt : ∀ (w : Nat) (f : Nat → Bool), valF f w < 2 ^ w
  | 0, _ => by simp [valF_zero]
  | w + 1, f => by
    have := valF_lt w fun k => f (k + 1)
    rw [valF_succ, Nat.pow_succ]
    cases f 0 <;> simp only [Bool.toNat_true, Bool.toNat_false] <;> omega
theorem popc_valF (f : Nat → Bool) (w : Nat) : popc (valF f w) = ((List.range w).map fun k => (f k).toNat).sum := by
  unfold valF
  rw [popc_val0, List.map_map]
  rfl
/-! what int(text, 2) makes of it -/
def bitC (b : Bool) : Nat := 48 + b.toNat
theorem binV_snoc (cs : List Nat) (c : Nat) : binV (cs ++ [c]) = binV cs * 2 + (c - 48) := by
  unfold binV
  rw [List.foldl_append]
  rfl
theorem binV_val : ∀ bs : List Bool, binV (48 :: (bs.map bitC).reverse) = val bs
  | [] => rfl
  | b :: bs => by
    have ih := binV_val bs
    rw [List.map_cons, List.reverse_cons, ← List.cons_append, binV_snoc, ih]
    show _ = b.toNat + 2 * val bs
    unfold bitC
    omega
/-! the ones that f"{n:b}" shows -/
theorem dig_step (n : Nat) : (Nat.toDigits 2 n).map Char.toNat = (if n < 2 then [] else (Nat.toDigits 2 (n / 2)).map Char.toNat) ++ [bitC (n % 2 == 1)] := by
  by_cases h : n < 2
  · rw [if_pos h, Nat.toDigits_of_lt_base h]
    have : n = 0 ∨ n = 1 := by omega
    rcases this with rfl | rfl <;> rfl
  · rw [if_neg h, Nat.toDigits_of_base_le (by decide) (by omega), List.map_append]
    congr 1
    rcases Nat.mod_two_eq_zero_or_one n with e | e <;> rw [e] <;> rfl
def ones (cs : List Nat) : Nat := (cs.filter fun c => c == 49).length
theorem ones_app (a b : List Nat) : ones (a ++ b) = ones a + ones b := by
  unfold ones
  rw [List.filter_append, List.length_append]
theorem ones_dig (n : Nat) : ones ((Nat.toDigits 2 n).map Char.toNat) = popc n := by
  induction n using Nat.strongRecOn with
  | ind n ih =>
    rw [dig_step, ones_app]
    have hb : ones [bitC (n % 2 == 1)] = n % 2 := by
      rcases Nat.mod_two_eq_zero_or_one n with e | e <;> rw [e] <;> rfl
    rw [hb]
    by_cases h : n < 2
    · rw [if_pos h]
      have : n = 0 ∨ n = 1 := by omega
      rcases this with rfl | rfl
      · simp [ones, popc]
      · rw [popc_step]
        simp [ones, popc]
    · rw [if_neg h, ih (n / 2) (by omega), popc_step n]
      omega
theorem cnt_filter (c : Nat) : ∀ cs : List Nat, PyProof.Rows.cnt c cs = ((cs.filter fun k => k == c).length : Nat)
  | [] => rfl
  | n :: cs => by
    rw [PyProof.Rows.cnt_cons, cnt_filter c cs, List.filter_cons]
    by_cases h : n = c
    · rw [if_pos h, if_pos (by simpa using h), List.length_cons]
      omega
    · rw [if_neg h, if_neg (by simpa using h)]
      omega
/-- how often a sign stands in a text -/
def cntS (c : Nat) (z : Str) : Nat := (z.cps.toList.filter fun k => k == c).length
theorem count_S (z : Str) (c : Nat) : Txt.count z ⟨#[c]⟩ = (cntS c z : Nat) := by
  have h := PyProof.Rows.count_is z c
  rw [h]
  exact cnt_filter c z.cps.toList
theorem ones_binS (n : Nat) : cntS 49 (binS n) = popc n := by
  unfold cntS binS
  exact ones_dig n
theorem len_binS {n w : Nat} (hw : 0 < w) (h : n < 2 ^ w) : (binS n).length ≤ w := by
  show (((Nat.toDigits 2 n).map Char.toNat).toArray).size ≤ w
  rw [List.size_toArray, List.length_map]
  exact (Nat.length_toDigits_le_iff (by decide) hw).mpr h
theorem valF_len (f : Nat → Bool) {w : Nat} (hw : 0 < w) : (binS (valF f w)).length ≤ w := len_binS hw (valF_lt w f)
/-! the operators on numbers from 0 on -/
theorem bit_andNot (x y : Nat) : Builtin.bitAnd (x : Int) (Builtin.bitNot (y : Int)) = ((x - (x &&& y) : Nat) : Int) := by
  have hle : (x &&& y) ≤ x := Nat.and_le_left
  have e : (Builtin.bitNot (Builtin.bitNot (y : Int))).toNat = y := by
    unfold Builtin.bitNot
    omega
  unfold Builtin.bitAnd
  rw [decide_eq_true (show (0 : Int) ≤ (x : Int) by omega), decide_eq_false (show ¬ (0 : Int) ≤ Builtin.bitNot (y : Int) by unfold Builtin.bitNot; omega)]
  show (x : Int) - (((x : Int).toNat &&& (Builtin.bitNot (Builtin.bitNot (y : Int))).toNat : Nat) : Int) = _
  rw [e, Int.toNat_natCast]
  omega
theorem bit_or (x y : Nat) : Builtin.bitOr (x : Int) (y : Int) = ((x ||| y : Nat) : Int) := by
  have e : ∀ z : Nat, (Builtin.bitNot (Builtin.bitNot (z : Int))).toNat = z := fun z => by
    unfold Builtin.bitNot
    omega
  have e2 : ∀ z : Nat, Builtin.bitNot (Builtin.bitNot (z : Int)) = (z : Int) := fun z => by
    unfold Builtin.bitNot
    omega
  unfold Builtin.bitOr Builtin.bitAnd
  rw [decide_eq_false (show ¬ (0 : Int) ≤ Builtin.bitNot (x : Int) by unfold Builtin.bitNot; omega), decide_eq_false (show ¬ (0 : Int) ≤ Builtin.bitNot (y : Int) by unfold Builtin.bitNot; omega)]
  show Builtin.bitNot (Builtin.bitNot (((Builtin.bitNot (Builtin.bitNot (x : Int))).toNat ||| (Builtin.bitNot (Builtin.bitNot (y : Int))).toNat : Nat) : Int)) = _
  rw [e, e, e2]
end TM

/-! K05R: runs of ink as plain lists: edges, pairs, ink. -/
namespace TR
open PySem L2 Dv
def evs {α : Type} : List α → List α
  | a :: _ :: r => a :: evs r
  | [a] => [a]
  | [] => []
def ods {α : Type} : List α → List α
  | _ :: b :: r => b :: ods r
  | _ => []
theorem rng_ev (a n : Int) (m : Nat) (h : (if a < n then (n - a + 2 - 1) / 2 else 0).toNat = m) : sliceRange a n 2 = (List.range m).map fun (k : Nat) => (a + 2 * (k : Int)).toNat := by
  subst h
  rfl
theorem places_ev (n : Nat) : Zx.places n none none (some 2) = (List.range ((n + 1) / 2)).map fun i => 2 * i := by
  show sliceRange 0 (n : Int) 2 = _
  rw [rng_ev 0 n ((n + 1) / 2) (by split <;> omega)]
  exact List.map_congr_left fun k _ => by omega
theorem places_od (n : Nat) : Zx.places n (some 1) none (some 2) = (List.range (n / 2)).map fun i => 1 + 2 * i := by
  show sliceRange (max 0 (min 1 (n : Int))) (n : Int) 2 = _
  rw [rng_ev _ n (n / 2) (by split <;> omega)]
  rcases Nat.eq_zero_or_pos n with rfl | hn
  · rfl
  exact List.map_congr_left fun k _ => by omega
theorem fm_ev {α : Type} : ∀ xs : List α, ((List.range ((xs.length + 1) / 2)).map fun i => 2 * i).filterMap (fun i => xs[i]?) = evs xs
  | [] => by simp [evs]
  | [a] => by simp [evs]
  | a :: b :: r => by
    have h := fm_ev r
    rw [show ((a :: b :: r).length + 1) / 2 = (r.length + 1) / 2 + 1 by simp only [List.length_cons]; omega, List.range_succ_eq_map]
    rw [List.map_cons, List.filterMap_cons]
    simp only [Nat.mul_zero, List.getElem?_cons_zero]
    rw [List.map_map, List.filterMap_map]
    rw [List.filterMap_map] at h
    show a :: _ = a :: evs r
    rw [← h]
    congr 1
theorem fm_od {α : Type} : ∀ xs : List α, ((List.range (xs.length / 2)).map fun i => 1 + 2 * i).filterMap (fun i => xs[i]?) = ods xs
  | [] => by simp [ods]
  | [a] => by simp [ods]
  | a :: b :: r => by
    have h := fm_od r
    rw [show (a :: b :: r).length / 2 = r.length / 2 + 1 by simp only [List.length_cons]; omega, List.range_succ_eq_map]
    rw [List.map_cons, List.filterMap_cons]
    simp only [Nat.mul_zero, Nat.add_zero, List.getElem?_cons_succ, List.getElem?_cons_zero]
    rw [List.map_map, List.filterMap_map]
    rw [List.filterMap_map] at h
    show b :: _ = b :: ods r
    rw [← h]
    congr 1
theorem pick_ev {α : Type} (xs : List α) : Zx.pick xs none none (some 2) = evs xs := by
  unfold Zx.pick
  rw [places_ev, fm_ev]
theorem pick_od {α : Type} (xs : List α) : Zx.pick xs (some 1) none (some 2) = ods xs := by
  unfold Zx.pick
  rw [places_od, fm_od]
theorem evs_len {α : Type} : ∀ xs : List α, (evs xs).length ≤ xs.length
  | [] => Nat.le_refl _
  | [a] => Nat.le_refl _
  | a :: b :: r => by
    have := evs_len r
    simp only [evs, List.length_cons]
    omega
theorem ods_len {α : Type} : ∀ xs : List α, (ods xs).length ≤ xs.length
  | [] => Nat.le_refl _
  | [a] => Nat.zero_le _
  | a :: b :: r => by
    have := ods_len r
    simp only [ods, List.length_cons]
    omega
def pairUp : List Nat → List (Nat × Nat)
  | a :: b :: r => (a, b) :: pairUp r
  | _ => []
def flatR : List (Nat × Nat) → List Nat
  | p :: r => p.1 :: p.2 :: flatR r
  | [] => []
abbrev runD (p : Nat × Nat) : PyData := .tuple [.int p.1, .int p.2]
abbrev rowD (rs : List (Nat × Nat)) : PyData := .list (rs.map runD)
abbrev runsD (rss : List (List (Nat × Nat))) : PyData := .list (rss.map rowD)
theorem pairUp_flat : ∀ rs, pairUp (flatR rs) = rs
  | [] => rfl
  | p :: r => by
    show (p.1, p.2) :: pairUp (flatR r) = p :: r
    rw [pairUp_flat r]
theorem flat_pairUp : ∀ es : List Nat, es.length % 2 = 0 → flatR (pairUp es) = es
  | [], _ => rfl
  | [a], h => by cases h
  | a :: b :: r, h => by
    show a :: b :: flatR (pairUp r) = _
    rw [flat_pairUp r (by simp only [List.length_cons] at h; omega)]
theorem flat_len : ∀ rs, (flatR rs).length = 2 * rs.length
  | [] => rfl
  | p :: r => by
    have := flat_len r
    simp only [flatR, List.length_cons]
    omega
theorem pairs_ints : ∀ es : List Nat, Dv.pairs (evs (es.map fun (n : Nat) => PyData.int n)) (ods (es.map fun (n : Nat) => PyData.int n)) = (pairUp es).map runD
  | [] => rfl
  | [a] => rfl
  | a :: b :: r => by
    have h := pairs_ints r
    show PyData.tuple [_, _] :: Dv.pairs _ _ = runD (a, b) :: _
    rw [← h]
theorem evs_map {α β : Type} (f : α → β) : ∀ xs : List α, evs (xs.map f) = (evs xs).map f
  | [] => rfl
  | [a] => rfl
  | a :: b :: r => by
    show _ :: evs (r.map f) = _ :: _
    rw [evs_map f r]
theorem ods_map {α β : Type} (f : α → β) : ∀ xs : List α, ods (xs.map f) = (ods xs).map f
  | [] => rfl
  | [a] => rfl
  | a :: b :: r => by
    show _ :: ods (r.map f) = _ :: _
    rw [ods_map f r]
/-! edges -/
def pv (f : Nat → Bool) : Nat → Bool
  | 0 => false
  | k + 1 => f k
def eds (f : Nat → Bool) (n : Nat) : List Nat := (List.range n).filter fun k => pv f k != f k
theorem eds_succ (f : Nat → Bool) (n : Nat) : eds f (n + 1) = eds f n ++ (if pv f n != f n then [n] else []) := by
  unfold eds
  rw [List.range_succ, List.filter_append]
  congr 1
  cases h : pv f n != f n <;> simp [h]
theorem eds_odd (f : Nat → Bool) : ∀ n, ((eds f n).length % 2 = 1) = (pv f n = true)
  | 0 => by simp [eds, pv]
  | n + 1 => by
    have h := eds_odd f n
    rw [eds_succ, List.length_append]
    show _ = (f n = true)
    cases h1 : pv f n <;> cases h2 : f n <;> rw [h1] at h <;> simp at h ⊢ <;> omega
theorem eds_congr {f g : Nat → Bool} {n : Nat} (h : ∀ k, k < n → f k = g k) : eds f n = eds g n := by
  unfold eds
  refine List.filter_congr fun k hk => ?_
  have hk' := List.mem_range.mp hk
  rw [h k hk']
  cases k with
  | zero => rfl
  | succ k => show (f k != _) = (g k != _); rw [h k (by omega)]
theorem eds_lt {f : Nat → Bool} {n k : Nat} (h : k ∈ eds f n) : k < n := List.mem_range.mp (List.mem_filter.mp h).1
theorem eds_sorted (f : Nat → Bool) (n : Nat) : (eds f n).Pairwise (· < ·) := List.Pairwise.filter _ List.pairwise_lt_range
/-- how many of them are not past k -/
def cnt (es : List Nat) (k : Nat) : Nat := (es.filter fun e => decide (e ≤ k)).length
theorem cnt_app (a b : List Nat) (k : Nat) : cnt (a ++ b) k = cnt a k + cnt b k := by
  unfold cnt
  rw [List.filter_append, List.length_append]
theorem cnt_perm {a b : List Nat} (h : a.Perm b) (k : Nat) : cnt a k = cnt b k := (h.filter _).length_eq
theorem cnt_cons (a : Nat) (r : List Nat) (k : Nat) : cnt (a :: r) k = (if a ≤ k then 1 else 0) + cnt r k := by
  unfold cnt
  rw [List.filter_cons]
  by_cases h : a ≤ k
  · simp [h]
    omega
  · simp [h]
theorem cnt_zero {es : List Nat} {k : Nat} (h : ∀ e ∈ es, k < e) : cnt es k = 0 := by
  unfold cnt
  rw [List.filter_eq_nil_iff.mpr fun e he => by have := h e he; simp; omega]
  rfl
def par (es : List Nat) (k : Nat) : Bool := cnt es k % 2 == 1
/-- ink that runs tell -/
def inkR (rs : List (Nat × Nat)) (k : Nat) : Bool := rs.any fun p => decide (p.1 ≤ k) && decide (k < p.2)
theorem par_eds {f : Nat → Bool} {n k : Nat} (h : k < n) : par (eds f n) k = f k := by
  have e : cnt (eds f n) k = (eds f (k + 1)).length := by
    unfold cnt eds
    rw [List.filter_filter]
    obtain ⟨d, rfl⟩ : ∃ d, n = k + 1 + d := ⟨n - (k + 1), by omega⟩
    rw [List.range_add, List.filter_append, List.length_append]
    have e1 : ((List.range d).map (fun x => k + 1 + x)).filter (fun a => decide (a ≤ k) && (pv f a != f a)) = [] := by
      refine List.filter_eq_nil_iff.mpr fun a ha => ?_
      obtain ⟨x, _, rfl⟩ := List.mem_map.mp ha
      simp
      omega
    rw [e1, List.length_nil, Nat.add_zero]
    congr 1
    refine List.filter_congr fun a ha => ?_
    have := List.mem_range.mp ha
    rw [decide_eq_true (show a ≤ k by omega), Bool.true_and]
  unfold par
  rw [e]
  have h2 := eds_odd f (k + 1)
  have h3 : pv f (k + 1) = f k := rfl
  rw [h3] at h2
  cases hf : f k
  · rw [hf] at h2
    simp at h2
    rw [h2]
    rfl
  · rw [hf] at h2
    simp at h2
    rw [h2]
    rfl
def SortedN (es : List Nat) : Prop := es.Pairwise (· < ·)
theorem par_pairs : ∀ (es : List Nat) (k : Nat), es.Pairwise (· ≤ ·) → es.length % 2 = 0 → inkR (pairUp es) k = true → par es k = true
  | [], k, _, _, h => by cases h
  | [a], k, _, h, _ => by cases h
  | a :: b :: r, k, hs, hl, h => by
    rw [List.pairwise_cons, List.pairwise_cons] at hs
    obtain ⟨h1, h2, h3⟩ := hs
    have hl' : r.length % 2 = 0 := by simp only [List.length_cons] at hl; omega
    have h' : ((decide (a ≤ k) && decide (k < b)) || inkR (pairUp r) k) = true := h
    unfold par
    rw [cnt_cons, cnt_cons]
    rcases Bool.or_eq_true .. ▸ h' with h4 | h4
    · rw [Bool.and_eq_true] at h4
      have ha := of_decide_eq_true h4.1
      have hb := of_decide_eq_true h4.2
      rw [if_pos ha, if_neg (by omega), cnt_zero fun e he => by have := h2 e he; omega]
      rfl
    · have h5 := par_pairs r k h3 hl' h4
      have h6 : cnt r k % 2 = 1 := by simpa [par] using h5
      have hb : b ≤ k := by
        by_cases hb : b ≤ k
        · exact hb
        · rw [cnt_zero fun e he => by have := h2 e he; omega] at h6
          cases h6
      have := h1 b (by simp)
      rw [if_pos (by omega), if_pos hb]
      simp
      omega
theorem ink_par : ∀ (es : List Nat) (k : Nat), es.Pairwise (· ≤ ·) → es.length % 2 = 0 → inkR (pairUp es) k = par es k
  | [], k, _, _ => rfl
  | [a], k, _, h => by cases h
  | a :: b :: r, k, hs, hl => by
    rw [List.pairwise_cons, List.pairwise_cons] at hs
    obtain ⟨h1, h2, h3⟩ := hs
    have hl' : r.length % 2 = 0 := by simp only [List.length_cons] at hl; omega
    have ih := ink_par r k h3 hl'
    show ((decide (a ≤ k) && decide (k < b)) || inkR (pairUp r) k) = _
    rw [ih]
    have hab := h1 b (by simp)
    unfold par
    rw [cnt_cons, cnt_cons]
    by_cases hb : b ≤ k
    · rw [if_pos (by omega), if_pos hb, decide_eq_false (show ¬ k < b by omega), Bool.and_false, Bool.false_or]
      congr 1
      omega
    · rw [if_neg hb, cnt_zero fun e he => by have := h2 e he; omega, decide_eq_true (show k < b by omega), Bool.and_true]
      by_cases ha : a ≤ k
      · rw [if_pos ha, decide_eq_true ha]
        rfl
      · rw [if_neg ha, decide_eq_false ha]
        rfl
theorem sorted_ext : ∀ {a b : List Nat}, a.Pairwise (· < ·) → b.Pairwise (· < ·) → (∀ k, k ∈ a ↔ k ∈ b) → a = b
  | [], [], _, _, _ => rfl
  | [], y :: b, _, _, h => by have := (h y).mpr (by simp); cases this
  | x :: a, [], _, _, h => by have := (h x).mp (by simp); cases this
  | x :: a, y :: b, ha, hb, h => by
    rw [List.pairwise_cons] at ha hb
    have hxy : x = y := by
      rcases List.mem_cons.mp ((h x).mp (by simp)) with e | e
      · exact e
      · rcases List.mem_cons.mp ((h y).mpr (by simp)) with e2 | e2
        · exact e2.symm
        · have := ha.1 y e2
          have := hb.1 x e
          omega
    subst hxy
    congr 1
    refine sorted_ext ha.2 hb.2 fun k => ⟨fun hk => ?_, fun hk => ?_⟩
    · rcases List.mem_cons.mp ((h k).mp (by simp [hk])) with e | e
      · have := ha.1 k hk
        omega
      · exact e
    · rcases List.mem_cons.mp ((h k).mpr (by simp [hk])) with e | e
      · have := hb.1 k hk
        omega
      · exact e
theorem cnt_step {es : List Nat} (hs : es.Pairwise (· < ·)) (k : Nat) : cnt es (k + 1) = cnt es k + (if k + 1 ∈ es then 1 else 0) := by
  induction es with
  | nil => rfl
  | cons a r ih =>
    rw [List.pairwise_cons] at hs
    rw [cnt_cons, cnt_cons, ih hs.2]
    by_cases h : a = k + 1
    · subst h
      have hn : k + 1 ∉ r := fun z => by have := hs.1 _ z; omega
      rw [if_pos (Nat.le_refl _), if_neg hn, if_neg (show ¬ k + 1 ≤ k by omega), if_pos (show k + 1 ∈ (k + 1) :: r by simp)]
      omega
    · have e : (if k + 1 ∈ a :: r then 1 else 0) = (if k + 1 ∈ r then 1 else 0) := by
        by_cases hr : k + 1 ∈ r
        · rw [if_pos hr, if_pos (by simp [hr])]
        · rw [if_neg hr, if_neg (by simp [hr]; omega)]
      rw [e]
      by_cases h2 : a ≤ k
      · rw [if_pos (by omega), if_pos h2]
        omega
      · rw [if_neg (by omega), if_neg h2]
        omega
theorem cnt_at0 {es : List Nat} (hs : es.Pairwise (· < ·)) : cnt es 0 = if 0 ∈ es then 1 else 0 := by
  cases es with
  | nil => rfl
  | cons a r =>
    rw [List.pairwise_cons] at hs
    rw [cnt_cons, cnt_zero fun e he => by have := hs.1 e he; omega]
    by_cases h : a = 0
    · subst h
      simp
    · rw [if_neg (by omega), if_neg]
      intro z
      rcases List.mem_cons.mp z with e | e
      · omega
      · have := hs.1 _ e
        omega
theorem eds_par {es : List Nat} {n : Nat} (hs : es.Pairwise (· < ·)) (hn : ∀ e ∈ es, e < n) : eds (par es) n = es := by
  refine sorted_ext (eds_sorted _ _) hs fun k => ?_
  unfold eds
  rw [List.mem_filter, List.mem_range]
  have key : (pv (par es) k != par es k) = decide (k ∈ es) := by
    cases k with
    | zero =>
      show (false != par es 0) = _
      unfold par
      rw [cnt_at0 hs]
      by_cases h : 0 ∈ es
      · rw [if_pos h, decide_eq_true h]
        rfl
      · rw [if_neg h, decide_eq_false h]
        rfl
    | succ k =>
      show (par es k != par es (k + 1)) = _
      unfold par
      rw [cnt_step hs]
      by_cases h : k + 1 ∈ es
      · rw [if_pos h, decide_eq_true h]
        rcases Nat.mod_two_eq_zero_or_one (cnt es k) with e | e
        · rw [show (cnt es k + 1) % 2 = 1 by omega, e]
          rfl
        · rw [show (cnt es k + 1) % 2 = 0 by omega, e]
          rfl
      · rw [if_neg h, decide_eq_false h, Nat.add_zero]
        simp
  rw [key]
  constructor
  · rintro ⟨_, h⟩
    exact of_decide_eq_true h
  · intro h
    exact ⟨hn k h, decide_eq_true h⟩
/-- runs as the program wants them -/
structure GoodR (rs : List (Nat × Nat)) : Prop where
  inc : (flatR rs).Pairwise (· < ·)
  top : ∀ e ∈ flatR rs, e ≤ 400
  few : rs.length ≤ 500
theorem pw_le {es : List Nat} (h : es.Pairwise (· < ·)) : es.Pairwise (· ≤ ·) := h.imp fun h => Nat.le_of_lt h
theorem ink_flat {rs : List (Nat × Nat)} (g : GoodR rs) (k : Nat) : inkR rs k = par (flatR rs) k := by
  have h := ink_par (flatR rs) k (pw_le g.inc) (by rw [flat_len]; omega)
  rw [pairUp_flat] at h
  exact h
theorem eds_ink {rs : List (Nat × Nat)} {n : Nat} (g : GoodR rs) (hn : ∀ e ∈ flatR rs, e < n) : pairUp (eds (inkR rs) n) = rs := by
  have e : eds (inkR rs) n = eds (par (flatR rs)) n := eds_congr fun k _ => ink_flat g k
  rw [e, eds_par g.inc hn, pairUp_flat]
theorem eds_even {f : Nat → Bool} {n : Nat} (h : f n = false) : (eds f (n + 1)).length % 2 = 0 := by
  have h2 := eds_odd f (n + 1)
  have h3 : pv f (n + 1) = f n := rfl
  rw [h3, h] at h2
  simp at h2
  omega
theorem pairUp_len : ∀ es : List Nat, (pairUp es).length ≤ es.length
  | [] => Nat.le_refl _
  | [a] => Nat.zero_le _
  | a :: b :: r => by
    have := pairUp_len r
    simp only [pairUp, List.length_cons]
    omega
theorem eds_len (f : Nat → Bool) (n : Nat) : (eds f n).length ≤ n := by
  have := List.length_filter_le (fun k => pv f k != f k) (List.range n)
  rw [List.length_range] at this
  exact this
theorem pairs_zip {α β : Type} (f : α → PyData) (g : β → PyData) : ∀ (xs : List α) (ys : List β), Dv.pairs (xs.map f) (ys.map g) = (xs.zip ys).map fun p => .tuple [f p.1, g p.2]
  | [], _ => rfl
  | x :: xs, [] => rfl
  | x :: xs, y :: ys => by
    have h := pairs_zip f g xs ys
    show PyData.tuple [f x, g y] :: Dv.pairs _ _ = PyData.tuple [f x, g y] :: _
    rw [h]
    rfl
theorem zip_inc : ∀ rs : List (Nat × Nat), (flatR rs).Pairwise (· < ·) → ∀ p ∈ rs.zip (rs.drop 1), p.1.2 < p.2.1
  | [], _, p, h => by cases h
  | [a], _, p, h => by cases h
  | a :: b :: r, hs, p, h => by
    have hs' : (a.1 :: a.2 :: b.1 :: b.2 :: flatR r).Pairwise (· < ·) := hs
    rw [List.pairwise_cons, List.pairwise_cons] at hs'
    rcases List.mem_cons.mp (show p ∈ (a, b) :: (b :: r).zip r from h) with rfl | h
    · exact hs'.2.1 _ (by simp)
    · exact zip_inc (b :: r) hs'.2.2 p h
theorem run_inc : ∀ rs : List (Nat × Nat), (flatR rs).Pairwise (· < ·) → ∀ p ∈ rs, p.1 < p.2
  | [], _, p, h => by cases h
  | a :: r, hs, p, h => by
    have hs' : (a.1 :: a.2 :: flatR r).Pairwise (· < ·) := hs
    rw [List.pairwise_cons, List.pairwise_cons] at hs'
    rcases List.mem_cons.mp h with rfl | h
    · exact hs'.1 _ (by simp)
    · exact run_inc r hs'.2.2 p h
theorem mem_flat : ∀ {rs : List (Nat × Nat)} {p : Nat × Nat}, p ∈ rs → p.1 ∈ flatR rs ∧ p.2 ∈ flatR rs
  | a :: r, p, h => by
    rcases List.mem_cons.mp h with rfl | h
    · simp [flatR]
    · have := mem_flat h
      simp [flatR, this]
theorem good_eds {f : Nat → Bool} {n : Nat} (h : f n = false) (hn : n ≤ 400) : GoodR (pairUp (eds f (n + 1))) := by
  have e := flat_pairUp _ (eds_even h)
  exact ⟨by rw [e]; exact eds_sorted _ _, fun x hx => by rw [e] at hx; have := eds_lt hx; omega, by have := pairUp_len (eds f (n + 1)); have := eds_len f (n + 1); omega⟩
theorem ink_eds {f : Nat → Bool} {n k : Nat} (h : f n = false) (hk : k < n) : inkR (pairUp (eds f (n + 1))) k = f k := by
  rw [ink_par _ _ (pw_le (eds_sorted _ _)) (eds_even h), par_eds (by omega)]
/-! how far two rows are apart -/
theorem sum_zero {α : Type} : ∀ xs : List α, (xs.map fun _ => 0).sum = 0
  | [] => rfl
  | _ :: xs => by rw [List.map_cons, List.sum_cons, sum_zero xs]
theorem sum_bits {f : Nat → Bool} : ∀ {a b : Nat}, a ≤ b → ∀ w, b ≤ w → ((List.range w).map fun k => (decide (a ≤ k) && decide (k < b)).toNat).sum = b - a := by
  intro a b hab w hw
  induction w generalizing b with
  | zero =>
    have : b = 0 := by omega
    subst this
    simp
  | succ w ih =>
    rw [List.range_succ, List.map_append, List.sum_append]
    by_cases hb : b ≤ w
    · rw [ih hab hb]
      simp
      omega
    · have hb' : b = w + 1 := by omega
      subst hb'
      by_cases ha : a ≤ w
      · have e := ih (b := w) ha (Nat.le_refl _)
        have e2 : ((List.range w).map fun k => (decide (a ≤ k) && decide (k < w + 1)).toNat) = ((List.range w).map fun k => (decide (a ≤ k) && decide (k < w)).toNat) := List.map_congr_left fun k hk => by
          have := List.mem_range.mp hk
          rw [decide_eq_true (show k < w + 1 by omega), decide_eq_true this]
        rw [e2, e]
        simp [ha]
        omega
      · have e2 : ((List.range w).map fun k => (decide (a ≤ k) && decide (k < w + 1)).toNat).sum = 0 := by
          have : ((List.range w).map fun k => (decide (a ≤ k) && decide (k < w + 1)).toNat) = (List.range w).map fun _ => 0 := List.map_congr_left fun k hk => by
            have := List.mem_range.mp hk
            rw [decide_eq_false (show ¬ a ≤ k by omega)]
            rfl
          rw [this, sum_zero]
        rw [e2]
        simp [ha]
        omega
def spans : List Nat → Nat
  | a :: b :: r => (b - a) + spans r
  | _ => 0
theorem sum_add {α : Type} (f g : α → Nat) : ∀ xs : List α, (xs.map fun x => f x + g x).sum = (xs.map f).sum + (xs.map g).sum
  | [] => rfl
  | x :: xs => by
    have := sum_add f g xs
    simp only [List.map_cons, List.sum_cons]
    omega
theorem spans_par (w : Nat) : ∀ (es : List Nat), es.Pairwise (· ≤ ·) → es.length % 2 = 0 → (∀ e ∈ es, e ≤ w) → spans es = ((List.range w).map fun k => (par es k).toNat).sum
  | [], _, _, _ => by
    have : ((List.range w).map fun k => (par [] k).toNat) = (List.range w).map fun _ => 0 := List.map_congr_left fun k hk => rfl
    rw [this, sum_zero]
    rfl
  | [a], _, h, _ => by cases h
  | a :: b :: r, hs, hl, hw => by
    have hs0 := hs
    rw [List.pairwise_cons, List.pairwise_cons] at hs
    obtain ⟨h1, h2, h3⟩ := hs
    have hl' : r.length % 2 = 0 := by simp only [List.length_cons] at hl; omega
    have ih := spans_par w r h3 hl' fun e he => hw e (by simp [he])
    have hab := h1 b (by simp)
    show (b - a) + spans r = _
    rw [ih, ← sum_bits (f := fun _ => false) hab w (hw b (by simp)), ← sum_add]
    congr 1
    refine List.map_congr_left fun k _ => ?_
    rw [← ink_par (a :: b :: r) k hs0 hl, ← ink_par r k h3 hl']
    show _ = ((decide (a ≤ k) && decide (k < b)) || inkR (pairUp r) k).toNat
    by_cases hc : (decide (a ≤ k) && decide (k < b)) = true
    · have hc' := hc
      rw [Bool.and_eq_true] at hc'
      have hb := of_decide_eq_true hc'.2
      rw [ink_par r k h3 hl', hc]
      unfold par
      rw [cnt_zero fun e he => by have := h2 e he; omega]
      rfl
    · have hc' : (decide (a ≤ k) && decide (k < b)) = false := by simpa using hc
      rw [hc']
      simp
def apart (a b : List (Nat × Nat)) (w : Nat) : Nat := ((List.range w).map fun k => (inkR a k != inkR b k).toNat).sum
theorem apart_self (a : List (Nat × Nat)) (w : Nat) : apart a a w = 0 := by
  unfold apart
  have : ((List.range w).map fun k => (inkR a k != inkR a k).toNat) = (List.range w).map fun _ => 0 := List.map_congr_left fun k hk => by simp
  rw [this, sum_zero]
theorem apart_comm (a b : List (Nat × Nat)) (w : Nat) : apart a b w = apart b a w := by
  unfold apart
  congr 1
  refine List.map_congr_left fun k hk => ?_
  rw [bne_comm]
theorem apart_spans {a b : List (Nat × Nat)} {es : List Nat} {w : Nat} (ga : GoodR a) (gb : GoodR b) (hp : es.Perm (flatR a ++ flatR b)) (hs : es.Pairwise (· ≤ ·)) (hw : ∀ e ∈ es, e ≤ w) : spans es = apart a b w := by
  rw [spans_par w es hs (by rw [hp.length_eq, List.length_append, flat_len, flat_len]; omega) hw]
  unfold apart
  congr 1
  refine List.map_congr_left fun k _ => ?_
  rw [ink_flat ga, ink_flat gb]
  unfold par
  rw [cnt_perm hp, cnt_app]
  rcases Nat.mod_two_eq_zero_or_one (cnt (flatR a) k) with e1 | e1 <;> rcases Nat.mod_two_eq_zero_or_one (cnt (flatR b) k) with e2 | e2
  · rw [e1, e2, show (cnt (flatR a) k + cnt (flatR b) k) % 2 = 0 by omega]
    rfl
  · rw [e1, e2, show (cnt (flatR a) k + cnt (flatR b) k) % 2 = 1 by omega]
    rfl
  · rw [e1, e2, show (cnt (flatR a) k + cnt (flatR b) k) % 2 = 1 by omega]
    rfl
  · rw [e1, e2, show (cnt (flatR a) k + cnt (flatR b) k) % 2 = 0 by omega]
    rfl
theorem spans_pairs : ∀ es : List Nat, ((pairUp es).map fun p => p.2 - p.1).sum = spans es
  | [] => rfl
  | [a] => rfl
  | a :: b :: r => by
    have := spans_pairs r
    show (((a, b) :: pairUp r).map fun p => p.2 - p.1).sum = (b - a) + spans r
    rw [List.map_cons, List.sum_cons, this]
theorem sum_swap {α β : Type} (f : α → β → Nat) (ys : List β) : ∀ xs : List α, (xs.map fun x => (ys.map fun y => f x y).sum).sum = (ys.map fun y => (xs.map fun x => f x y).sum).sum
  | [] => (sum_zero ys).symm
  | x :: xs => by
    rw [List.map_cons, List.sum_cons, sum_swap f ys xs, ← sum_add]
    rfl
end TR

namespace K04
open PySem L2 Dv TL TR TM
local macro_rules | `(tactic| walk_at "dv1") => `(tactic| first
  | with_reducible refine q_seq ?_
  | with_reducible refine q_nx ?_
  | with_reducible refine q_ret ?_
  | with_reducible refine q_retN ?_
  | with_reducible refine q_if ?_
  | with_reducible refine q_set ?_
  | with_reducible refine q_setJ ?_
  | with_reducible refine q_brk ?_
  | with_reducible refine q_cont ?_
  | ((with_reducible show Ws _ _ (tAug _ _ _) _ _); refine q_aug rfl ?_)
  | with_reducible refine q_par ?_
  | with_reducible refine q_par3 ?_
  | with_reducible refine we_int ?_
  | with_reducible refine we_str ?_
  | with_reducible refine we_bl ?_
  | with_reducible refine we_non ?_
  | ((with_reducible show We (tVar _) _ _); refine we_var rfl ?_)
  | ((with_reducible show We (tOp (rIx _) (tVar _) _) _ _); refine we_ixR rfl ?_)
  | with_reducible refine we_op ?_
  | with_reducible refine we_un ?_
  | (with_reducible refine we_isi (by decide +kernel) ?_)
  | (with_reducible refine we_isi2 (by decide +kernel) (by decide +kernel) ?_)
  | with_reducible refine we_cb ?_
  | with_reducible refine we_if ?_
  | with_reducible refine we_andT ?_
  | with_reducible refine we_orT ?_
  | with_reducible refine we_notT ?_
  | with_reducible refine we_tup ?_
  | with_reducible refine we_chain ?_
  | with_reducible refine we_m1 ?_
  | with_reducible refine we_sl ?_
  | with_reducible refine we_bits ?_
  | with_reducible refine we_callZ rfl ?_
  | with_reducible refine we_callZR rfl rfl (by decide) ?_
  | with_reducible refine we_call ?_
  | with_reducible refine we_callX ?_
  | with_reducible refine we_callD rpa_none1 ?_
  | with_reducible refine we_callXD rpa_none1 ?_
  | with_reducible refine we_callKX ?_
  | with_reducible refine we_own (wr_call ?_)
  | with_reducible refine we_own (wr_callK ?_)
  | with_reducible refine len_ok (by simp) ?_
  | with_reducible refine we_new (wn_lst ?_)
  | with_reducible refine wo_none ?_
  | with_reducible refine wo_some ?_
  | with_reducible refine wa_nil ?_
  | with_reducible refine wa_cons ?_
  | with_reducible refine wt_test ?_
  | with_reducible refine wt_B ?_
  | with_reducible refine wt_and ?_
  | with_reducible refine wt_or ?_
  | with_reducible refine wt_not ?_
  | with_reducible refine wt_tru ?_
  | with_reducible refine op2_addI ?_
  | with_reducible refine op2_I0 ?_
  | with_reducible refine op2_B0 ?_
  | with_reducible refine op2_ip ?_
  | with_reducible refine opf2_B0 ?_
  | with_reducible refine op2_mod (by first | decide | omega) ?_
  | with_reducible refine op2_fdiv (by first | decide | omega) (by first | decide | omega) ?_
  | with_reducible refine op2_shr (by first | decide | omega) ?_
  | with_reducible refine op2_mulL (by first | decide | omega) (by first | decide | omega) ?_
  | with_reducible refine op2_mulR (by first | decide | omega) (by first | decide | omega) ?_
  | with_reducible refine op1_U ?_
  | (with_reducible refine (op2_eqI ?_).op)
  | (with_reducible refine (op2_neI ?_).op)
  | (with_reducible refine (op2_eqS ?_).op)
  | (with_reducible refine (op2_neS ?_).op)
  | (with_reducible refine (op2_eqB ?_).op)
  | (with_reducible refine (op2_neB ?_).op)
  | (with_reducible refine (op2_isN ?_).op)
  | (with_reducible refine (op2_notN ?_).op)
  | (with_reducible refine (op2_isB ?_).op)
  | (with_reducible refine (opc_int ?_).op)
  | (with_reducible refine (opc_intB ?_).op)
  | (with_reducible refine (opc_max2 ?_).op)
  | (with_reducible refine (opc_min2 ?_).op)
  | (with_reducible refine (opc_lenL ?_).op)
  | (with_reducible refine (opc_lenT ?_).op)
  | with_reducible refine wt_yes ?_
  | with_reducible refine sld_l ?_
  | with_reducible refine sld_t ?_
  | with_reducible refine tru_b ?_
  | with_reducible refine tru_i ?_
  | with_reducible refine tru_n ?_
  | with_reducible refine tru_l ?_
  | with_reducible refine tru_t ?_
  | with_reducible refine nb_t ?_
  | with_reducible refine nb_f ?_
  | with_reducible refine wt_t ?_
  | with_reducible refine wt_f ?_)
local macro_rules | `(tactic| walk_at "dv") => `(tactic| repeat (first | walk_at "dv1" | (with_reducible refine ⟨_, rfl, ?_⟩) | (with_reducible refine slotL rfl ?_) | with_reducible refine pairL ?_ | with_reducible refine tripL ?_ | (refine ⟨_, _, _, rfl, rfl, rfl, ?_⟩) | (dsimp only [List.set_cons_zero, List.set_cons_succ]) | rw [isT_list] | rw [isT_tuple] | rw [isT_str] | rw [isT_int] | rw [isT_bool] | refine wt_y rfl ?_ | refine wt_n rfl ?_))

def topS (i : Nat) : Stmt := PySem.Challenge.pw_inksays_k04_whole_pictures_told_apart.main.body.getD i (.Pass ⟨0, 0, 0, 0⟩)
abbrev s_is_whole : Stmt := topS 8
abbrev nm_is_whole : List Str := ["value", "least", "most"]
theorem sc_is_whole : FnScope nm_is_whole ["value", "least", "most"] (defScope s_is_whole) := ⟨rfl, rfl, rfl, by decide +kernel, rfl, by decide +kernel, by decide +kernel⟩
abbrev s_are_rows : Stmt := topS 9
abbrev nm_are_rows : List Str := ["value", "signs", "row"]
theorem sc_are_rows : FnScope nm_are_rows ["value", "signs"] (defScope s_are_rows) := ⟨rfl, rfl, rfl, by decide +kernel, rfl, by decide +kernel, by decide +kernel⟩
abbrev s_is_picture : Stmt := topS 10
abbrev nm_is_picture : List Str := ["value"]
theorem sc_is_picture : FnScope nm_is_picture ["value"] (defScope s_is_picture) := ⟨rfl, rfl, rfl, by decide +kernel, rfl, by decide +kernel, by decide +kernel⟩
abbrev s_is_blotted : Stmt := topS 11
abbrev nm_is_blotted : List Str := ["value"]
theorem sc_is_blotted : FnScope nm_is_blotted ["value"] (defScope s_is_blotted) := ⟨rfl, rfl, rfl, by decide +kernel, rfl, by decide +kernel, by decide +kernel⟩
abbrev s_look_at_count : Stmt := topS 12
abbrev nm_look_at_count : List Str := ["value", "most"]
theorem sc_look_at_count : FnScope nm_look_at_count ["value", "most"] (defScope s_look_at_count) := ⟨rfl, rfl, rfl, by decide +kernel, rfl, by decide +kernel, by decide +kernel⟩
abbrev s_wide_of : Stmt := topS 13
abbrev nm_wide_of : List Str := ["picture"]
theorem sc_wide_of : FnScope nm_wide_of ["picture"] (defScope s_wide_of) := ⟨rfl, rfl, rfl, by decide +kernel, rfl, by decide +kernel, by decide +kernel⟩
abbrev s_cut_right : Stmt := topS 14
abbrev nm_cut_right : List Str := ["picture", "wide", "row"]
theorem sc_cut_right : FnScope nm_cut_right ["picture"] (defScope s_cut_right) := ⟨rfl, rfl, rfl, by decide +kernel, rfl, by decide +kernel, by decide +kernel⟩
abbrev s_marks : Stmt := topS 15
abbrev nm_marks : List Str := ["row", "sign", "one"]
theorem sc_marks : FnScope nm_marks ["row", "sign"] (defScope s_marks) := ⟨rfl, rfl, rfl, by decide +kernel, rfl, by decide +kernel, by decide +kernel⟩
abbrev s_masks_of : Stmt := topS 16
abbrev nm_masks_of : List Str := ["picture", "row"]
theorem sc_masks_of : FnScope nm_masks_of ["picture"] (defScope s_masks_of) := ⟨rfl, rfl, rfl, by decide +kernel, rfl, by decide +kernel, by decide +kernel⟩
abbrev s_unlike_of : Stmt := topS 17
abbrev nm_unlike_of : List Str := ["one", "other", "ink", "hidden", "more", "blot"]
theorem sc_unlike_of : FnScope nm_unlike_of ["one", "other"] (defScope s_unlike_of) := ⟨rfl, rfl, rfl, by decide +kernel, rfl, by decide +kernel, by decide +kernel⟩
abbrev s_count_of : Stmt := topS 18
abbrev nm_count_of : List Str := ["numbers", "number"]
theorem sc_count_of : FnScope nm_count_of ["numbers"] (defScope s_count_of) := ⟨rfl, rfl, rfl, by decide +kernel, rfl, by decide +kernel, by decide +kernel⟩
abbrev s_look_beside : Stmt := topS 19
abbrev nm_look_beside : List Str := ["one", "other"]
theorem sc_look_beside : FnScope nm_look_beside ["one", "other"] (defScope s_look_beside) := ⟨rfl, rfl, rfl, by decide +kernel, rfl, by decide +kernel, by decide +kernel⟩
abbrev s_distance_of : Stmt := topS 20
abbrev nm_distance_of : List Str := ["one", "other"]
theorem sc_distance_of : FnScope nm_distance_of ["one", "other"] (defScope s_distance_of) := ⟨rfl, rfl, rfl, by decide +kernel, rfl, by decide +kernel, by decide +kernel⟩
abbrev s_halved : Stmt := topS 23
abbrev nm_halved : List Str := ["one", "other", "spoilt", "blots", "wide", "rows", "more", "dots", "hidden", "left", "k", "i", "row"]
theorem sc_halved : FnScope nm_halved ["one", "other", "spoilt", "blots"] (defScope s_halved) := ⟨rfl, rfl, rfl, by decide +kernel, rfl, by decide +kernel, by decide +kernel⟩
abbrev s_are_pictures : Stmt := topS 24
abbrev nm_are_pictures : List Str := ["value", "one"]
theorem sc_are_pictures : FnScope nm_are_pictures ["value"] (defScope s_are_pictures) := ⟨rfl, rfl, rfl, by decide +kernel, rfl, by decide +kernel, by decide +kernel⟩
abbrev s_told_apart : Stmt := topS 25
abbrev nm_told_apart : List Str := ["pictures", "spoilt", "blots", "masks", "i", "one", "j", "picture"]
theorem sc_told_apart : FnScope nm_told_apart ["pictures", "spoilt", "blots"] (defScope s_told_apart) := ⟨rfl, rfl, rfl, by decide +kernel, rfl, by decide +kernel, by decide +kernel⟩
abbrev s_nearest_of : Stmt := topS 26
abbrev nm_nearest_of : List Str := ["pictures", "blotted", "told", "picture", "i", "far"]
theorem sc_nearest_of : FnScope nm_nearest_of ["pictures", "blotted"] (defScope s_nearest_of) := ⟨rfl, rfl, rfl, by decide +kernel, rfl, by decide +kernel, by decide +kernel⟩
abbrev s__law_list : Stmt := topS 28
abbrev nm__law_list : List Str := ["purse", "most", "high", "found", "turn", "way", "elder", "row"]
theorem sc__law_list : FnScope nm__law_list ["purse", "most"] (defScope s__law_list) := ⟨rfl, rfl, rfl, by decide +kernel, rfl, by decide +kernel, by decide +kernel⟩
abbrev s__law_first : Stmt := topS 29
abbrev nm__law_first : List Str := ["pictures", "budget", "i", "j"]
theorem sc__law_first : FnScope nm__law_first ["pictures", "budget"] (defScope s__law_first) := ⟨rfl, rfl, rfl, by decide +kernel, rfl, by decide +kernel, by decide +kernel⟩
abbrev s__law_nearest : Stmt := topS 30
abbrev nm__law_nearest : List Str := ["pictures", "blotted", "far", "picture", "i"]
theorem sc__law_nearest : FnScope nm__law_nearest ["pictures", "blotted"] (defScope s__law_nearest) := ⟨rfl, rfl, rfl, by decide +kernel, rfl, by decide +kernel, by decide +kernel⟩
abbrev s__law_right : Stmt := topS 31
abbrev nm__law_right : List Str := ["purse", "pictures", "spoilt", "blots", "kept", "due", "turn", "told", "at", "blotted", "near", "place", "i"]
theorem sc__law_right : FnScope nm__law_right ["purse", "pictures"] (defScope s__law_right) := ⟨rfl, rfl, rfl, by decide +kernel, rfl, by decide +kernel, by decide +kernel⟩
abbrev s__law_blots : Stmt := topS 32
abbrev nm__law_blots : List Str := ["purse", "picture", "many", "rows", "turn", "row"]
theorem sc__law_blots : FnScope nm__law_blots ["purse", "picture", "many"] (defScope s__law_blots) := ⟨rfl, rfl, rfl, by decide +kernel, rfl, by decide +kernel, by decide +kernel⟩
abbrev s__law_purse : Stmt := topS 33
abbrev nm__law_purse : List Str := ["script", "seed", "cell"]
theorem sc__law_purse : FnScope nm__law_purse ["script"] (defScope s__law_purse) := ⟨rfl, rfl, rfl, by decide +kernel, rfl, by decide +kernel, by decide +kernel⟩
abbrev s__law_draw : Stmt := topS 34
abbrev nm__law_draw : List Str := ["purse", "many", "told", "mixed"]
theorem sc__law_draw : FnScope nm__law_draw ["purse", "many"] (defScope s__law_draw) := ⟨rfl, rfl, rfl, by decide +kernel, rfl, by decide +kernel, by decide +kernel⟩
abbrev s__law_pick : Stmt := topS 35
abbrev nm__law_pick : List Str := ["purse", "things"]
theorem sc__law_pick : FnScope nm__law_pick ["purse", "things"] (defScope s__law_pick) := ⟨rfl, rfl, rfl, by decide +kernel, rfl, by decide +kernel, by decide +kernel⟩
abbrev s__law_same : Stmt := topS 36
abbrev nm__law_same : List Str := ["told", "due", "alike", "one", "other"]
theorem sc__law_same : FnScope nm__law_same ["told", "due"] (defScope s__law_same) := ⟨rfl, rfl, rfl, by decide +kernel, rfl, by decide +kernel, by decide +kernel⟩
abbrev s__law_spoilt : Stmt := topS 37
abbrev nm__law_spoilt : List Str := ["told", "found", "part"]
theorem sc__law_spoilt : FnScope nm__law_spoilt ["told"] (defScope s__law_spoilt) := ⟨rfl, rfl, rfl, by decide +kernel, rfl, by decide +kernel, by decide +kernel⟩
abbrev s__law_rows : Stmt := topS 38
abbrev nm__law_rows : List Str := ["purse", "wide", "high", "blots", "share", "dense", "found", "i", "signs", "k", "sign"]
theorem sc__law_rows : FnScope nm__law_rows ["purse", "wide", "high", "blots"] (defScope s__law_rows) := ⟨rfl, rfl, rfl, by decide +kernel, rfl, by decide +kernel, by decide +kernel⟩
abbrev s__law_sign : Stmt := topS 39
abbrev nm__law_sign : List Str := ["picture", "column", "row"]
theorem sc__law_sign : FnScope nm__law_sign ["picture", "column", "row"] (defScope s__law_sign) := ⟨rfl, rfl, rfl, by decide +kernel, rfl, by decide +kernel, by decide +kernel⟩
abbrev s__law_wide : Stmt := topS 40
abbrev nm__law_wide : List Str := ["picture"]
theorem sc__law_wide : FnScope nm__law_wide ["picture"] (defScope s__law_wide) := ⟨rfl, rfl, rfl, by decide +kernel, rfl, by decide +kernel, by decide +kernel⟩
abbrev s__law_far : Stmt := topS 41
abbrev nm__law_far : List Str := ["one", "other", "wide", "found", "k", "i"]
theorem sc__law_far : FnScope nm__law_far ["one", "other"] (defScope s__law_far) := ⟨rfl, rfl, rfl, by decide +kernel, rfl, by decide +kernel, by decide +kernel⟩
abbrev s__law_could : Stmt := topS 42
abbrev nm__law_could : List Str := ["picture", "blotted", "spoilt", "blots", "row"]
theorem sc__law_could : FnScope nm__law_could ["picture", "blotted", "spoilt", "blots"] (defScope s__law_could) := ⟨rfl, rfl, rfl, by decide +kernel, rfl, by decide +kernel, by decide +kernel⟩
abbrev s__law_is_sheet : Stmt := topS 43
abbrev nm__law_is_sheet : List Str := ["value", "high", "row", "sign"]
theorem sc__law_is_sheet : FnScope nm__law_is_sheet ["value", "high"] (defScope s__law_is_sheet) := ⟨rfl, rfl, rfl, by decide +kernel, rfl, by decide +kernel, by decide +kernel⟩
abbrev s__law_spoilt_rows : Stmt := topS 44
abbrev nm__law_spoilt_rows : List Str := ["purse", "picture", "many", "blots", "rows", "turn", "row", "k"]
theorem sc__law_spoilt_rows : FnScope nm__law_spoilt_rows ["purse", "picture", "many", "blots"] (defScope s__law_spoilt_rows) := ⟨rfl, rfl, rfl, by decide +kernel, rfl, by decide +kernel, by decide +kernel⟩
abbrev s_law : Stmt := topS 45
abbrev nm_law : List Str := ["script", "purse", "most", "pictures", "picture", "row"]
theorem sc_law : FnScope nm_law ["script"] (defScope s_law) := ⟨rfl, rfl, rfl, by decide +kernel, rfl, by decide +kernel, by decide +kernel⟩
structure Txt (P : Program) (K : PySem.W.Frag) (mg : Str → Option Value) where
  a_is_whole : Addr
  d_is_whole : FuncData
  F_is_whole : FunT K "is_whole" "is_whole" s_is_whole [.none, .none] a_is_whole d_is_whole
  g_is_whole : mg "is_whole" = some (.ref a_is_whole)
  a_are_rows : Addr
  d_are_rows : FuncData
  F_are_rows : Fun K "are_rows" "are_rows" s_are_rows a_are_rows d_are_rows
  g_are_rows : mg "are_rows" = some (.ref a_are_rows)
  a_is_picture : Addr
  d_is_picture : FuncData
  F_is_picture : Fun K "is_picture" "is_picture" s_is_picture a_is_picture d_is_picture
  g_is_picture : mg "is_picture" = some (.ref a_is_picture)
  a_is_blotted : Addr
  d_is_blotted : FuncData
  F_is_blotted : Fun K "is_blotted" "is_blotted" s_is_blotted a_is_blotted d_is_blotted
  g_is_blotted : mg "is_blotted" = some (.ref a_is_blotted)
  a_look_at_count : Addr
  d_look_at_count : FuncData
  F_look_at_count : FunT K "look_at_count" "look_at_count" s_look_at_count [.none] a_look_at_count d_look_at_count
  g_look_at_count : mg "look_at_count" = some (.ref a_look_at_count)
  a_wide_of : Addr
  d_wide_of : FuncData
  F_wide_of : Fun K "wide_of" "wide_of" s_wide_of a_wide_of d_wide_of
  g_wide_of : mg "wide_of" = some (.ref a_wide_of)
  a_cut_right : Addr
  d_cut_right : FuncData
  F_cut_right : Fun K "cut_right" "cut_right" s_cut_right a_cut_right d_cut_right
  g_cut_right : mg "cut_right" = some (.ref a_cut_right)
  a_marks : Addr
  d_marks : FuncData
  F_marks : Fun K "marks" "marks" s_marks a_marks d_marks
  g_marks : mg "marks" = some (.ref a_marks)
  a_masks_of : Addr
  d_masks_of : FuncData
  F_masks_of : Fun K "masks_of" "masks_of" s_masks_of a_masks_of d_masks_of
  g_masks_of : mg "masks_of" = some (.ref a_masks_of)
  a_unlike_of : Addr
  d_unlike_of : FuncData
  F_unlike_of : Fun K "unlike_of" "unlike_of" s_unlike_of a_unlike_of d_unlike_of
  g_unlike_of : mg "unlike_of" = some (.ref a_unlike_of)
  a_count_of : Addr
  d_count_of : FuncData
  F_count_of : Fun K "count_of" "count_of" s_count_of a_count_of d_count_of
  g_count_of : mg "count_of" = some (.ref a_count_of)
  a_look_beside : Addr
  d_look_beside : FuncData
  F_look_beside : Fun K "look_beside" "look_beside" s_look_beside a_look_beside d_look_beside
  g_look_beside : mg "look_beside" = some (.ref a_look_beside)
  a_distance_of : Addr
  d_distance_of : FuncData
  F_distance_of : Fun K "distance_of" "distance_of" s_distance_of a_distance_of d_distance_of
  g_distance_of : mg "distance_of" = some (.ref a_distance_of)
  a_halved : Addr
  d_halved : FuncData
  F_halved : Fun K "halved" "halved" s_halved a_halved d_halved
  g_halved : mg "halved" = some (.ref a_halved)
  a_are_pictures : Addr
  d_are_pictures : FuncData
  F_are_pictures : Fun K "are_pictures" "are_pictures" s_are_pictures a_are_pictures d_are_pictures
  g_are_pictures : mg "are_pictures" = some (.ref a_are_pictures)
  a_told_apart : Addr
  d_told_apart : FuncData
  F_told_apart : Fun K "told_apart" "told_apart" s_told_apart a_told_apart d_told_apart
  g_told_apart : mg "told_apart" = some (.ref a_told_apart)
  a_nearest_of : Addr
  d_nearest_of : FuncData
  F_nearest_of : Fun K "nearest_of" "nearest_of" s_nearest_of a_nearest_of d_nearest_of
  g_nearest_of : mg "nearest_of" = some (.ref a_nearest_of)
  a__law_list : Addr
  d__law_list : FuncData
  F__law_list : Fun K "_law_list" "_law_list" s__law_list a__law_list d__law_list
  g__law_list : mg "_law_list" = some (.ref a__law_list)
  a__law_first : Addr
  d__law_first : FuncData
  F__law_first : Fun K "_law_first" "_law_first" s__law_first a__law_first d__law_first
  g__law_first : mg "_law_first" = some (.ref a__law_first)
  a__law_nearest : Addr
  d__law_nearest : FuncData
  F__law_nearest : Fun K "_law_nearest" "_law_nearest" s__law_nearest a__law_nearest d__law_nearest
  g__law_nearest : mg "_law_nearest" = some (.ref a__law_nearest)
  a__law_right : Addr
  d__law_right : FuncData
  F__law_right : Fun K "_law_right" "_law_right" s__law_right a__law_right d__law_right
  g__law_right : mg "_law_right" = some (.ref a__law_right)
  a__law_blots : Addr
  d__law_blots : FuncData
  F__law_blots : Fun K "_law_blots" "_law_blots" s__law_blots a__law_blots d__law_blots
  g__law_blots : mg "_law_blots" = some (.ref a__law_blots)
  a__law_purse : Addr
  d__law_purse : FuncData
  F__law_purse : Fun K "_law_purse" "_law_purse" s__law_purse a__law_purse d__law_purse
  g__law_purse : mg "_law_purse" = some (.ref a__law_purse)
  a__law_draw : Addr
  d__law_draw : FuncData
  F__law_draw : Fun K "_law_draw" "_law_draw" s__law_draw a__law_draw d__law_draw
  g__law_draw : mg "_law_draw" = some (.ref a__law_draw)
  a__law_pick : Addr
  d__law_pick : FuncData
  F__law_pick : Fun K "_law_pick" "_law_pick" s__law_pick a__law_pick d__law_pick
  g__law_pick : mg "_law_pick" = some (.ref a__law_pick)
  a__law_same : Addr
  d__law_same : FuncData
  F__law_same : Fun K "_law_same" "_law_same" s__law_same a__law_same d__law_same
  g__law_same : mg "_law_same" = some (.ref a__law_same)
  a__law_spoilt : Addr
  d__law_spoilt : FuncData
  F__law_spoilt : Fun K "_law_spoilt" "_law_spoilt" s__law_spoilt a__law_spoilt d__law_spoilt
  g__law_spoilt : mg "_law_spoilt" = some (.ref a__law_spoilt)
  a__law_rows : Addr
  d__law_rows : FuncData
  F__law_rows : Fun K "_law_rows" "_law_rows" s__law_rows a__law_rows d__law_rows
  g__law_rows : mg "_law_rows" = some (.ref a__law_rows)
  a__law_sign : Addr
  d__law_sign : FuncData
  F__law_sign : Fun K "_law_sign" "_law_sign" s__law_sign a__law_sign d__law_sign
  g__law_sign : mg "_law_sign" = some (.ref a__law_sign)
  a__law_wide : Addr
  d__law_wide : FuncData
  F__law_wide : Fun K "_law_wide" "_law_wide" s__law_wide a__law_wide d__law_wide
  g__law_wide : mg "_law_wide" = some (.ref a__law_wide)
  a__law_far : Addr
  d__law_far : FuncData
  F__law_far : Fun K "_law_far" "_law_far" s__law_far a__law_far d__law_far
  g__law_far : mg "_law_far" = some (.ref a__law_far)
  a__law_could : Addr
  d__law_could : FuncData
  F__law_could : Fun K "_law_could" "_law_could" s__law_could a__law_could d__law_could
  g__law_could : mg "_law_could" = some (.ref a__law_could)
  a__law_is_sheet : Addr
  d__law_is_sheet : FuncData
  F__law_is_sheet : Fun K "_law_is_sheet" "_law_is_sheet" s__law_is_sheet a__law_is_sheet d__law_is_sheet
  g__law_is_sheet : mg "_law_is_sheet" = some (.ref a__law_is_sheet)
  a__law_spoilt_rows : Addr
  d__law_spoilt_rows : FuncData
  F__law_spoilt_rows : Fun K "_law_spoilt_rows" "_law_spoilt_rows" s__law_spoilt_rows a__law_spoilt_rows d__law_spoilt_rows
  g__law_spoilt_rows : mg "_law_spoilt_rows" = some (.ref a__law_spoilt_rows)
  a_law : Addr
  d_law : FuncData
  F_law : Fun K "law" "law" s_law a_law d_law
  g_law : mg "law" = some (.ref a_law)
  a_InkError : Addr
  g_InkError : mg "InkError" = some (.ref a_InkError)
  a_InvalidBlotted : Addr
  g_InvalidBlotted : mg "InvalidBlotted" = some (.ref a_InvalidBlotted)
  a_InvalidNumber : Addr
  g_InvalidNumber : mg "InvalidNumber" = some (.ref a_InvalidNumber)
  a_InvalidPictures : Addr
  g_InvalidPictures : mg "InvalidPictures" = some (.ref a_InvalidPictures)
  i_InvalidBlotted : Addr
  di_InvalidBlotted : FuncData
  X_InvalidBlotted : XcC P K mg "InvalidBlotted" a_InvalidBlotted i_InvalidBlotted di_InvalidBlotted
  q_InvalidBlotted : XqC K a_InvalidBlotted
  i_InvalidNumber : Addr
  di_InvalidNumber : FuncData
  X_InvalidNumber : XcC P K mg "InvalidNumber" a_InvalidNumber i_InvalidNumber di_InvalidNumber
  q_InvalidNumber : XqC K a_InvalidNumber
  i_InvalidPictures : Addr
  di_InvalidPictures : FuncData
  X_InvalidPictures : XcC P K mg "InvalidPictures" a_InvalidPictures i_InvalidPictures di_InvalidPictures
  q_InvalidPictures : XqC K a_InvalidPictures
  t_MOST_HIGH : Tok
  c_MOST_HIGH : mg "MOST_HIGH" = some (.int 120 t_MOST_HIGH)
  t_MOST_WIDE : Tok
  c_MOST_WIDE : mg "MOST_WIDE" = some (.int 400 t_MOST_WIDE)
  t_MOST_PICTURES : Tok
  c_MOST_PICTURES : mg "MOST_PICTURES" = some (.int 60 t_MOST_PICTURES)
  z_all : mg "all" = none
  z_bool : mg "bool" = none
  z_enumerate : mg "enumerate" = none
  z_int : mg "int" = none
  z_isinstance : mg "isinstance" = none
  z_len : mg "len" = none
  z_list : mg "list" = none
  z_max : mg "max" = none
  z_min : mg "min" = none
  z_range : mg "range" = none
  z_repr : mg "repr" = none
  z_reversed : mg "reversed" = none
  z_sorted : mg "sorted" = none
  z_str : mg "str" = none
  z_sum : mg "sum" = none
  z_tuple : mg "tuple" = none
  z_zip : mg "zip" = none
def Txt.cA {P : Program} {K : PySem.W.Frag} {mg : Str → Option Value} (T : Txt P K mg) (n : String) : Addr := if n = "InvalidBlotted" then T.a_InvalidBlotted else if n = "InvalidNumber" then T.a_InvalidNumber else if n = "InvalidPictures" then T.a_InvalidPictures else 0
theorem kb_told_apart_blots_spoilt_pictures {K : PySem.W.Frag} {f : Addr} {fd : FuncData} (F : Fun K "told_apart" "told_apart" s_told_apart f fd) : KBinds K fd ["pictures", "spoilt", "blots"] ["blots", "spoilt", "pictures"] (permL 3 [2, 1, 0]) (permL 3 [2, 1, 0]) := by
  obtain ⟨oc, od, kV, doc, pm, an, cdv, ct, osl, rfl, lk, hcd⟩ := F.ex
  refine ⟨fun s us ws _ hl => ?_, fun r1 r2 => perm_vals r1 r2⟩
  obtain ⟨rfl, h2⟩ := permL_len hl (by decide)
  exact match ws, h2 with | [_, _, _], _ => BindsTo.of_eq rfl
theorem kb_nearest_of_blotted_pictures {K : PySem.W.Frag} {f : Addr} {fd : FuncData} (F : Fun K "nearest_of" "nearest_of" s_nearest_of f fd) : KBinds K fd ["pictures", "blotted"] ["blotted", "pictures"] (permL 2 [1, 0]) (permL 2 [1, 0]) := by
  obtain ⟨oc, od, kV, doc, pm, an, cdv, ct, osl, rfl, lk, hcd⟩ := F.ex
  refine ⟨fun s us ws _ hl => ?_, fun r1 r2 => perm_vals r1 r2⟩
  obtain ⟨rfl, h2⟩ := permL_len hl (by decide)
  exact match ws, h2 with | [_, _], _ => BindsTo.of_eq rfl
theorem bd_is_whole_3 {K : PySem.W.Frag} {f : Addr} {fd : FuncData} (F : FunT K "is_whole" "is_whole" s_is_whole [.none, .none] f fd) : Binds K fd ["value", "least", "most"] [] := F.binds 3 2 rfl fun _ _ _ _ _ _ _ us hl => match us, hl with | [_, _, _], _ => ⟨_, rfl, rfl⟩
theorem bd_look_at_count_1 {K : PySem.W.Frag} {f : Addr} {fd : FuncData} (F : FunT K "look_at_count" "look_at_count" s_look_at_count [.none] f fd) : Binds K fd ["value", "most"] [.none] := F.binds 1 0 rfl fun _ _ _ _ _ _ _ us hl => match us, hl with | [_], _ => ⟨_, rfl, rfl⟩
theorem b_are_rows {K : PySem.W.Frag} {f : Addr} {fd : FuncData} (F : Fun K "are_rows" "are_rows" s_are_rows f fd) : Binds K fd ["value", "signs"] [] := F.binds (ps := ["value", "signs"]) fun _ _ _ _ _ _ us hl => match us, hl with | [_, _], _ => rfl
theorem b_is_picture {K : PySem.W.Frag} {f : Addr} {fd : FuncData} (F : Fun K "is_picture" "is_picture" s_is_picture f fd) : Binds K fd ["value"] [] := F.binds (ps := ["value"]) fun _ _ _ _ _ _ us hl => match us, hl with | [_], _ => rfl
theorem b_is_blotted {K : PySem.W.Frag} {f : Addr} {fd : FuncData} (F : Fun K "is_blotted" "is_blotted" s_is_blotted f fd) : Binds K fd ["value"] [] := F.binds (ps := ["value"]) fun _ _ _ _ _ _ us hl => match us, hl with | [_], _ => rfl
theorem b_wide_of {K : PySem.W.Frag} {f : Addr} {fd : FuncData} (F : Fun K "wide_of" "wide_of" s_wide_of f fd) : Binds K fd ["picture"] [] := F.binds (ps := ["picture"]) fun _ _ _ _ _ _ us hl => match us, hl with | [_], _ => rfl
theorem b_cut_right {K : PySem.W.Frag} {f : Addr} {fd : FuncData} (F : Fun K "cut_right" "cut_right" s_cut_right f fd) : Binds K fd ["picture"] [] := F.binds (ps := ["picture"]) fun _ _ _ _ _ _ us hl => match us, hl with | [_], _ => rfl
theorem b_marks {K : PySem.W.Frag} {f : Addr} {fd : FuncData} (F : Fun K "marks" "marks" s_marks f fd) : Binds K fd ["row", "sign"] [] := F.binds (ps := ["row", "sign"]) fun _ _ _ _ _ _ us hl => match us, hl with | [_, _], _ => rfl
theorem b_masks_of {K : PySem.W.Frag} {f : Addr} {fd : FuncData} (F : Fun K "masks_of" "masks_of" s_masks_of f fd) : Binds K fd ["picture"] [] := F.binds (ps := ["picture"]) fun _ _ _ _ _ _ us hl => match us, hl with | [_], _ => rfl
theorem b_unlike_of {K : PySem.W.Frag} {f : Addr} {fd : FuncData} (F : Fun K "unlike_of" "unlike_of" s_unlike_of f fd) : Binds K fd ["one", "other"] [] := F.binds (ps := ["one", "other"]) fun _ _ _ _ _ _ us hl => match us, hl with | [_, _], _ => rfl
theorem b_count_of {K : PySem.W.Frag} {f : Addr} {fd : FuncData} (F : Fun K "count_of" "count_of" s_count_of f fd) : Binds K fd ["numbers"] [] := F.binds (ps := ["numbers"]) fun _ _ _ _ _ _ us hl => match us, hl with | [_], _ => rfl
theorem b_look_beside {K : PySem.W.Frag} {f : Addr} {fd : FuncData} (F : Fun K "look_beside" "look_beside" s_look_beside f fd) : Binds K fd ["one", "other"] [] := F.binds (ps := ["one", "other"]) fun _ _ _ _ _ _ us hl => match us, hl with | [_, _], _ => rfl
theorem b_distance_of {K : PySem.W.Frag} {f : Addr} {fd : FuncData} (F : Fun K "distance_of" "distance_of" s_distance_of f fd) : Binds K fd ["one", "other"] [] := F.binds (ps := ["one", "other"]) fun _ _ _ _ _ _ us hl => match us, hl with | [_, _], _ => rfl
theorem b_halved {K : PySem.W.Frag} {f : Addr} {fd : FuncData} (F : Fun K "halved" "halved" s_halved f fd) : Binds K fd ["one", "other", "spoilt", "blots"] [] := F.binds (ps := ["one", "other", "spoilt", "blots"]) fun _ _ _ _ _ _ us hl => match us, hl with | [_, _, _, _], _ => rfl
theorem b_are_pictures {K : PySem.W.Frag} {f : Addr} {fd : FuncData} (F : Fun K "are_pictures" "are_pictures" s_are_pictures f fd) : Binds K fd ["value"] [] := F.binds (ps := ["value"]) fun _ _ _ _ _ _ us hl => match us, hl with | [_], _ => rfl
theorem b_told_apart {K : PySem.W.Frag} {f : Addr} {fd : FuncData} (F : Fun K "told_apart" "told_apart" s_told_apart f fd) : Binds K fd ["pictures", "spoilt", "blots"] [] := F.binds (ps := ["pictures", "spoilt", "blots"]) fun _ _ _ _ _ _ us hl => match us, hl with | [_, _, _], _ => rfl
theorem b_nearest_of {K : PySem.W.Frag} {f : Addr} {fd : FuncData} (F : Fun K "nearest_of" "nearest_of" s_nearest_of f fd) : Binds K fd ["pictures", "blotted"] [] := F.binds (ps := ["pictures", "blotted"]) fun _ _ _ _ _ _ us hl => match us, hl with | [_, _], _ => rfl
theorem b__law_list {K : PySem.W.Frag} {f : Addr} {fd : FuncData} (F : Fun K "_law_list" "_law_list" s__law_list f fd) : Binds K fd ["purse", "most"] [] := F.binds (ps := ["purse", "most"]) fun _ _ _ _ _ _ us hl => match us, hl with | [_, _], _ => rfl
theorem b__law_first {K : PySem.W.Frag} {f : Addr} {fd : FuncData} (F : Fun K "_law_first" "_law_first" s__law_first f fd) : Binds K fd ["pictures", "budget"] [] := F.binds (ps := ["pictures", "budget"]) fun _ _ _ _ _ _ us hl => match us, hl with | [_, _], _ => rfl
theorem b__law_nearest {K : PySem.W.Frag} {f : Addr} {fd : FuncData} (F : Fun K "_law_nearest" "_law_nearest" s__law_nearest f fd) : Binds K fd ["pictures", "blotted"] [] := F.binds (ps := ["pictures", "blotted"]) fun _ _ _ _ _ _ us hl => match us, hl with | [_, _], _ => rfl
theorem b__law_right {K : PySem.W.Frag} {f : Addr} {fd : FuncData} (F : Fun K "_law_right" "_law_right" s__law_right f fd) : Binds K fd ["purse", "pictures"] [] := F.binds (ps := ["purse", "pictures"]) fun _ _ _ _ _ _ us hl => match us, hl with | [_, _], _ => rfl
theorem b__law_blots {K : PySem.W.Frag} {f : Addr} {fd : FuncData} (F : Fun K "_law_blots" "_law_blots" s__law_blots f fd) : Binds K fd ["purse", "picture", "many"] [] := F.binds (ps := ["purse", "picture", "many"]) fun _ _ _ _ _ _ us hl => match us, hl with | [_, _, _], _ => rfl
theorem b__law_purse {K : PySem.W.Frag} {f : Addr} {fd : FuncData} (F : Fun K "_law_purse" "_law_purse" s__law_purse f fd) : Binds K fd ["script"] [] := F.binds (ps := ["script"]) fun _ _ _ _ _ _ us hl => match us, hl with | [_], _ => rfl
theorem b__law_draw {K : PySem.W.Frag} {f : Addr} {fd : FuncData} (F : Fun K "_law_draw" "_law_draw" s__law_draw f fd) : Binds K fd ["purse", "many"] [] := F.binds (ps := ["purse", "many"]) fun _ _ _ _ _ _ us hl => match us, hl with | [_, _], _ => rfl
theorem b__law_pick {K : PySem.W.Frag} {f : Addr} {fd : FuncData} (F : Fun K "_law_pick" "_law_pick" s__law_pick f fd) : Binds K fd ["purse", "things"] [] := F.binds (ps := ["purse", "things"]) fun _ _ _ _ _ _ us hl => match us, hl with | [_, _], _ => rfl
theorem b__law_same {K : PySem.W.Frag} {f : Addr} {fd : FuncData} (F : Fun K "_law_same" "_law_same" s__law_same f fd) : Binds K fd ["told", "due"] [] := F.binds (ps := ["told", "due"]) fun _ _ _ _ _ _ us hl => match us, hl with | [_, _], _ => rfl
theorem b__law_spoilt {K : PySem.W.Frag} {f : Addr} {fd : FuncData} (F : Fun K "_law_spoilt" "_law_spoilt" s__law_spoilt f fd) : Binds K fd ["told"] [] := F.binds (ps := ["told"]) fun _ _ _ _ _ _ us hl => match us, hl with | [_], _ => rfl
theorem b__law_rows {K : PySem.W.Frag} {f : Addr} {fd : FuncData} (F : Fun K "_law_rows" "_law_rows" s__law_rows f fd) : Binds K fd ["purse", "wide", "high", "blots"] [] := F.binds (ps := ["purse", "wide", "high", "blots"]) fun _ _ _ _ _ _ us hl => match us, hl with | [_, _, _, _], _ => rfl
theorem b__law_sign {K : PySem.W.Frag} {f : Addr} {fd : FuncData} (F : Fun K "_law_sign" "_law_sign" s__law_sign f fd) : Binds K fd ["picture", "column", "row"] [] := F.binds (ps := ["picture", "column", "row"]) fun _ _ _ _ _ _ us hl => match us, hl with | [_, _, _], _ => rfl
theorem b__law_wide {K : PySem.W.Frag} {f : Addr} {fd : FuncData} (F : Fun K "_law_wide" "_law_wide" s__law_wide f fd) : Binds K fd ["picture"] [] := F.binds (ps := ["picture"]) fun _ _ _ _ _ _ us hl => match us, hl with | [_], _ => rfl
theorem b__law_far {K : PySem.W.Frag} {f : Addr} {fd : FuncData} (F : Fun K "_law_far" "_law_far" s__law_far f fd) : Binds K fd ["one", "other"] [] := F.binds (ps := ["one", "other"]) fun _ _ _ _ _ _ us hl => match us, hl with | [_, _], _ => rfl
theorem b__law_could {K : PySem.W.Frag} {f : Addr} {fd : FuncData} (F : Fun K "_law_could" "_law_could" s__law_could f fd) : Binds K fd ["picture", "blotted", "spoilt", "blots"] [] := F.binds (ps := ["picture", "blotted", "spoilt", "blots"]) fun _ _ _ _ _ _ us hl => match us, hl with | [_, _, _, _], _ => rfl
theorem b__law_is_sheet {K : PySem.W.Frag} {f : Addr} {fd : FuncData} (F : Fun K "_law_is_sheet" "_law_is_sheet" s__law_is_sheet f fd) : Binds K fd ["value", "high"] [] := F.binds (ps := ["value", "high"]) fun _ _ _ _ _ _ us hl => match us, hl with | [_, _], _ => rfl
theorem b__law_spoilt_rows {K : PySem.W.Frag} {f : Addr} {fd : FuncData} (F : Fun K "_law_spoilt_rows" "_law_spoilt_rows" s__law_spoilt_rows f fd) : Binds K fd ["purse", "picture", "many", "blots"] [] := F.binds (ps := ["purse", "picture", "many", "blots"]) fun _ _ _ _ _ _ us hl => match us, hl with | [_, _, _, _], _ => rfl
theorem b_law {K : PySem.W.Frag} {f : Addr} {fd : FuncData} (F : Fun K "law" "law" s_law f fd) : Binds K fd ["script"] [] := F.binds (ps := ["script"]) fun _ _ _ _ _ _ us hl => match us, hl with | [_], _ => rfl

section
variable {P : Program} {w : World} {K : PySem.W.Frag} {mg : Str → Option Value} {base : Heap}
/-- the sign at a place is a dot of ink -/
def inkAt (z : Str) (j : Nat) : Bool := z.cps.toList[j]? == some 35
def Rows (wd : Nat) (zs : List Str) : Prop := ∀ z, z ∈ zs → z.length = wd
def wideOf (zs : List Str) : Nat := (zs.head?.map Str.length).getD 0
def optD : Option Int → PyData
  | none => .none
  | some i => .int i
def isWh (v lo : Int) (mo : Option Int) : Bool := decide (lo ≤ v) && (match mo with | none => true | some m => decide (v ≤ m))
def pre_is_whole (ds : List PyData) (φ : PyData → Prop) : Prop := ∃ (v lo : Int) (mo : Option Int), ds = [.int v, .int lo, optD mo] ∧ φ (.bool (isWh v lo mo))
theorem len_is_whole : ∀ ds φ, pre_is_whole ds φ → ds.length = 3 := by rintro _ φ ⟨v, lo, mo, rfl, _⟩; rfl
theorem ok_is_whole (T : Txt P K mg) : FnG P w K mg base CX0 1 T.a_is_whole T.d_is_whole ["value", "least", "most"] (SpD pre_is_whole) := by
  refine FnG.okT T.F_is_whole sc_is_whole (sp_len len_is_whole) (fun cdv A outer s H vs Q E hr hg h => ?_)
  refine ⟨_, (pss_cons (ps_if (PW.pt (pw_or (pt_not (k_tru (K := K) rfl (pe_callB (k_isi (K := K) rfl) (by rfl) T.z_isinstance (by decide +kernel) (pa_cons (pv 0) (pa_cons (pe_bltn (v := .ty "int") (u := .type "int") (by rfl) T.z_int (by decide +kernel) rfl) pa_nil))) (by intro _; rfl))) (pw_or1 (k_tru (K := K) rfl (pe_callB (k_isi (K := K) rfl) (by rfl) T.z_isinstance (by decide +kernel) (pa_cons (pv 0) (pa_cons (pe_bltn (v := .ty "bool") (u := .type "bool") (by rfl) T.z_bool (by decide +kernel) rfl) pa_nil))) (by intro _; rfl))))) (pss_one (ps_ret pe_bl)) pss_nil)
      (pss_one (ps_ret (k_andT (K := K) rfl (k_orT (K := K) rfl (pe_cmpR op_isN' (pv 1) pe_non (nomark _)) (pe_one (pe_cmpR op_ge (pv 0) (pv 1) (nomark _)))) (pe_one (k_orT (K := K) rfl (pe_cmpR op_isN' (pv 2) pe_non (nomark _)) (pe_one (pe_cmpR op_le (pv 0) (pv 2) (nomark _))))))))), fn_pure (by decide) len_is_whole (fun F G0 ds φ hp => ?_) h⟩
  obtain ⟨v, lo, mo, rfl, q⟩ := hp
  walk_at "dv"
  refine ⟨fun h1 => ?_, fun h1 => ?_⟩
  · unfold isWh at q
    rw [h1, Bool.true_and] at q
    cases mo with
    | none =>
      walk_at "dv"
      exact q
    | some m =>
      walk_at "dv"
      exact op2_B0 q
  · unfold isWh at q
    rw [h1, Bool.false_and] at q
    rw [h1]
    exact q
def rowsOk (sg : Str) (zs : List Str) : Bool := zs.all (fun z => z.length == wideOf zs) && (decide (wideOf zs ≤ 400) && zs.all (fun z => (tl z).all sg.cps.contains))
def isRows (sg : Str) : PyData → Bool
  | .list ds => decide (ds.length ≤ 120) && (ds.all isStr && rowsOk sg (ds.map strOf))
  | _ => false
/-- no text in it is too long -/
def Sml : PyData → Prop
  | .list ds => ds.length ≤ 1000 ∧ ∀ z, .str z ∈ ds → z.length ≤ 10000
  | _ => True
def pre_are_rows (ds : List PyData) (φ : PyData → Prop) : Prop := ∃ (v : PyData) (sg : Str), ds = [v, .str sg] ∧ Sml v ∧ φ (.bool (isRows sg v))
theorem len_are_rows : ∀ ds φ, pre_are_rows ds φ → ds.length = 2 := by rintro _ φ ⟨v, sg, rfl, _⟩; rfl
theorem ok_are_rows (T : Txt P K mg) : FnG P w K mg base CX0 1 T.a_are_rows T.d_are_rows ["value", "signs"] (SpD pre_are_rows) := by
  refine FnG.ok0 T.F_are_rows sc_are_rows (sp_len len_are_rows) (fun cdv A outer s H vs Q E hr hg h => ?_)
  refine ⟨_, (pss_cons (ps_if (PW.pt (pw_or (pt_not (k_tru (K := K) rfl (pe_callB (k_isi (K := K) rfl) (by rfl) T.z_isinstance (by decide +kernel) (pa_cons (pv 0) (pa_cons (pe_bltn (v := .ty "list") (u := .type "list") (by rfl) T.z_list (by decide +kernel) rfl) pa_nil))) (by intro _; rfl))) (pw_or (pt_cmpR op_gt (pe_callB (k_len (K := K) rfl) (by rfl) T.z_len (by decide +kernel) (pa_cons (pv 0) pa_nil)) (pe_glob (v := .int 120) rfl T.c_MOST_HIGH ⟨_, rfl⟩) (nomark _)) (pw_or1 (pt_not (k_tru (K := K) rfl (pe_callB (k_all (K := K) rfl rfl) (by rfl) T.z_all (by decide +kernel) (pa_cons (pe_lc (own := [("row", 2)]) rfl sc_are_rows.nd (k_plist (K := K) rfl (pv 0)) (blkOk_by (own := [("row", 2)]) (N := nm_are_rows) (by rfl)) (fun _ _ _ _ _ => (pg_name (i := 2) sc_are_rows.nd rfl (by first | exact Or.inl rfl | exact Or.inr rfl))) (fun _ _ _ _ _ => pts_nil) (fun _ _ _ _ _ => (pe_callB (k_isi (K := K) rfl) (by rfl) T.z_isinstance (by decide +kernel) (pa_cons (pv 2) (pa_cons (pe_bltn (v := .ty "str") (u := .type "str") (by rfl) T.z_str (by decide +kernel) rfl) pa_nil))))) pa_nil)) (by intro _; rfl))))))) (pss_one (ps_ret pe_bl)) pss_nil)
      (pss_cons (ps_if (PW.pt (pw_or (pt_not (k_tru (K := K) rfl (pe_callB (k_all (K := K) rfl rfl) (by rfl) T.z_all (by decide +kernel) (pa_cons (pe_lc (own := [("row", 2)]) rfl sc_are_rows.nd (k_plist (K := K) rfl (pv 0)) (blkOk_by (own := [("row", 2)]) (N := nm_are_rows) (by rfl)) (fun _ _ _ _ _ => (pg_name (i := 2) sc_are_rows.nd rfl (by first | exact Or.inl rfl | exact Or.inr rfl))) (fun _ _ _ _ _ => pts_nil) (fun _ _ _ _ _ => (pe_cmpR (k_eq (K := K) rfl (by exact hr.units)) (pe_callB (k_len (K := K) rfl) (by rfl) T.z_len (by decide +kernel) (pa_cons (pv 2) pa_nil)) (pe_callB (k_len (K := K) rfl) (by rfl) T.z_len (by decide +kernel) (pa_cons (pe_ix (k_ix (K := K) rfl) (pv 0) pe_int (fun _ _ => rfl)) pa_nil)) (nomark _)))) pa_nil)) (by intro _; rfl))) (pw_or1 (pt_cmpR op_gt (pe_callB (k_len (K := K) rfl) (by rfl) T.z_len (by decide +kernel) (pa_cons (pe_m1 PySem.F.slot_str_join PySem.F.type_str_join (k_join (K := K) rfl) pe_str (pe_slice (k_sl (K := K) rfl) (pv 0) po_none (po_some pe_int))) pa_nil)) (pe_glob (v := .int 400) rfl T.c_MOST_WIDE ⟨_, rfl⟩) (nomark _))))) (pss_one (ps_ret pe_bl)) pss_nil)
      (pss_one (ps_ret (pe_cmpR (k_eq (K := K) rfl (by exact hr.units)) (pe_m1 PySem.F.slot_str_strip PySem.F.type_str_strip mt_stripC (pe_m1 PySem.F.slot_str_join PySem.F.type_str_join (k_join (K := K) rfl) pe_str (pv 0)) (pv 1)) pe_str (nomark _)))))), fn_pure (by decide) len_are_rows (fun F G0 ds φ hp => ?_) h⟩
  obtain ⟨v, sg, rfl, hv, q⟩ := hp
  walk_at "dv"
  try rw [isT_list]
  cases hl : isLst v with
  | false =>
    walk_at "dv"
    have e : isRows sg v = false := by cases v <;> first | rfl | cases hl
    rw [e] at q
    exact q
  | true =>
    cases v with
    | list ds =>
      obtain ⟨hv1, hv2⟩ := hv
      walk_at "dv"
      have fin0 : isRows sg (.list ds) = false → φ (.bool false) := fun e => e ▸ q
      refine ⟨fun h1 => ?_, fun h1 => ?_⟩
      · walk_at "dv"
        have h1' := of_decide_eq_true h1
        refine fin0 ?_
        show (decide _ && _) = false
        rw [decide_eq_false (by omega)]
        rfl
      have h1' := of_decide_eq_false h1
      have h1'' : decide (ds.length ≤ 120) = true := decide_eq_true (by omega)
      walk_at "dv"
      refine we_new (wn_lcM (α := PyData) (js := [2]) (by decide) (wi_list ?_))
      walk_at "dv"
      refine ⟨ds, fun d => d, by simp, by omega, rfl, fun d => .bool (isStr d), fun d hd => ?_, ?_⟩
      · refine wg_name ⟨rfl, ?_⟩
        walk_at "dv"
        exact ⟨rfl, by first | rfl | rw [isT_str]⟩
      walk_at "dv"
      refine (opc_allM ?_).op
      walk_at "dv"
      refine ⟨fun h2 => ?_, fun h2 => ?_⟩
      · walk_at "dv"
        refine fin0 ?_
        show (_ && (ds.all isStr && _)) = false
        rw [show ds.all isStr = false by simpa using h2, h1'']
        rfl
      have h2' : ds.all isStr = true := by simpa using h2
      have ez := strs_of h2'
      have q' : φ (.bool (rowsOk sg (ds.map strOf))) := by
        have e : isRows sg (.list ds) = rowsOk sg (ds.map strOf) := by
          show (decide _ && (ds.all isStr && _)) = _
          rw [h1'', h2']
          rfl
        rw [e] at q
        exact q
      clear q fin0
      generalize ds.map strOf = zs at ez q'
      subst ez
      have hz : ∀ z ∈ zs, z.length ≤ 10000 := fun z hz => hv2 z (List.mem_map_of_mem hz)
      rw [List.length_map] at h1'
      walk_at "dv"
      refine we_new (wn_lcM (α := Str) (js := [2]) (by decide) (wi_list ?_))
      walk_at "dv"
      refine ⟨zs, .str, rfl, by omega, rfl, fun z => .bool (z.length == wideOf zs), fun z hzz => ?_, ?_⟩
      · refine wg_name ⟨rfl, ?_⟩
        walk_at "dv"
        refine (opc_lenS (by have := hz z hzz; omega) ?_).op
        walk_at "dv"
        obtain ⟨z0, r, rfl⟩ : ∃ z0 r, zs = z0 :: r := by
          cases zs with
          | nil => cases hzz
          | cons a r => exact ⟨a, r, rfl⟩
        refine op2_ixL (d := .str z0) atI_zero ?_
        walk_at "dv"
        refine (opc_lenS (by have := hz z0 List.mem_cons_self; omega) ?_).op
        walk_at "dv"
        refine ⟨rfl, ?_⟩
        show PyData.bool (_ == _) = PyData.bool (_ == _)
        congr 1
        show ((z.length : Int) == (z0.length : Int)) = (z.length == z0.length)
        by_cases e : z.length = z0.length
        · rw [e]
          simp
        · rw [beq_eq_false_iff_ne.mpr e, beq_eq_false_iff_ne.mpr (by omega)]
      walk_at "dv"
      refine (opc_allM ?_).op
      walk_at "dv"
      refine ⟨fun h3 => ?_, fun h3 => ?_⟩
      · walk_at "dv"
        rw [show rowsOk sg zs = false by
          unfold rowsOk
          rw [show zs.all (fun z => z.length == wideOf zs) = false by simpa using h3]
          rfl] at q'
        exact q'
      have h3' : zs.all (fun z => z.length == wideOf zs) = true := by simpa using h3
      have hw : ∀ z ∈ zs, z.length = wideOf zs := fun z h => by simpa using List.all_eq_true.mp h3' z h
      walk_at "dv"
      have e1 : cutD (zs.map PyData.str) none (some 1) = (zs.take 1).map .str := by
        rw [cut1, List.map_take]
      rw [e1]
      have e2 : (((zs.take 1).map (·.length)).sum : Nat) = wideOf zs := by
        cases zs <;> simp [wideOf]
      have hw0 : wideOf zs ≤ 10000 := by
        cases zs with
        | nil => exact Nat.zero_le _
        | cons z r => exact hz z List.mem_cons_self
      have hs : (zs.map (·.length)).sum ≤ 120 * 10000 := by
        have : ∀ (l : List Str) (m : Nat), (∀ z ∈ l, z.length ≤ m) → (l.map (·.length)).sum ≤ l.length * m := by
          intro l m
          induction l with
          | nil => simp
          | cons a l ih =>
            intro h
            have := ih fun z hz => h z (List.mem_cons_of_mem _ hz)
            have := h a List.mem_cons_self
            simp only [List.map_cons, List.sum_cons, List.length_cons, Nat.add_mul]
            omega
        have := this zs 10000 hz
        omega
      refine opm_join (by rw [e2]; show _ + _ * 0 ≤ _; omega) ?_
      walk_at "dv"
      refine (opc_lenS (by rw [len_join0, e2]; omega) ?_).op
      rw [len_join0, e2]
      walk_at "dv"
      refine ⟨fun h4 => ?_, fun h4 => ?_⟩
      · have h4' := of_decide_eq_true h4
        walk_at "dv"
        rw [show rowsOk sg zs = false by
          unfold rowsOk
          rw [decide_eq_false (show ¬ wideOf zs ≤ 400 by omega), Bool.false_and, Bool.and_false]] at q'
        exact q'
      have h4' := of_decide_eq_false h4
      walk_at "dv"
      refine opm_join (by show _ + _ * 0 ≤ _; omega) ?_
      walk_at "dv"
      refine opm_strip (by rw [len_join0]; omega) ?_
      walk_at "dv"
      rw [strip_nil, tl_join0]
      have e3 : rowsOk sg zs = ((zs.map tl).flatten.all sg.cps.contains) := by
        unfold rowsOk
        rw [h3', decide_eq_true (show wideOf zs ≤ 400 by omega), Bool.true_and, Bool.true_and, List.all_flatten, List.all_map]
        rfl
      rw [← e3]
      exact q'
    | _ => cases hl
abbrev two : Str := (".#" : String)
def isPic (v : PyData) : Bool := isRows two v
/-- a picture's rows -/
structure Pic (zs : List Str) : Prop where
  high : zs.length ≤ 120
  wide : wideOf zs ≤ 400
  rows : Rows (wideOf zs) zs
  dots : ∀ z ∈ zs, ∀ c ∈ tl z, c = 46 ∨ c = 35
theorem two_has (c : Nat) : two.cps.contains c = true ↔ c = 46 ∨ c = 35 := by
  have e : two.cps = #[46, 35] := rfl
  rw [e]
  simp
theorem Pic.pln {zs : List Str} (p : Pic zs) : ∀ z ∈ zs, Pln z := fun z hz c hc => by
  rcases p.dots z hz c hc with e | e <;> rw [e] <;> decide
theorem pic_of {v : PyData} (h : isPic v = true) : ∃ zs, v = .list (zs.map .str) ∧ Pic zs := by
  cases v with
  | list ds =>
    have h' : (decide (ds.length ≤ 120) && (ds.all isStr && rowsOk two (ds.map strOf))) = true := h
    rw [Bool.and_eq_true, Bool.and_eq_true] at h'
    obtain ⟨h1, h2, h3⟩ := h'
    refine ⟨ds.map strOf, by rw [← strs_of h2], ?_⟩
    unfold rowsOk at h3
    rw [Bool.and_eq_true, Bool.and_eq_true] at h3
    obtain ⟨h4, h5, h6⟩ := h3
    refine ⟨by rw [List.length_map]; exact of_decide_eq_true h1, of_decide_eq_true h5, fun z hz => by simpa using List.all_eq_true.mp h4 z hz, fun z hz c hc => ?_⟩
    exact (two_has c).mp (List.all_eq_true.mp (List.all_eq_true.mp h6 z hz) c hc)
  | _ => cases h
theorem map_strOf (zs : List Str) : (zs.map PyData.str).map strOf = zs := by
  rw [List.map_map]
  exact List.map_id zs
theorem Pic.is {zs : List Str} (p : Pic zs) : isPic (.list (zs.map .str)) = true := by
  show (decide ((zs.map PyData.str).length ≤ 120) && ((zs.map PyData.str).all isStr && rowsOk two ((zs.map PyData.str).map strOf))) = true
  rw [map_strOf, Bool.and_eq_true, Bool.and_eq_true]
  refine ⟨decide_eq_true (by rw [List.length_map]; exact p.high), List.all_eq_true.mpr fun d hd => ?_, ?_⟩
  · obtain ⟨z, _, rfl⟩ := List.mem_map.mp hd
    rfl
  · unfold rowsOk
    rw [Bool.and_eq_true, Bool.and_eq_true]
    exact ⟨List.all_eq_true.mpr fun z hz => by simpa using p.rows z hz, decide_eq_true p.wide, List.all_eq_true.mpr fun z hz => List.all_eq_true.mpr fun c hc => (two_has c).mpr (p.dots z hz c hc)⟩
theorem Pic.sml {zs : List Str} (p : Pic zs) : Sml (.list (zs.map .str)) := ⟨by rw [List.length_map]; have := p.high; omega, fun z hz => by
  obtain ⟨y, hy, e⟩ := List.mem_map.mp hz
  injection e with e
  subst e
  have := p.rows y hy
  have := p.wide
  omega⟩
def pre_is_picture (ds : List PyData) (φ : PyData → Prop) : Prop := ∃ (v : PyData), ds = [v] ∧ Sml v ∧ φ (.bool (isPic v))
theorem len_is_picture : ∀ ds φ, pre_is_picture ds φ → ds.length = 1 := by rintro _ φ ⟨v, rfl, _⟩; rfl
theorem ok_is_picture (T : Txt P K mg) : FnG P w K mg base CX0 2 T.a_is_picture T.d_is_picture ["value"] (SpD pre_is_picture) := by
  refine FnG.ok0 T.F_is_picture sc_is_picture (sp_len len_is_picture) (fun cdv A outer s H vs Q E hr hg h => ?_)
  refine ⟨_, (pss_one (ps_ret (pe_cg (ok_are_rows (P := P) (w := w) (base := base) T) (by exact hr.mono (by first | decide | omega)) (by exact hg) (by rfl) T.g_are_rows T.F_are_rows.kp (b_are_rows T.F_are_rows) .nil pass0 (pa_cons (pv 0) (pa_cons pe_str pa_nil))))), fn_pure (by decide) len_is_picture (fun F G0 ds φ hp => ?_) h⟩
  obtain ⟨v, rfl, hv, q⟩ := hp
  walk_at "dv"
  exact ⟨v, two, rfl, hv, q⟩
abbrev thr : Str := (".#?" : String)
def isBlo (v : PyData) : Bool := isRows thr v
/-- a blotted picture's rows -/
structure Blo (zs : List Str) : Prop where
  high : zs.length ≤ 120
  wide : wideOf zs ≤ 400
  rows : Rows (wideOf zs) zs
  dots : ∀ z ∈ zs, ∀ c ∈ tl z, c = 46 ∨ c = 35 ∨ c = 63
theorem thr_has (c : Nat) : thr.cps.contains c = true ↔ c = 46 ∨ c = 35 ∨ c = 63 := by
  have e : thr.cps = #[46, 35, 63] := rfl
  rw [e]
  simp
theorem Pic.blo {zs : List Str} (p : Pic zs) : Blo zs := ⟨p.high, p.wide, p.rows, fun z hz c hc => (p.dots z hz c hc).elim .inl fun h => .inr (.inl h)⟩
theorem Blo.pln {zs : List Str} (p : Blo zs) : ∀ z ∈ zs, Pln z := fun z hz c hc => by
  rcases p.dots z hz c hc with e | e | e <;> rw [e] <;> decide
theorem Blo.len {zs : List Str} (p : Blo zs) : ∀ z ∈ zs, z.length ≤ 400 := fun z hz => by rw [p.rows z hz]; exact p.wide
theorem Blo.is {zs : List Str} (p : Blo zs) : isBlo (.list (zs.map .str)) = true := by
  show (decide ((zs.map PyData.str).length ≤ 120) && ((zs.map PyData.str).all isStr && rowsOk thr ((zs.map PyData.str).map strOf))) = true
  rw [map_strOf, Bool.and_eq_true, Bool.and_eq_true]
  refine ⟨decide_eq_true (by rw [List.length_map]; exact p.high), List.all_eq_true.mpr fun d hd => ?_, ?_⟩
  · obtain ⟨z, _, rfl⟩ := List.mem_map.mp hd
    rfl
  · unfold rowsOk
    rw [Bool.and_eq_true, Bool.and_eq_true]
    exact ⟨List.all_eq_true.mpr fun z hz => by simpa using p.rows z hz, decide_eq_true p.wide, List.all_eq_true.mpr fun z hz => List.all_eq_true.mpr fun c hc => (thr_has c).mpr (p.dots z hz c hc)⟩
theorem Blo.sml {zs : List Str} (p : Blo zs) : Sml (.list (zs.map .str)) := ⟨by rw [List.length_map]; have := p.high; omega, fun z hz => by
  obtain ⟨y, hy, e⟩ := List.mem_map.mp hz
  injection e with e
  subst e
  have := p.len y hy
  omega⟩
def pre_is_blotted (ds : List PyData) (φ : PyData → Prop) : Prop := ∃ (v : PyData), ds = [v] ∧ Sml v ∧ φ (.bool (isBlo v))
theorem len_is_blotted : ∀ ds φ, pre_is_blotted ds φ → ds.length = 1 := by rintro _ φ ⟨v, rfl, _⟩; rfl
theorem ok_is_blotted (T : Txt P K mg) : FnG P w K mg base CX0 2 T.a_is_blotted T.d_is_blotted ["value"] (SpD pre_is_blotted) := by
  refine FnG.ok0 T.F_is_blotted sc_is_blotted (sp_len len_is_blotted) (fun cdv A outer s H vs Q E hr hg h => ?_)
  refine ⟨_, (pss_one (ps_ret (pe_cg (ok_are_rows (P := P) (w := w) (base := base) T) (by exact hr.mono (by first | decide | omega)) (by exact hg) (by rfl) T.g_are_rows T.F_are_rows.kp (b_are_rows T.F_are_rows) .nil pass0 (pa_cons (pv 0) (pa_cons pe_str pa_nil))))), fn_pure (by decide) len_is_blotted (fun F G0 ds φ hp => ?_) h⟩
  obtain ⟨v, rfl, hv, q⟩ := hp
  walk_at "dv"
  exact ⟨v, thr, rfl, hv, q⟩
def pre_look_at_blotted (ds : List PyData) (φ : PyData → Prop) (ψ : String → PyData → Prop) : Prop := ∃ zs : List Str, ds = [.list (zs.map .str)] ∧ Blo zs ∧ φ .none
theorem len_look_at_blotted : ∀ ds φ ψ, pre_look_at_blotted ds φ ψ → ds.length = 1 := by rintro _ φ ψ ⟨v, rfl, _⟩; rfl
def pre_look_at_picture (ds : List PyData) (φ : PyData → Prop) (ψ : String → PyData → Prop) : Prop := ∃ zs : List Str, ds = [.list (zs.map .str)] ∧ Pic zs ∧ φ .none
theorem len_look_at_picture : ∀ ds φ ψ, pre_look_at_picture ds φ ψ → ds.length = 1 := by rintro _ φ ψ ⟨v, rfl, _⟩; rfl
def pre_look_at_count (ds : List PyData) (φ : PyData → Prop) (ψ : String → PyData → Prop) : Prop := ∃ n : Nat, ds = [.int n, .none] ∧ φ .none
theorem len_look_at_count : ∀ ds φ ψ, pre_look_at_count ds φ ψ → ds.length = 2 := by rintro _ φ ψ ⟨n, rfl, _⟩; rfl
theorem ok_look_at_count (T : Txt P K mg) : FnG P w K mg base (L2.CX P w) 2 T.a_look_at_count T.d_look_at_count ["value", "most"] (SpX T.cA pre_look_at_count) := by
  refine FnG.okTX T.F_look_at_count sc_look_at_count (spx_len len_look_at_count) (fun cdv A outer s H vs Q E hr hg h => ?_)
  refine ⟨_, (pss_one (ps_if (pt_not (k_tru (K := K) rfl (pe_cg (ok_is_whole (P := P) (w := w) (base := base) T) (by exact hr.mono (by first | decide | omega)) (by exact hg) (by rfl) T.g_is_whole T.F_is_whole.kp (bd_is_whole_3 T.F_is_whole) .nil pass0 (pa_cons (pv 0) (pa_cons pe_int (pa_cons (pv 1) pa_nil)))) (by intro _; rfl))) (pss_one (ps_raiseV T.X_InvalidNumber rfl (takes_of rfl rfl rfl rfl) (by exact hr.mono (by first | decide | omega)) (by rfl) (pa_cons (pv 0) pa_nil))) pss_nil)), fn_x (by decide) len_look_at_count (fun F G0 ds φ ψ hp hE => ?_) h⟩
  obtain ⟨n, rfl, q⟩ := hp
  walk_at "dv"
  refine ⟨n, 0, none, rfl, ?_⟩
  have e : isWh n 0 none = true := by
    show (decide ((0 : Int) ≤ (n : Int)) && true) = true
    rw [decide_eq_true (by omega)]
    rfl
  rw [e]
  walk_at "dv"
  exact q
end

section
variable {P : Program} {w : World} {K : PySem.W.Frag} {mg : Str → Option Value} {base : Heap}

theorem okd_strsB {zs : List Str} (p : Blo zs) : OkdN 1 (.list (zs.map .str)) := okd_strs p.pln
def pre_wide_of (ds : List PyData) (φ : PyData → Prop) : Prop := ∃ zs : List Str, ds = [.list (zs.map .str)] ∧ Blo zs ∧ φ (.int (wideOf zs))
theorem len_wide_of : ∀ ds φ, pre_wide_of ds φ → ds.length = 1 := by rintro _ φ ⟨zs, rfl, _⟩; rfl
theorem ok_wide_of (T : Txt P K mg) : FnG P w K mg base CX0 1 T.a_wide_of T.d_wide_of ["picture"] (SpD pre_wide_of) := by
  refine FnG.ok0 T.F_wide_of sc_wide_of (sp_len len_wide_of) (fun cdv A outer s H vs Q E hr hg h => ?_)
  refine ⟨_, (pss_one (ps_ret (pe_callB (k_len (K := K) rfl) (by rfl) T.z_len (by decide +kernel) (pa_cons (pe_m1 PySem.F.slot_str_join PySem.F.type_str_join (k_join (K := K) rfl) pe_str (pe_slice (k_sl (K := K) rfl) (pv 0) po_none (po_some pe_int))) pa_nil)))), fn_pure (by decide) len_wide_of (fun F G0 ds φ hp => ?_) h⟩
  obtain ⟨zs, rfl, pz, q⟩ := hp
  walk_at "dv"
  have e1 : cutD (zs.map PyData.str) none (some 1) = (zs.take 1).map .str := by
    rw [cut1, List.map_take]
  rw [e1]
  have e2 : (((zs.take 1).map (·.length)).sum : Nat) = wideOf zs := by
    cases zs <;> simp [wideOf]
  have hw := pz.wide
  refine opm_join (by rw [e2]; show _ + _ * 0 ≤ _; omega) ?_
  walk_at "dv"
  refine (opc_lenS (by rw [len_join0, e2]; omega) ?_).op
  rw [len_join0, e2]
  exact q
theorem tl_rstrip (x y : Str) : tl (Txt.rstripChars x y) = (tl x).take ((tl x).length - ((tl x).reverse.takeWhile y.cps.contains).length) := by
  unfold Txt.rstripChars
  rw [PyProof.Rows.stripBy_eq, tl_strSub]
  show List.take (x.length - ((x.cps.toList.drop 0).reverse.takeWhile _).length - 0) ((tl x).drop 0) = _
  rw [List.drop_zero, len_tl]
  rfl
theorem takeW_mem {p : Nat → Bool} : ∀ {l : List Nat} {i : Nat} {c : Nat}, i < (l.takeWhile p).length → l[i]? = some c → p c = true
  | [], i, c, h, _ => by cases h
  | a :: l, i, c, h, e => by
    rw [List.takeWhile_cons] at h
    cases hp : p a with
    | false => rw [hp] at h; cases h
    | true =>
      rw [hp] at h
      cases i with
      | zero =>
        cases e
        exact hp
      | succ i => exact takeW_mem (l := l) (i := i) (by simpa using h) (by simpa using e)
theorem rstrip_tail {z : Str} {k : Nat} (h1 : (Txt.rstripChars z (Str.ofString ".")).length ≤ k) (h2 : k < z.length) : (tl z)[k]? = some 46 := by
  have hl := len_tl z
  rw [len_tl, tl_rstrip, List.length_take] at h1
  have hk : k < (tl z).length := by omega
  have e : (tl z).reverse[(tl z).length - 1 - k]? = some (tl z)[k] := by
    rw [List.getElem?_reverse (by omega), show (tl z).length - 1 - ((tl z).length - 1 - k) = k by omega]
    exact List.getElem?_eq_getElem hk
  have h := takeW_mem (p := (Str.ofString "." : Str).cps.contains) (i := (tl z).length - 1 - k) (by omega) e
  rw [List.getElem?_eq_getElem hk]
  have e2 : (Str.ofString "." : Str).cps = #[46] := rfl
  rw [e2] at h
  simpa using h
theorem rstrip_len (z : Str) : (Txt.rstripChars z (Str.ofString ".")).length ≤ z.length := by
  rw [len_tl, tl_rstrip, List.length_take, len_tl z]
  exact Nat.min_le_right _ _
def maxL : List Nat → Nat
  | [] => 0
  | x :: xs => max x (maxL xs)
theorem maxL_ge : ∀ {l : List Nat} {x : Nat}, x ∈ l → x ≤ maxL l
  | y :: l, x, h => by
    rcases List.mem_cons.mp h with rfl | h
    · exact Nat.le_max_left _ _
    · exact Nat.le_trans (maxL_ge h) (Nat.le_max_right _ _)
theorem maxL_le : ∀ {l : List Nat} {n : Nat}, (∀ x ∈ l, x ≤ n) → maxL l ≤ n
  | [], _, _ => Nat.zero_le _
  | y :: l, n, h => Nat.max_le.mpr ⟨h y (by simp), maxL_le fun x hx => h x (by simp [hx])⟩
/-- the width without bare columns behind -/
def cutW (zs : List Str) : Nat := maxL (zs.map fun z => (Txt.rstripChars z (Str.ofString ".")).length)
def cutR (zs : List Str) : List Str := zs.map fun z => cutS z none (some (cutW zs : Int))
theorem cutW_tail {zs : List Str} : ∀ z ∈ zs, ∀ k, cutW zs ≤ k → k < z.length → (tl z)[k]? = some 46 := fun z hz k h1 h2 => rstrip_tail (Nat.le_trans (maxL_ge (List.mem_map.mpr ⟨z, hz, rfl⟩)) h1) h2
theorem cutW_le {zs : List Str} {w : Nat} (h : ∀ z ∈ zs, z.length ≤ w) : cutW zs ≤ w := maxL_le fun x hx => by
  obtain ⟨z, hz, rfl⟩ := List.mem_map.mp hx
  exact Nat.le_trans (rstrip_len z) (h z hz)
theorem tl_cutS (z : Str) (n : Nat) : tl (cutS z none (some (n : Int))) = (tl z).take n := by
  unfold cutS
  rw [HT.sIx_none, HT.sIx_nat]
  show (List.take _ (List.drop 0 (tl z))).toArray.toList = _
  rw [List.drop_zero, List.toList_toArray, Nat.sub_zero]
  have hl := len_tl z
  rcases Nat.le_total n (tl z).length with h | h
  · rw [show min n z.length = n by omega]
  · rw [show min n z.length = (tl z).length by omega, List.take_length, List.take_of_length_le h]
def pre_cut_right (ds : List PyData) (φ : PyData → Prop) : Prop := ∃ zs : List Str, ds = [.list (zs.map .str)] ∧ Blo zs ∧ φ (.list ((cutR zs).map .str))
theorem len_cut_right : ∀ ds φ, pre_cut_right ds φ → ds.length = 1 := by rintro _ φ ⟨zs, rfl, _⟩; rfl
theorem ok_cut_right (T : Txt P K mg) : FnG P w K mg base CX0 1 T.a_cut_right T.d_cut_right ["picture"] (SpO pre_cut_right) := by
  refine FnG.ok0 T.F_cut_right sc_cut_right (spo_len len_cut_right) (fun cdv A outer s H vs Q E hr hg h => ?_)
  refine ⟨_, (pss_cons (ps_set (i := 1) sc_cut_right.nd rfl (by first | exact Or.inl rfl | exact Or.inr rfl) (pe_callB (k_max (K := K) rfl rfl) (by rfl) T.z_max (by decide +kernel) (pa_cons (pe_op (k_add (K := K) rfl) (pe_lst (pa_cons pe_int pa_nil)) (pe_lc (own := [("row", 2)]) rfl sc_cut_right.nd (k_plist (K := K) rfl (pv 0)) (blkOk_by (own := [("row", 2)]) (N := nm_cut_right) (by rfl)) (fun _ _ _ _ _ => (pg_name (i := 2) sc_cut_right.nd rfl (by first | exact Or.inl rfl | exact Or.inr rfl))) (fun _ _ _ _ _ => pts_nil) (fun _ _ _ _ _ => (pe_callB (k_len (K := K) rfl) (by rfl) T.z_len (by decide +kernel) (pa_cons (pe_m1 PySem.F.slot_str_rstrip PySem.F.type_str_rstrip mt_rstripC (pv 2) pe_str) pa_nil))))) pa_nil)))
      (pss_one (ps_ret (pe_lc (own := [("row", 2)]) rfl sc_cut_right.nd (k_plist (K := K) rfl (pv 0)) (blkOk_by (own := [("row", 2)]) (N := nm_cut_right) (by rfl)) (fun _ _ _ _ _ => (pg_name (i := 2) sc_cut_right.nd rfl (by first | exact Or.inl rfl | exact Or.inr rfl))) (fun _ _ _ _ _ => pts_nil) (fun _ _ _ _ _ => (pe_slice (k_sl (K := K) rfl) (pv 2) po_none (po_some (pv 1)))))))), fn_own (by decide) len_cut_right (fun F G0 ds φ hp => ?_) h⟩
  obtain ⟨zs, rfl, pz, q⟩ := hp
  have hh := pz.high
  refine o_seq (q_set (We.imp (Φ := fun d ρ' => d = .int (cutW zs : Nat) ∧ ρ' = slots0 nm_cut_right.length [.list (zs.map .str)]) ?_ ?_))
  · walk_at "dv"
    refine we_new (wn_lcM (α := Str) (js := [2]) (by decide) (wi_list ?_))
    walk_at "dv"
    refine ⟨zs, .str, rfl, by omega, rfl, fun z => .int ((Txt.rstripChars z (Str.ofString ".")).length : Nat), fun z hz => ?_, ?_⟩
    · have hl := pz.len z hz
      have hr := rstrip_len z
      refine wg_name ⟨rfl, ?_⟩
      walk_at "dv"
      refine opm_rstrip (by omega) ?_
      walk_at "dv"
      exact (opc_lenS (by omega) ⟨rfl, rfl⟩).op
    walk_at "dv"
    refine op2_addL (by rw [List.length_map]; show 1 + _ ≤ _; omega) ?_
    have en : [PyData.int 0] ++ zs.map (fun z => PyData.int ((Txt.rstripChars z (Str.ofString ".")).length : Nat)) = ((0 : Int) :: zs.map fun z => (((Txt.rstripChars z (Str.ofString ".")).length : Nat) : Int)).map .int := by
      rw [List.map_cons, List.map_map]
      rfl
    rw [en]
    walk_at "dv"
    refine (opc_max (by simp) fun mx hmx hall => ?_).op
    have h0 : 0 ≤ mx := hall 0 (by simp)
    refine ⟨congrArg PyData.int ?_, rfl⟩
    have h1 : cutW zs ≤ mx.toNat := maxL_le fun x hx => by
      obtain ⟨z, hz, rfl⟩ := List.mem_map.mp hx
      have := hall _ (List.mem_cons_of_mem _ (List.mem_map.mpr ⟨z, hz, rfl⟩))
      omega
    have h2 : mx.toNat ≤ cutW zs := by
      rcases List.mem_cons.mp hmx with e | e
      · omega
      · obtain ⟨z, hz, e⟩ := List.mem_map.mp e
        have : (Txt.rstripChars z (Str.ofString ".")).length ≤ cutW zs := maxL_ge (List.mem_map.mpr ⟨z, hz, rfl⟩)
        omega
    omega
  rintro d _ ⟨rfl, rfl⟩
  refine o_ret (wr_new (wn_lcM (α := Str) (js := [2]) (by decide) (wi_list ?_)))
  walk_at "dv"
  refine ⟨zs, .str, rfl, by omega, rfl, fun z => .str (cutS z none (some (cutW zs : Int))), fun z hz => ?_, ?_⟩
  · have hl := pz.len z hz
    refine wg_name ⟨rfl, ?_⟩
    walk_at "dv"
    exact sld_s (by omega) ⟨rfl, rfl⟩
  · unfold cutR at q
    rw [List.map_map] at q
    refine ⟨?_, q⟩
    rw [nlA_all, List.all_map]
    exact List.all_eq_true.mpr fun z _ => rfl
/-- where a sign stands in a row -/
def isAt (c : Nat) (z : Str) (k : Nat) : Bool := (tl z)[k]? == some c
def mk (c : Nat) (z : Str) : Nat := valF (isAt c z) 400
theorem mk_val {c : Nat} {z : Str} (hz : z.length ≤ 400) : val ((tl z).map fun d => d == c) = mk c z := by
  unfold mk
  rw [valF_more (n := (tl z).length) (by rw [← len_tl]; exact hz) fun k hk => by unfold isAt; rw [List.getElem?_eq_none hk]; rfl]
  unfold valF
  congr 1
  refine List.ext_getElem (by simp) fun i h1 h2 => ?_
  rw [List.getElem_map, List.getElem_map, List.getElem_range]
  unfold isAt
  rw [List.getElem?_eq_getElem (by simpa using h1)]
  rfl
abbrev sg (c : Nat) : PyData := .str ⟨#[c]⟩
theorem signs_sg (z : Str) : signs z = (tl z).map sg := rfl
theorem sg_eq (a b : Nat) : ((⟨#[a]⟩ : Str) == ⟨#[b]⟩) = (a == b) := by
  by_cases h : a = b
  · subst h
    simp
  · rw [beq_eq_false_iff_ne.mpr fun e => h (by injection e with e; simpa using e), beq_eq_false_iff_ne.mpr h]
theorem sum_cast {α : Type} (f : α → Nat) : ∀ xs : List α, (xs.map fun a => ((f a : Nat) : Int)).sum = (((xs.map f).sum : Nat) : Int)
  | [] => rfl
  | x :: xs => by
    rw [List.map_cons, List.map_cons, List.sum_cons, List.sum_cons, sum_cast f xs]
    omega
theorem flat1 (f : Nat → Nat) : ∀ xs : List Nat, (xs.map (tl ∘ fun k => (⟨#[f k]⟩ : Str))).flatten = xs.map f
  | [] => rfl
  | x :: xs => by
    rw [List.map_cons, List.flatten_cons, flat1 f xs]
    rfl
theorem ones1 {α : Type} : ∀ cs : List α, (cs.map fun _ => 1).sum = cs.length
  | [] => rfl
  | c :: cs => by rw [List.map_cons, List.sum_cons, ones1 cs, List.length_cons]; omega
def pre_marks (ds : List PyData) (φ : PyData → Prop) : Prop := ∃ (z : Str) (c : Nat), ds = [.str z, sg c] ∧ z.length ≤ 400 ∧ φ (.int (mk c z))
theorem len_marks : ∀ ds φ, pre_marks ds φ → ds.length = 2 := by rintro _ φ ⟨z, c, rfl, _⟩; rfl
theorem ok_marks (T : Txt P K mg) : FnG P w K mg base CX0 1 T.a_marks T.d_marks ["row", "sign"] (SpD pre_marks) := by
  refine FnG.ok0 T.F_marks sc_marks (sp_len len_marks) (fun cdv A outer s H vs Q E hr hg h => ?_)
  refine ⟨_, (pss_one (ps_ret (pe_callTy Zx.call_intB (by rfl) T.z_int (by decide +kernel) (pa_cons (pe_op (k_add (K := K) rfl) pe_str (pe_m1 PySem.F.slot_str_join PySem.F.type_str_join (k_join (K := K) rfl) pe_str (pe_lc (own := [("one", 2)]) rfl sc_marks.nd (Zx.pi_revS (by rfl) T.z_reversed (pv 0)) (blkOk_by (own := [("one", 2)]) (N := nm_marks) (by rfl)) (fun _ _ _ _ _ => (pg_name (i := 2) sc_marks.nd rfl (by first | exact Or.inl rfl | exact Or.inr rfl))) (fun _ _ _ _ _ => pts_nil) (fun _ _ _ _ _ => (pe_callTy call_str_int (by rfl) T.z_str (by decide +kernel) (pa_cons (pe_callTy call_int1' (by rfl) T.z_int (by decide +kernel) (pa_cons (pe_cmpR (k_eq (K := K) rfl (by exact hr.units)) (pv 2) (pv 1) (nomark _)) pa_nil)) pa_nil)))))) (pa_cons pe_int pa_nil))))), fn_pure (by decide) len_marks (fun F G0 ds φ hp => ?_) h⟩
  obtain ⟨z, c, rfl, hz, q⟩ := hp
  have hl := len_tl z
  walk_at "dv"
  refine we_new (wn_lcM (α := Nat) (js := [2]) (by decide) (wi_revS ?_))
  walk_at "dv"
  refine ⟨by omega, (tl z).reverse, sg, by rw [signs_sg, List.map_reverse], by rw [List.length_reverse]; omega, rfl, fun d => .str ⟨#[bitC (d == c)]⟩, fun d hd => ?_, ?_⟩
  · refine wg_name ⟨rfl, ?_⟩
    walk_at "dv"
    rw [sg_eq]
    refine (opc_strI (by cases (d == c) <;> decide) ?_).op
    refine ⟨rfl, ?_⟩
    cases (d == c) <;> rfl
  walk_at "dv"
  refine opm_joinM (f := fun d => (⟨#[bitC (d == c)]⟩ : Str)) ?_ ?_
  · have e1 : ((tl z).reverse.map fun d => ((⟨#[bitC (d == c)]⟩ : Str)).length).sum = (tl z).reverse.length := ones1 _
    rw [e1, List.length_reverse]
    show _ + _ * 0 ≤ _
    omega
  have et : tl (Txt.join (Str.ofString "") ((tl z).reverse.map fun d => (⟨#[bitC (d == c)]⟩ : Str))) = ((tl z).reverse.map fun d => bitC (d == c)) := by
    have e2 := tl_join0 ((tl z).reverse.map fun d => (⟨#[bitC (d == c)]⟩ : Str))
    refine e2.trans ?_
    rw [List.map_map]
    exact flat1 _ _
  have l1 : ((Str.ofString "0" : Str)).length = 1 := rfl
  refine op2_addS (by rw [l1, len_tl, et, List.length_map, List.length_reverse]; exact szl (by omega)) ?_
  walk_at "dv"
  have e3 : tl (Str.ofString "0" ++ Txt.join (Str.ofString "") ((tl z).reverse.map fun d => (⟨#[bitC (d == c)]⟩ : Str))) = 48 :: (((tl z).map fun d => d == c).map bitC).reverse := by
    rw [tl_append, et, List.map_map, ← List.map_reverse]
    rfl
  refine (opc_bin ?_ ?_ ?_ ?_).op
  · show tl _ ≠ []
    rw [e3]
    simp
  · have hz' : z.cps.size ≤ 400 := hz
    rw [len_tl, e3]
    simp
    omega
  · intro d hd
    have hd' : d ∈ tl (Str.ofString "0" ++ Txt.join (Str.ofString "") ((tl z).reverse.map fun d => (⟨#[bitC (d == c)]⟩ : Str))) := hd
    rw [e3] at hd'
    rcases List.mem_cons.mp hd' with rfl | h
    · exact .inl rfl
    · rw [List.mem_reverse] at h
      obtain ⟨b, _, rfl⟩ := List.mem_map.mp h
      cases b
      · exact .inl rfl
      · exact .inr rfl
  · show φ (.int ((Zx.binV (tl _) : Nat) : Int))
    rw [e3, binV_val, mk_val hz]
    exact q
def maskD (z : Str) : PyData := .tuple [.int (mk 35 z : Nat), .int (mk 63 z : Nat)]
def pre_masks_of (ds : List PyData) (φ : PyData → Prop) : Prop := ∃ zs : List Str, ds = [.list (zs.map .str)] ∧ Blo zs ∧ φ (.list (zs.map maskD))
theorem len_masks_of : ∀ ds φ, pre_masks_of ds φ → ds.length = 1 := by rintro _ φ ⟨zs, rfl, _⟩; rfl
theorem ok_masks_of (T : Txt P K mg) : FnG P w K mg base CX0 2 T.a_masks_of T.d_masks_of ["picture"] (SpD pre_masks_of) := by
  refine FnG.ok0 T.F_masks_of sc_masks_of (sp_len len_masks_of) (fun cdv A outer s H vs Q E hr hg h => ?_)
  refine ⟨_, (pss_one (ps_ret (pe_lc (own := [("row", 1)]) rfl sc_masks_of.nd (k_plist (K := K) rfl (pv 0)) (blkOk_by (own := [("row", 1)]) (N := nm_masks_of) (by rfl)) (fun _ _ _ _ _ => (pg_name (i := 1) sc_masks_of.nd rfl (by first | exact Or.inl rfl | exact Or.inr rfl))) (fun _ _ _ _ _ => pts_nil) (fun _ _ _ _ _ => (pe_tup (pa_cons (pe_cg (ok_marks (P := P) (w := w) (base := base) T) (by exact hr.mono (by first | decide | omega)) (by exact hg) (by rfl) T.g_marks T.F_marks.kp (b_marks T.F_marks) .nil pass0 (pa_cons (pv 1) (pa_cons pe_str pa_nil))) (pa_cons (pe_cg (ok_marks (P := P) (w := w) (base := base) T) (by exact hr.mono (by first | decide | omega)) (by exact hg) (by rfl) T.g_marks T.F_marks.kp (b_marks T.F_marks) .nil pass0 (pa_cons (pv 1) (pa_cons pe_str pa_nil))) pa_nil))))))), fn_pure (by decide) len_masks_of (fun F G0 ds φ hp => ?_) h⟩
  obtain ⟨zs, rfl, pz, q⟩ := hp
  have hh := pz.high
  walk_at "dv"
  refine we_new (wn_lcM (α := Str) (js := [1]) (by decide) (wi_list ?_))
  walk_at "dv"
  refine ⟨zs, .str, rfl, by omega, rfl, maskD, fun z hz => ?_, q⟩
  have hl := pz.len z hz
  refine wg_name ⟨rfl, ?_⟩
  walk_at "dv"
  refine ⟨z, 35, rfl, hl, ?_⟩
  walk_at "dv"
  refine ⟨z, 63, rfl, hl, ?_⟩
  walk_at "dv"
  exact ⟨rfl, rfl⟩
/-- ink in one of them, bare in the other -/
def bitF (z y : Str) (k : Nat) : Bool := ((isAt 35 z k && !isAt 35 y k) && !isAt 63 y k) || ((isAt 35 y k && !isAt 35 z k) && !isAt 63 z k)
def unl (z y : Str) : Nat := valF (bitF z y) 400
theorem unl_len (z y : Str) : (Zx.binS (unl z y)).length ≤ 400 := valF_len (bitF z y) (by decide)
def pre_unlike_of (ds : List PyData) (φ : PyData → Prop) : Prop := ∃ zs ys : List Str, ds = [.list (zs.map maskD), .list (ys.map maskD)] ∧ zs.length ≤ 1000 ∧ φ (.list ((zs.zip ys).map fun p => .int (unl p.1 p.2 : Nat)))
theorem len_unlike_of : ∀ ds φ, pre_unlike_of ds φ → ds.length = 2 := by rintro _ φ ⟨zs, ys, rfl, _⟩; rfl
theorem ok_unlike_of (T : Txt P K mg) : FnG P w K mg base CX0 1 T.a_unlike_of T.d_unlike_of ["one", "other"] (SpD pre_unlike_of) := by
  refine FnG.ok0 T.F_unlike_of sc_unlike_of (sp_len len_unlike_of) (fun cdv A outer s H vs Q E hr hg h => ?_)
  refine ⟨_, (pss_one (ps_ret (pe_lc (own := [("ink", 2), ("hidden", 3), ("more", 4), ("blot", 5)]) rfl sc_unlike_of.nd (k_pzip (K := K) rfl (by rfl) T.z_zip (pa_cons (pv 0) (pa_cons (pv 1) pa_nil))) (blkOk_by (own := [("ink", 2), ("hidden", 3), ("more", 4), ("blot", 5)]) (N := nm_unlike_of) (by rfl)) (fun _ _ _ _ _ => (k_tup (K := K) (n := 2) rfl rfl (pgs_cons (k_tup (K := K) (n := 2) rfl rfl (pgs_cons (pg_name (i := 2) sc_unlike_of.nd rfl (by first | exact Or.inl rfl | exact Or.inr rfl)) (pgs_cons (pg_name (i := 3) sc_unlike_of.nd rfl (by first | exact Or.inl rfl | exact Or.inr rfl)) pgs_nil))) (pgs_cons (k_tup (K := K) (n := 2) rfl rfl (pgs_cons (pg_name (i := 4) sc_unlike_of.nd rfl (by first | exact Or.inl rfl | exact Or.inr rfl)) (pgs_cons (pg_name (i := 5) sc_unlike_of.nd rfl (by first | exact Or.inl rfl | exact Or.inr rfl)) pgs_nil))) pgs_nil)))) (fun _ _ _ _ _ => pts_nil) (fun _ _ _ _ _ => (pe_op op_or (pe_op op_and (pe_op op_and (pv 2) (pe_un un_inv (pv 4))) (pe_un un_inv (pv 5))) (pe_op op_and (pe_op op_and (pv 4) (pe_un un_inv (pv 2))) (pe_un un_inv (pv 3)))))))), fn_pure (by decide) len_unlike_of (fun F G0 ds φ hp => ?_) h⟩
  obtain ⟨zs, ys, rfl, hh, q⟩ := hp
  walk_at "dv"
  refine we_new (wn_lcM (α := Str × Str) (js := [2, 3, 4, 5]) (by decide) (wi_zip ?_))
  walk_at "dv"
  refine ⟨_, _, rfl, zs.zip ys, _, by rw [pairs_zip], by rw [List.length_zip]; omega, rfl, fun p => .int (unl p.1 p.2 : Nat), fun p hp => ?_, q⟩
  obtain ⟨z, y⟩ := p
  refine wg_tup rfl (wgs_cons (wg_tup rfl (wgs_cons (wg_name (wgs_cons (wg_name (wgs_nil (wgs_cons (wg_tup rfl (wgs_cons (wg_name (wgs_cons (wg_name (wgs_nil (wgs_nil ⟨rfl, ?_⟩)))))))))))))))
  walk_at "dv"
  refine ⟨rfl, congrArg PyData.int ?_⟩
  rw [bit_andNot, bit_andNot, bit_andNot, bit_andNot, bit_or]
  unfold mk unl
  rw [valF_not, valF_not, valF_not, valF_not, valF_or]
  rfl
def pre_count_of (ds : List PyData) (φ : PyData → Prop) : Prop := ∃ ns : List Nat, ds = [.list (ns.map fun (n : Nat) => .int (n : Int))] ∧ ns.length ≤ 1000 ∧ (∀ n ∈ ns, (Zx.binS n).length ≤ 400) ∧ φ (.int ((ns.map popc).sum : Nat))
theorem len_count_of : ∀ ds φ, pre_count_of ds φ → ds.length = 1 := by rintro _ φ ⟨ns, rfl, _⟩; rfl
theorem ok_count_of (T : Txt P K mg) : FnG P w K mg base CX0 1 T.a_count_of T.d_count_of ["numbers"] (SpD pre_count_of) := by
  refine FnG.ok0 T.F_count_of sc_count_of (sp_len len_count_of) (fun cdv A outer s H vs Q E hr hg h => ?_)
  refine ⟨_, (pss_one (ps_ret (pe_callB (k_sum (K := K) rfl rfl) (by rfl) T.z_sum (by decide +kernel) (pa_cons (pe_lc (own := [("number", 1)]) rfl sc_count_of.nd (k_plist (K := K) rfl (pv 0)) (blkOk_by (own := [("number", 1)]) (N := nm_count_of) (by rfl)) (fun _ _ _ _ _ => (pg_name (i := 1) sc_count_of.nd rfl (by first | exact Or.inl rfl | exact Or.inr rfl))) (fun _ _ _ _ _ => pts_nil) (fun _ _ _ _ _ => (pe_m1 PySem.F.slot_str_count PySem.F.type_str_count mt_count' (Zx.pe_fmtB (pv 1) (pe_joined1 pe_str)) pe_str))) pa_nil)))), fn_pure (by decide) len_count_of (fun F G0 ds φ hp => ?_) h⟩
  obtain ⟨ns, rfl, hl, hn, q⟩ := hp
  walk_at "dv"
  refine we_new (wn_lcM (α := Nat) (js := [1]) (by decide) (wi_list ?_))
  walk_at "dv"
  refine ⟨ns, fun (n : Nat) => .int (n : Int), rfl, by omega, rfl, fun n => .int (popc n : Nat), fun n h => ?_, ?_⟩
  · have hb := hn n h
    refine wg_name ⟨rfl, ?_⟩
    walk_at "dv"
    refine we_fmtB ?_
    walk_at "dv"
    refine ⟨by omega, _, rfl, ?_⟩
    walk_at "dv"
    refine opm_count ⟨rfl, congrArg PyData.int ?_⟩
    exact (count_S (Zx.binS n) 49).trans (by rw [ones_binS])
  walk_at "dv"
  refine (opc_sumM (f := fun n : Nat => ((popc n : Nat) : Int)) ?_).op
  rw [sum_cast]
  exact q
def pre_look_beside (ds : List PyData) (φ : PyData → Prop) (ψ : String → PyData → Prop) : Prop := ∃ zs ys : List Str, ds = [.list (zs.map .str), .list (ys.map .str)] ∧ Blo ys ∧ ys.length = zs.length ∧ φ .none
theorem len_look_beside : ∀ ds φ ψ, pre_look_beside ds φ ψ → ds.length = 2 := by rintro _ φ ψ ⟨v, _, rfl, _⟩; rfl
theorem ok_look_beside (T : Txt P K mg) : FnG P w K mg base (L2.CX P w) 3 T.a_look_beside T.d_look_beside ["one", "other"] (SpX T.cA pre_look_beside) := by
  refine FnG.okX T.F_look_beside sc_look_beside (spx_len len_look_beside) (fun cdv A outer s H vs Q E hr hg h => ?_)
  refine ⟨_, (pss_one (ps_if (PW.pt (pw_or (pt_not (k_tru (K := K) rfl (pe_cg (ok_is_blotted (P := P) (w := w) (base := base) T) (by exact hr.mono (by first | decide | omega)) (by exact hg) (by rfl) T.g_is_blotted T.F_is_blotted.kp (b_is_blotted T.F_is_blotted) .nil pass0 (pa_cons (pv 1) pa_nil)) (by intro _; rfl))) (pw_or1 (pt_cmpR (k_ne (K := K) rfl (by exact hr.units)) (pe_callB (k_len (K := K) rfl) (by rfl) T.z_len (by decide +kernel) (pa_cons (pv 1) pa_nil)) (pe_callB (k_len (K := K) rfl) (by rfl) T.z_len (by decide +kernel) (pa_cons (pv 0) pa_nil)) (nomark _))))) (pss_one (ps_raiseV T.X_InvalidBlotted rfl (takes_of rfl rfl rfl rfl) (by exact hr.mono (by first | decide | omega)) (by rfl) (pa_cons (pv 1) pa_nil))) pss_nil)), fn_x (by decide) len_look_beside (fun F G0 ds φ ψ hp hE => ?_) h⟩
  obtain ⟨zs, ys, rfl, py, hl, q⟩ := hp
  walk_at "dv"
  refine ⟨_, rfl, py.sml, ?_⟩
  rw [py.is]
  walk_at "dv"
  rw [List.length_map, List.length_map, hl, show (!((zs.length : Int) == (zs.length : Int))) = false by simp]
  walk_at "dv"
  exact q
def rowFar (z y : Str) (w : Nat) : Nat := ((List.range w).map fun k => (bitF z y k).toNat).sum
theorem popc_unl (z y : Str) : popc (unl z y) = rowFar z y 400 := by
  unfold unl rowFar
  exact popc_valF (bitF z y) 400
def distN (zs ys : List Str) (w : Nat) : Nat := ((zs.zip ys).map fun p => rowFar p.1 p.2 w).sum
def pre_distance_of (ds : List PyData) (φ : PyData → Prop) : Prop := ∃ zs ys : List Str, ds = [.list (zs.map .str), .list (ys.map .str)] ∧ Blo zs ∧ Blo ys ∧ φ (.int (distN zs ys 400 : Nat))
theorem len_distance_of : ∀ ds φ, pre_distance_of ds φ → ds.length = 2 := by rintro _ φ ⟨zs, ys, rfl, _⟩; rfl
theorem ok_distance_of (T : Txt P K mg) : FnG P w K mg base CX0 3 T.a_distance_of T.d_distance_of ["one", "other"] (SpD pre_distance_of) := by
  refine FnG.ok0 T.F_distance_of sc_distance_of (sp_len len_distance_of) (fun cdv A outer s H vs Q E hr hg h => ?_)
  refine ⟨_, (pss_one (ps_ret (pe_cg (ok_count_of (P := P) (w := w) (base := base) T) (by exact hr.mono (by first | decide | omega)) (by exact hg) (by rfl) T.g_count_of T.F_count_of.kp (b_count_of T.F_count_of) .nil pass0 (pa_cons (pe_cg (ok_unlike_of (P := P) (w := w) (base := base) T) (by exact hr.mono (by first | decide | omega)) (by exact hg) (by rfl) T.g_unlike_of T.F_unlike_of.kp (b_unlike_of T.F_unlike_of) .nil pass0 (pa_cons (pe_cg (ok_masks_of (P := P) (w := w) (base := base) T) (by exact hr.mono (by first | decide | omega)) (by exact hg) (by rfl) T.g_masks_of T.F_masks_of.kp (b_masks_of T.F_masks_of) .nil pass0 (pa_cons (pv 0) pa_nil)) (pa_cons (pe_cg (ok_masks_of (P := P) (w := w) (base := base) T) (by exact hr.mono (by first | decide | omega)) (by exact hg) (by rfl) T.g_masks_of T.F_masks_of.kp (b_masks_of T.F_masks_of) .nil pass0 (pa_cons (pv 1) pa_nil)) pa_nil))) pa_nil)))), fn_pure (by decide) len_distance_of (fun F G0 ds φ hp => ?_) h⟩
  obtain ⟨zs, ys, rfl, pz, py, q⟩ := hp
  have hh := pz.high
  walk_at "dv"
  refine ⟨zs, rfl, pz, ?_⟩
  walk_at "dv"
  refine ⟨ys, rfl, py, ?_⟩
  walk_at "dv"
  refine ⟨zs, ys, rfl, by omega, ?_⟩
  walk_at "dv"
  refine ⟨(zs.zip ys).map fun p => unl p.1 p.2, by rw [List.map_map]; rfl, by rw [List.length_map, List.length_zip]; omega, fun n hn => ?_, ?_⟩
  · obtain ⟨p, _, rfl⟩ := List.mem_map.mp hn
    exact unl_len _ _
  · have e : (((zs.zip ys).map fun p => unl p.1 p.2).map popc).sum = distN zs ys 400 := by
      unfold distN
      rw [List.map_map]
      exact congrArg List.sum (List.map_congr_left fun p _ => popc_unl p.1 p.2)
    rw [e]
    exact q
def pre_apart (ds : List PyData) (φ : PyData → Prop) (ψ : String → PyData → Prop) : Prop := ∃ zs ys : List Str, ds = [.list (zs.map .str), .list (ys.map .str)] ∧ Blo zs ∧ Blo ys ∧ ys.length = zs.length ∧ φ (.int (distN zs ys 400 : Nat))
theorem len_apart : ∀ ds φ ψ, pre_apart ds φ ψ → ds.length = 2 := by rintro _ φ ψ ⟨v, _, rfl, _⟩; rfl
def blotN (zs : List Str) : Nat := (zs.map (cntS 63)).sum
def pre_leaves (ds : List PyData) (φ : PyData → Prop) (ψ : String → PyData → Prop) : Prop := ∃ (zs ys : List Str) (a b : Nat), ds = [.list (zs.map .str), .list (ys.map .str), .int a, .int b] ∧ Pic zs ∧ Blo ys ∧ ys.length = zs.length ∧ φ (.bool (decide (distN zs ys 400 ≤ a) && decide (blotN ys ≤ b)))
theorem len_leaves : ∀ ds φ ψ, pre_leaves ds φ ψ → ds.length = 4 := by rintro _ φ ψ ⟨zs, ys, a, b, rfl, _⟩; rfl
theorem cnt_join (c : Nat) : ∀ zs : List Str, cntS c (Txt.join (("" : String) : Str) zs) = (zs.map (cntS c)).sum := fun zs => by
  have e : ∀ zs : List Str, (((zs.map tl).flatten).filter fun k => k == c).length = (zs.map (cntS c)).sum := fun zs => by
    induction zs with
    | nil => rfl
    | cons z r ih =>
      rw [List.map_cons, List.flatten_cons, List.filter_append, List.length_append, ih]
      rfl
  rw [← e zs, ← tl_join0]
  rfl
end

section
variable {P : Program} {w : World} {K : PySem.W.Frag} {mg : Str → Option Value} {base : Heap}
theorem tl_repC (c n : Nat) : tl (repS ⟨#[c]⟩ n) = List.replicate n c := by
  show ((List.replicate n [c]).flatten.toArray).toList = _
  rw [List.toList_toArray]
  induction n with
  | zero => rfl
  | succ n ih => rw [List.replicate_succ, List.flatten_cons, ih, List.replicate_succ]; rfl
theorem pln_lit {z : Str} (h : (z.cps.toList.all fun c => decide (c < 128)) = true) : Pln z := fun c hc => of_decide_eq_true (List.all_eq_true.mp h c hc)
theorem pairs_self : ∀ xs : List PyData, Dv.pairs xs xs = xs.map fun d => .tuple [d, d]
  | [] => rfl
  | x :: xs => by
    show PyData.tuple [x, x] :: Dv.pairs xs xs = _
    rw [pairs_self xs]
    rfl
inductive SmlD : PyData → Prop
  | none : SmlD .none
  | bool {b : Bool} : SmlD (.bool b)
  | int {i : Int} : SmlD (.int i)
  | str {z : Str} : SmlD (.str z)
  | list {xs : List PyData} : xs.length < 100000 → (∀ x ∈ xs, SmlD x) → SmlD (.list xs)
  | tuple {xs : List PyData} : xs.length < 100000 → (∀ x ∈ xs, SmlD x) → SmlD (.tuple xs)
def pre__law_same : Nat → List PyData → (PyData → Prop) → Prop
  | 0, _, _ => False
  | n + 1, ds, φ => ∃ x : PyData, ds = [x, x] ∧ OkdN n x ∧ SmlD x ∧ φ (.bool true)
theorem len__law_same : ∀ n ds φ, pre__law_same n ds φ → ds.length = 2
  | 0, _, _, h => h.elim
  | n + 1, _, _, ⟨x, e, _⟩ => by rw [e]; rfl
theorem rec__law_same (T : Txt P K mg) : ∀ n : Nat, FnG P w K mg base CX0 (n + 1) T.a__law_same T.d__law_same ["told", "due"] (SpD (pre__law_same n))
| 0 => FnG.no fun ds φ hp => hp.elim
| n + 1 => by
  have ih := rec__law_same T n
  refine FnG.ok0 (k := n + 1) T.F__law_same sc__law_same (sp_len (len__law_same (n + 1))) (fun cdv A outer s H vs Q E hr hg h => ?_)
  refine ⟨_, (pss_cons (ps_if (pt_cmpR op_isN' (pv 1) pe_non (nomark _)) (pss_one (ps_ret (pe_cmpR op_isN' (pv 0) pe_non (nomark _)))) pss_nil)
      (pss_cons (ps_if (pt_cmpR op_isBl' (pv 1) pe_bl (nomark _)) (pss_one (ps_ret (pe_cmpR op_isBl' (pv 0) pe_bl (nomark _)))) pss_nil)
      (pss_cons (ps_if (pt_cmpR op_isBl' (pv 1) pe_bl (nomark _)) (pss_one (ps_ret (pe_cmpR op_isBl' (pv 0) pe_bl (nomark _)))) pss_nil)
      (pss_cons (ps_if (k_tru (K := K) rfl (pe_callB (k_isiT (K := K) rfl) (by rfl) T.z_isinstance (by decide +kernel) (pa_cons (pv 1) (pa_cons (pe_tup (pa_cons (pe_bltn (v := .ty "list") (u := .type "list") (by rfl) T.z_list (by decide +kernel) rfl) (pa_cons (pe_bltn (v := .ty "tuple") (u := .type "tuple") (by rfl) T.z_tuple (by decide +kernel) rfl) pa_nil))) pa_nil))) (by intro _; rfl)) (pss_cons (ps_set (i := 2) sc__law_same.nd rfl (by first | exact Or.inl rfl | exact Or.inr rfl) (pe_ifExp (k_tru (K := K) rfl (pe_callB (k_isi (K := K) rfl) (by rfl) T.z_isinstance (by decide +kernel) (pa_cons (pv 1) (pa_cons (pe_bltn (v := .ty "list") (u := .type "list") (by rfl) T.z_list (by decide +kernel) rfl) pa_nil))) (by intro _; rfl)) (pe_callB (k_isi (K := K) rfl) (by rfl) T.z_isinstance (by decide +kernel) (pa_cons (pv 0) (pa_cons (pe_bltn (v := .ty "list") (u := .type "list") (by rfl) T.z_list (by decide +kernel) rfl) pa_nil))) (pe_callB (k_isi (K := K) rfl) (by rfl) T.z_isinstance (by decide +kernel) (pa_cons (pv 0) (pa_cons (pe_bltn (v := .ty "tuple") (u := .type "tuple") (by rfl) T.z_tuple (by decide +kernel) rfl) pa_nil)))))
      (pss_one (ps_ret (k_andT (K := K) rfl (pv 2) (k_andT (K := K) rfl (pe_cmpR (k_eq (K := K) rfl (by exact hr.units)) (pe_callB (k_len (K := K) rfl) (by rfl) T.z_len (by decide +kernel) (pa_cons (pv 0) pa_nil)) (pe_callB (k_len (K := K) rfl) (by rfl) T.z_len (by decide +kernel) (pa_cons (pv 1) pa_nil)) (nomark _)) (pe_one (pe_callB (k_all (K := K) rfl rfl) (by rfl) T.z_all (by decide +kernel) (pa_cons (pe_lc (own := [("one", 3), ("other", 4)]) rfl sc__law_same.nd (k_pzipA (K := K) rfl (by rfl) T.z_zip (pa_cons (pv 0) (pa_cons (pv 1) pa_nil))) (blkOk_by (own := [("one", 3), ("other", 4)]) (N := nm__law_same) (by rfl)) (fun _ _ _ _ _ => (k_tup (K := K) (n := 2) rfl rfl (pgs_cons (pg_name (i := 3) sc__law_same.nd rfl (by first | exact Or.inl rfl | exact Or.inr rfl)) (pgs_cons (pg_name (i := 4) sc__law_same.nd rfl (by first | exact Or.inl rfl | exact Or.inr rfl)) pgs_nil)))) (fun _ _ _ _ _ => pts_nil) (fun _ _ _ _ _ => (pe_cg ih (by exact hr.mono (by first | decide | omega)) (by exact hg) (by rfl) T.g__law_same T.F__law_same.kp (b__law_same T.F__law_same) .nil pass0 (pa_cons (pv 3) (pa_cons (pv 4) pa_nil))))) pa_nil)))))))) pss_nil)
      (pss_cons (ps_if (k_tru (K := K) rfl (pe_callB (k_isi (K := K) rfl) (by rfl) T.z_isinstance (by decide +kernel) (pa_cons (pv 1) (pa_cons (pe_bltn (v := .ty "int") (u := .type "int") (by rfl) T.z_int (by decide +kernel) rfl) pa_nil))) (by intro _; rfl)) (pss_one (ps_ret (k_andT (K := K) rfl (pe_callB (k_isi (K := K) rfl) (by rfl) T.z_isinstance (by decide +kernel) (pa_cons (pv 0) (pa_cons (pe_bltn (v := .ty "int") (u := .type "int") (by rfl) T.z_int (by decide +kernel) rfl) pa_nil))) (k_andT (K := K) rfl (k_notT (K := K) rfl (pe_callB (k_isi (K := K) rfl) (by rfl) T.z_isinstance (by decide +kernel) (pa_cons (pv 0) (pa_cons (pe_bltn (v := .ty "bool") (u := .type "bool") (by rfl) T.z_bool (by decide +kernel) rfl) pa_nil)))) (pe_one (pe_cmpR (k_eq (K := K) rfl (by exact hr.units)) (pv 0) (pv 1) (nomark _))))))) pss_nil)
      (pss_one (ps_ret (k_andT (K := K) rfl (pe_callB (k_isi (K := K) rfl) (by rfl) T.z_isinstance (by decide +kernel) (pa_cons (pv 0) (pa_cons (pe_bltn (v := .ty "str") (u := .type "str") (by rfl) T.z_str (by decide +kernel) rfl) pa_nil))) (pe_one (pe_cmpR (k_eq (K := K) rfl (by exact hr.units)) (pv 0) (pv 1) (nomark _))))))))))), fn_pure (by decide) (len__law_same (n + 1)) (fun F G0 ds φ hp => ?_) h⟩
  obtain ⟨x, rfl, hx, hs, q⟩ := hp
  walk_at "dv"
  cases x with
  | list xs =>
    obtain ⟨k, rfl, hk⟩ := hx.of_list
    cases hs with
    | list hl hs =>
    walk_at "dv"
    rw [show ((xs.length : Int) == (xs.length : Int)) = true by simp]
    walk_at "dv"
    refine we_new (wn_lcM (α := PyData) (js := [3, 4]) (by decide) (wi_zipA ?_))
    walk_at "dv"
    refine ⟨_, _, .inl rfl, xs, fun d => .tuple [d, d], pairs_self xs, hl, rfl, fun _ => .bool true, fun d hd => ?_, ?_⟩
    · refine wg_tup rfl (wgs_cons (wg_name (wgs_cons (wg_name (wgs_nil ⟨rfl, ?_⟩)))))
      walk_at "dv"
      exact ⟨d, rfl, hk d hd, hs d hd, rfl, rfl⟩
    walk_at "dv"
    refine (opc_allM ?_).op
    rw [show (xs.all fun _ => true) = true by simp]
    exact q
  | tuple xs =>
    obtain ⟨k, rfl, hk⟩ := hx.of_tuple
    cases hs with
    | tuple hl hs =>
    walk_at "dv"
    rw [show ((xs.length : Int) == (xs.length : Int)) = true by simp]
    walk_at "dv"
    refine we_new (wn_lcM (α := PyData) (js := [3, 4]) (by decide) (wi_zipA ?_))
    walk_at "dv"
    refine ⟨_, _, .inr rfl, xs, fun d => .tuple [d, d], pairs_self xs, hl, rfl, fun _ => .bool true, fun d hd => ?_, ?_⟩
    · refine wg_tup rfl (wgs_cons (wg_name (wgs_cons (wg_name (wgs_nil ⟨rfl, ?_⟩)))))
      walk_at "dv"
      exact ⟨d, rfl, hk d hd, hs d hd, rfl, rfl⟩
    walk_at "dv"
    refine (opc_allM ?_).op
    rw [show (xs.all fun _ => true) = true by simp]
    exact q
  | none =>
    walk_at "dv"
    exact q
  | bool b =>
    cases b
    · walk_at "dv"
      exact q
    · walk_at "dv"
      exact q
  | int i =>
    walk_at "dv"
    rw [show (i == i) = true by simp]
    exact q
  | str z =>
    walk_at "dv"
    rw [show (z == z) = true by simp]
    exact q
  | dict kvs =>
    have := hx.nd
    simp [PyData.hasDict] at this
theorem ok__law_same (T : Txt P K mg) : FnG P w K mg base CX0 9 T.a__law_same T.d__law_same ["told", "due"] (SpD (pre__law_same 8)) := rec__law_same T 8
theorem rep_all (n : Nat) : List.replicate n (PyData.bool true) = (List.replicate n true).map .bool := by rw [List.map_replicate]
theorem all_rep (n : Nat) : (List.replicate n true).all id = true := List.all_eq_true.mpr fun b hb => List.eq_of_mem_replicate hb
theorem rec__law_spoilt (T : Txt P K mg) : ∀ n : Nat, n ≤ 60 → FnG P w K mg base CX0 (n + 1) T.a__law_spoilt T.d__law_spoilt ["told"] (SpS n)
| 0, _ => FnG.noS
| n + 1, hn => by
  have ih := rec__law_spoilt T n (by omega)
  refine FnG.ok0 (k := n + 1) T.F__law_spoilt sc__law_spoilt sps_len (fun cdv A outer s H vs Q E hr hg h => ?_)
  refine ⟨_, (pss_cons (ps_if (k_tru (K := K) rfl (pe_callB (k_isi (K := K) rfl) (by rfl) T.z_isinstance (by decide +kernel) (pa_cons (pv 0) (pa_cons (pe_bltn (v := .ty "tuple") (u := .type "tuple") (by rfl) T.z_tuple (by decide +kernel) rfl) pa_nil))) (by intro _; rfl)) (pss_one (ps_ret (pe_callB (k_all (K := K) rfl rfl) (by rfl) T.z_all (by decide +kernel) (pa_cons (pe_lc (own := [("part", 2)]) rfl sc__law_spoilt.nd (k_ptup (K := K) rfl (pv 0)) (blkOk_by (own := [("part", 2)]) (N := nm__law_spoilt) (by rfl)) (fun _ _ _ _ _ => (pg_name (i := 2) sc__law_spoilt.nd rfl (by first | exact Or.inl rfl | exact Or.inr rfl))) (fun _ _ _ _ _ => pts_nil) (fun _ _ _ _ _ => (pe_cg ih (by exact hr.mono (by first | decide | omega)) (by exact hg) (by rfl) T.g__law_spoilt T.F__law_spoilt.kp (b__law_spoilt T.F__law_spoilt) .nil pass0 (pa_cons (pv 2) pa_nil)))) pa_nil)))) pss_nil)
      (pss_cons (ps_if (pt_not (k_tru (K := K) rfl (pe_callB (k_isi (K := K) rfl) (by rfl) T.z_isinstance (by decide +kernel) (pa_cons (pv 0) (pa_cons (pe_bltn (v := .ty "list") (u := .type "list") (by rfl) T.z_list (by decide +kernel) rfl) pa_nil))) (by intro _; rfl))) (pss_one (ps_ret pe_bl)) pss_nil)
      (pss_cons (ps_if (PW.pt (pw_and (pt_cmpR (k_ne (K := K) rfl (by exact hr.units)) (pv 0) (pe_lst pa_nil) (nomark _)) (pw_and (k_tru (K := K) rfl (pe_callB (k_isi (K := K) rfl) (by rfl) T.z_isinstance (by decide +kernel) (pa_cons (pe_ix (k_ix (K := K) rfl) (pv 0) (pe_un un_neg pe_int) (fun _ _ => rfl)) (pa_cons (pe_bltn (v := .ty "str") (u := .type "str") (by rfl) T.z_str (by decide +kernel) rfl) pa_nil))) (by intro _; rfl)) (pw_and1 (pt_cmpR (k_eq (K := K) rfl (by exact hr.units)) (pe_ix (k_ix (K := K) rfl) (pv 0) (pe_un un_neg pe_int) (fun _ _ => rfl)) pe_str (nomark _)))))) (pss_one (ps_ret pe_bl)) pss_nil)
      (pss_cons (ps_setLc (i := 1) (own := [("part", 2)]) (by rfl) sc__law_spoilt.nd rfl rfl (sw_true rfl rfl rfl (by decide +kernel)) (k_plist (K := K) rfl (pv 0)) (blkOk_by (own := [("part", 2)]) (N := nm__law_spoilt) (by rfl)) (fun _ _ _ _ _ => (pg_name (i := 2) sc__law_spoilt.nd rfl (by first | exact Or.inl rfl | exact Or.inr rfl))) (fun _ _ _ _ _ => pts_nil) (fun _ _ _ _ _ => (pe_cg ih (by exact hr.mono (by first | decide | omega)) (by exact hg) (by rfl) T.g__law_spoilt T.F__law_spoilt.kp (b__law_spoilt T.F__law_spoilt) .nil pass0 (pa_cons (pv 2) pa_nil))))
      (pss_cons (ps_expr (k_append (K := K) rfl (pv 0) (pa_cons pe_str pa_nil)))
      (pss_one (ps_ret (pe_callB (k_all (K := K) rfl rfl) (by rfl) T.z_all (by decide +kernel) (pa_cons (pv 1) pa_nil))))))))), fn_s (by decide) (fun F G0 L d hc hd => ?_) h⟩
  have okn : OkdN d.depth d := clean_okd hc
  cases d with
  | dict kvs => simp [clean] at hc
  | tuple ds =>
    have hl : ds.length < 90000 := by
      simp only [clean, Bool.and_eq_true] at hc
      exact of_decide_eq_true hc.1
    have hds : ∀ e ∈ ds, clean e = true ∧ e.depth < n := fun e he => ⟨by
      simp only [clean, Bool.and_eq_true, cleanA_all] at hc
      exact List.all_eq_true.mp hc.2 e he, dep_tup hd e he⟩
    refine q_seq (q_if (wt_lend (i := 0) rfl ?_))
    walk_at "dv"
    refine we_new (wn_spoilT (i := 0) (j := 2) rfl (by show 2 < 3; decide) hds (by omega) ?_)
    walk_at "dv"
    rw [rep_all]
    exact (opc_all (by rw [all_rep])).op
  | list ds =>
    have hl : ds.length < 90000 := by
      simp only [clean, Bool.and_eq_true] at hc
      exact of_decide_eq_true hc.2.1
    have hds : ∀ e ∈ ds, clean e = true ∧ e.depth < n := fun e he => ⟨by
      simp only [clean, Bool.and_eq_true, cleanA_all] at hc
      exact List.all_eq_true.mp hc.2.2 e he, dep_list hd e he⟩
    have hsp : endsSp ds = false := by
      simp only [clean, Bool.and_eq_true] at hc
      simpa using hc.1
    refine q_seq (q_if (wt_lend (i := 0) rfl (wt_tru (we_isi (by decide +kernel) (we_var rfl ?_)))))
    rw [isT_tuple]
    refine tru_b (wt_f (q_nx ?_))
    refine q_seq (q_if (wt_lend (i := 0) rfl (wt_not (wt_tru (we_isi (by decide +kernel) (we_var rfl ?_))))))
    rw [isT_list]
    refine tru_b (nb_t (q_nx ?_))
    refine q_seq (q_if (wt_lend (i := 0) rfl (Wt.imp (Φ := fun b _ => b = false) ?_ ?_)))
    · walk_at "dv"
      refine (op2_neNil (okn.okd (by omega)) ?_).op
      refine ⟨_, rfl, ?_⟩
      cases hg : ds.getLast? with
      | none =>
        rw [List.getLast?_eq_none_iff] at hg
        subst hg
        exact wt_f rfl
      | some x =>
        have hne : (!ds.isEmpty) = true := by
          cases ds with
          | nil => cases hg
          | cons a r => rfl
        refine wt_y hne ?_
        have hx := (hds x (List.mem_of_getLast? hg)).1
        walk_at "dv"
        refine op2_ixL (atI_last hg) ?_
        cases x with
        | str z =>
          walk_at "dv"
          refine op2_ixL (atI_last hg) ?_
          walk_at "dv"
          unfold endsSp at hsp
          rw [hg] at hsp
          exact hsp
        | none => walk_at "dv"
        | bool b => walk_at "dv"
        | int i => walk_at "dv"
        | list es => walk_at "dv"
        | tuple es => walk_at "dv"
        | dict es => simp [clean] at hx
    rintro _ _ rfl
    refine wt_f (q_nx ?_)
    refine q_seq (q_set (we_new (wn_spoilL (i := 0) (j := 2) rfl (by show 2 < 3; decide) (by decide) hds (by omega) fun a xs hxs => ?_)))
    refine q_seq (q_appX (i := 0) (a := a) (xs := xs) rfl (by omega) (we_str ⟨rfl, ?_⟩))
    walk_at "dv"
    rw [rep_all]
    exact (opc_all (by rw [all_rep])).op
  | none =>
    refine q_seq (q_if (wt_lend (i := 0) rfl (wt_tru (we_isi (by decide +kernel) (we_var rfl ?_)))))
    rw [isT_tuple]
    refine tru_b (wt_f (q_nx ?_))
    refine q_seq (q_if (wt_lend (i := 0) rfl (wt_not (wt_tru (we_isi (by decide +kernel) (we_var rfl ?_))))))
    rw [isT_list]
    refine tru_b (nb_f (q_ret (we_bl ?_)))
    rfl
  | bool b =>
    refine q_seq (q_if (wt_lend (i := 0) rfl (wt_tru (we_isi (by decide +kernel) (we_var rfl ?_)))))
    rw [isT_tuple]
    refine tru_b (wt_f (q_nx ?_))
    refine q_seq (q_if (wt_lend (i := 0) rfl (wt_not (wt_tru (we_isi (by decide +kernel) (we_var rfl ?_))))))
    rw [isT_list]
    refine tru_b (nb_f (q_ret (we_bl ?_)))
    rfl
  | int i =>
    refine q_seq (q_if (wt_lend (i := 0) rfl (wt_tru (we_isi (by decide +kernel) (we_var rfl ?_)))))
    rw [isT_tuple]
    refine tru_b (wt_f (q_nx ?_))
    refine q_seq (q_if (wt_lend (i := 0) rfl (wt_not (wt_tru (we_isi (by decide +kernel) (we_var rfl ?_))))))
    rw [isT_list]
    refine tru_b (nb_f (q_ret (we_bl ?_)))
    rfl
  | str z =>
    refine q_seq (q_if (wt_lend (i := 0) rfl (wt_tru (we_isi (by decide +kernel) (we_var rfl ?_)))))
    rw [isT_tuple]
    refine tru_b (wt_f (q_nx ?_))
    refine q_seq (q_if (wt_lend (i := 0) rfl (wt_not (wt_tru (we_isi (by decide +kernel) (we_var rfl ?_))))))
    rw [isT_list]
    refine tru_b (nb_f (q_ret (we_bl ?_)))
    rfl
theorem ok__law_spoilt (T : Txt P K mg) : FnG P w K mg base CX0 9 T.a__law_spoilt T.d__law_spoilt ["told"] (SpS 8) := rec__law_spoilt T 8 (by decide)
/-- the purse: its cells, the place, what is left, how often it was mixed, the seed -/
def PZ (m : Nat) (xs : List PyData) : Prop := ∃ (ns : List Int) (a b c s : Int), xs = [.list (ns.map .int), .int a, .int b, .int c, .int s] ∧ (∀ n ∈ ns, 0 ≤ n) ∧ 0 ≤ a ∧ 0 ≤ b ∧ 0 ≤ c ∧ c ≤ m
def pre__law_draw (m : Nat) (ds : List PyData) (φ : Nat → PyData → Prop) : Prop := ∃ b : Nat, ds = [.int b] ∧ 0 < b ∧ b < 2 ^ 29 ∧ m < 2 ^ 40 ∧ ∀ r : Nat, r < b → φ (m + 1) (.int r)
theorem len__law_draw : ∀ m ds φ, pre__law_draw m ds φ → ds.length = 1 := by rintro m _ φ ⟨b, rfl, _⟩; rfl
theorem ok__law_draw (T : Txt P K mg) : FnG P w K mg base CX0 1 T.a__law_draw T.d__law_draw ["purse", "many"] (SpZ PZ pre__law_draw) := by
  refine FnG.ok0 T.F__law_draw sc__law_draw (spz_len len__law_draw) (fun cdv A outer s H vs Q E hr hg h => ?_)
  refine ⟨_, (pss_cons (ps_if (PW.pt (pw_and (pt_cmpR op_lt (pe_ix (k_ix (K := K) rfl) (pv 0) pe_int (fun _ _ => rfl)) (pv 1) (nomark _)) (pw_and1 (pt_cmpR op_lt (pe_ix (k_ix (K := K) rfl) (pv 0) pe_int (fun _ _ => rfl)) (pe_callB (k_len (K := K) rfl) (by rfl) T.z_len (by decide +kernel) (pa_cons (pe_ix (k_ix (K := K) rfl) (pv 0) pe_int (fun _ _ => rfl)) pa_nil)) (nomark _))))) (pss_cons (ps_asg (pe_ix (k_ix (K := K) rfl) (pe_ix (k_ix (K := K) rfl) (pv 0) pe_int (fun _ _ => rfl)) (pe_ix (k_ix (K := K) rfl) (pv 0) pe_int (fun _ _ => rfl)) (fun _ _ => rfl)) (pg_sub (pv 0) pe_int set_list))
      (pss_one (ps_augS (pv 0) pe_int (k_pget (K := K) rfl) pe_int ip_add set_list))) pss_nil)
      (pss_cons (ps_if (pt_cmpR op_ge (pe_ix (k_ix (K := K) rfl) (pv 0) pe_int (fun _ _ => rfl)) (pv 1) (nomark _)) (pss_cons (ps_set (i := 2) sc__law_draw.nd rfl (by first | exact Or.inl rfl | exact Or.inr rfl) (pe_op op_mod (pe_callTy call_int1' (by rfl) T.z_int (by decide +kernel) (pa_cons (pe_ix (k_ix (K := K) rfl) (pv 0) pe_int (fun _ _ => rfl)) pa_nil)) (pv 1)))
      (pss_cons (ps_asg (pe_op op_fdiv (pe_ix (k_ix (K := K) rfl) (pv 0) pe_int (fun _ _ => rfl)) (pv 1)) (pg_sub (pv 0) pe_int set_list))
      (pss_one (ps_ret (pv 2))))) pss_nil)
      (pss_cons (ps_augS (pv 0) pe_int (k_pget (K := K) rfl) pe_int ip_add set_list)
      (pss_cons (ps_set (i := 3) sc__law_draw.nd rfl (by first | exact Or.inl rfl | exact Or.inr rfl) (pe_op op_mod (pe_callTy call_int1' (by rfl) T.z_int (by decide +kernel) (pa_cons (pe_op op_mulU (pe_op (k_add (K := K) rfl) (pe_op op_mulU (pe_ix (k_ix (K := K) rfl) (pv 0) pe_int (fun _ _ => rfl)) (pe_ix (k_ix (K := K) rfl) (pv 0) pe_int (fun _ _ => rfl))) (pe_ix (k_ix (K := K) rfl) (pv 0) pe_int (fun _ _ => rfl))) pe_int) pa_nil)) pe_int))
      (pss_one (ps_ret (pe_op op_mod (pe_callTy call_int1' (by rfl) T.z_int (by decide +kernel) (pa_cons (pe_op op_mod (pe_callTy call_int1' (by rfl) T.z_int (by decide +kernel) (pa_cons (pe_op op_mulU (pv 3) (pv 3)) pa_nil)) pe_int) pa_nil)) (pv 1)))))))), fn_zL (by decide) len__law_draw (fun F G0 p m xs ds φ hp hP => ?_) h⟩
  obtain ⟨many, rfl, hb0, hb1, hm, q⟩ := hp
  obtain ⟨ns, a, b, c, s, rfl, hns, ha, hb, hc, hc2⟩ := hP
  refine q_seq (Ws.imp (Ψ := ⟨fun ρ => ∃ a b : Int, 0 ≤ a ∧ 0 ≤ b ∧ ρ = [.res (lst p [.list (ns.map .int), .int a, .int b, .int c, .int s]), .val (.int many), .any, .any], fun _ _ => False, fun _ => False, fun _ => False⟩) ?_ ?_ (fun _ _ z => z.elim) (fun _ z => z.elim) (fun _ z => z.elim))
  · walk_at "dv"
    refine ⟨fun h1 => ?_, fun h1 => wt_f (q_nx ⟨a, b, ha, hb, rfl⟩)⟩
    walk_at "dv"
    refine ⟨fun h2 => ?_, fun h2 => ?_⟩
    · have h2' := of_decide_eq_true h2
      rw [List.length_map] at h2'
      obtain ⟨j, rfl⟩ : ∃ j : Nat, a = j := ⟨a.toNat, by omega⟩
      have hal : j < ns.length := by omega
      walk_at "dv"
      refine op2_ixL (d := .int ns[j]) (by rw [atI_nat (by rw [List.length_map]; exact hal), List.getElem_map]) ?_
      walk_at "dv"
      refine q_augL rfl (we_int ⟨_, 1, .int j, rfl, rfl, rfl, rfl, we_int (op2_ip ⟨_, 1, rfl, rfl, ?_⟩)⟩)
      exact ⟨j + 1, ns[j], by omega, hns _ (List.getElem_mem hal), rfl⟩
    · walk_at "dv"
      exact ⟨a, b, ha, hb, rfl⟩
  · rintro _ ⟨a, b, ha, hb, rfl⟩
    walk_at "dv"
    refine ⟨fun h => ?_, fun h => ?_⟩
    · walk_at "dv"
      refine ⟨m + 1, _, rfl, ⟨ns, a, b / many, c, s, rfl, hns, ha, Int.ediv_nonneg hb (by omega), hc, by omega⟩, ?_⟩
      have h2 := Int.emod_nonneg b (show (many : Int) ≠ 0 by omega)
      have h3 := Int.emod_lt_of_pos b (show (0 : Int) < many by omega)
      have q1 := q (b % many).toNat (by omega)
      rw [Int.toNat_of_nonneg h2] at q1
      exact q1
    · walk_at "dv"
      refine q_augL rfl (we_int ⟨_, 3, .int c, rfl, rfl, rfl, rfl, we_int (op2_ip ⟨_, 3, rfl, rfl, ?_⟩)⟩)
      refine q_seq (q_set ?_)
      walk_at "dv"
      have h0 : 0 ≤ ((c + 1) * (c + 1) + s) * 48271 % 2147483629 := Int.emod_nonneg _ (by decide)
      have h1 : ((c + 1) * (c + 1) + s) * 48271 % 2147483629 < 2147483629 := Int.emod_lt_of_pos _ (by decide)
      generalize ((c + 1) * (c + 1) + s) * 48271 % 2147483629 = x at h0 h1 ⊢
      refine ⟨m + 1, _, rfl, ⟨ns, a, b, c + 1, s, rfl, hns, ha, hb, by omega, by omega⟩, ?_⟩
      have h2 := Int.emod_nonneg (x * x % 2147483587) (show (many : Int) ≠ 0 by omega)
      have h3 := Int.emod_lt_of_pos (x * x % 2147483587) (show (0 : Int) < many by omega)
      have q1 := q (x * x % 2147483587 % many).toNat (by omega)
      rw [Int.toNat_of_nonneg h2] at q1
      exact q1
def pre__law_pick (m : Nat) (ds : List PyData) (φ : Nat → PyData → Prop) : Prop := ∃ xs : List PyData, ds = [.list xs] ∧ 0 < xs.length ∧ xs.length < 2 ^ 29 ∧ m < 2 ^ 40 ∧ ∀ x ∈ xs, φ (m + 1) x
theorem len__law_pick : ∀ m ds φ, pre__law_pick m ds φ → ds.length = 1 := by rintro m _ φ ⟨b, rfl, _⟩; rfl
theorem ok__law_pick (T : Txt P K mg) : FnG P w K mg base CX0 2 T.a__law_pick T.d__law_pick ["purse", "things"] (SpZ PZ pre__law_pick) := by
  refine FnG.ok0 T.F__law_pick sc__law_pick (spz_len len__law_pick) (fun cdv A outer s H vs Q E hr hg h => ?_)
  refine ⟨_, (pss_one (ps_ret (pe_ix (k_ix (K := K) rfl) (pv 1) (pe_cg (ok__law_draw (P := P) (w := w) (base := base) T) (by exact hr.mono (by first | decide | omega)) (by exact hg) (by rfl) T.g__law_draw T.F__law_draw.kp (b__law_draw T.F__law_draw) .nil pass0 (pa_cons (pv 0) (pa_cons (pe_callB (k_len (K := K) rfl) (by rfl) T.z_len (by decide +kernel) (pa_cons (pv 1) pa_nil)) pa_nil))) (fun _ _ => rfl)))), fn_z (by decide) len__law_pick (fun F G0 p m ds φ hp => ?_) h⟩
  obtain ⟨xs, rfl, h0, h1, h2, q⟩ := hp
  walk_at "dv"
  refine ⟨xs.length, rfl, h0, h1, h2, fun r hr => ?_⟩
  refine op2_ixL (atI_nat hr) ?_
  exact ⟨_, rfl, q _ (List.getElem_mem hr)⟩
theorem flatS : ∀ cs : List Nat, (cs.map (tl ∘ fun c => (⟨#[c]⟩ : Str))).flatten = cs
  | [] => rfl
  | c :: cs => by rw [List.map_cons, List.flatten_cons, flatS cs]; rfl
def joinC (cs : List Nat) : Str := Txt.join (("" : String) : Str) (cs.map fun c => (⟨#[c]⟩ : Str))
theorem tl_joinC (cs : List Nat) : tl (joinC cs) = cs := by
  unfold joinC
  rw [tl_join0, List.map_map]
  exact flatS cs
theorem mkPic {zs : List Str} {wd : Nat} (h1 : zs.length ≤ 120) (h2 : wd ≤ 400) (h3 : ∀ z ∈ zs, z.length = wd ∧ ∀ c ∈ tl z, c = 46 ∨ c = 35) : Pic zs ∧ wideOf zs ≤ wd ∧ (0 < zs.length → wideOf zs = wd) := by
  have hw : 0 < zs.length → wideOf zs = wd := fun hn => by
    cases zs with
    | nil => cases hn
    | cons z r => exact (h3 z List.mem_cons_self).1
  have hle : wideOf zs ≤ wd := by
    rcases Nat.eq_zero_or_pos zs.length with h | h
    · rw [List.eq_nil_of_length_eq_zero h]
      exact Nat.zero_le _
    · rw [hw h]
      exact Nat.le_refl _
  refine ⟨⟨h1, by omega, fun z hz => ?_, fun z hz => (h3 z hz).2⟩, hle, hw⟩
  rw [hw (List.length_pos_of_mem hz)]
  exact (h3 z hz).1
theorem two_at (b : Bool) : atI (tl (Str.ofString ".#")) (if b = true then 1 else 0) = some (if b then 35 else 46) := by cases b <;> rfl
def pre__law_rows (m : Nat) (ds : List PyData) (φ : Nat → PyData → Prop) : Prop := ∃ wd high : Nat, ds = [.int wd, .int high, .bool false] ∧ wd ≤ 300 ∧ high ≤ 100 ∧ m + 40000 ≤ 2 ^ 40 ∧ ∀ (m' : Nat) (zs : List Str), m' ≤ m + 40000 → zs.length = high → Pic zs → wideOf zs ≤ wd → φ m' (.list (zs.map .str))
theorem len__law_rows : ∀ m ds φ, pre__law_rows m ds φ → ds.length = 3 := by rintro m _ φ ⟨b, h, rfl, _⟩; rfl
theorem ok__law_rows (T : Txt P K mg) : FnG P w K mg base CX0 3 T.a__law_rows T.d__law_rows ["purse", "wide", "high", "blots"] (SpZ PZ pre__law_rows) := by
  refine FnG.ok0 T.F__law_rows sc__law_rows (spz_len len__law_rows) (fun cdv A outer s H vs Q E hr hg h => ?_)
  refine ⟨_, (pss_cons (ps_asg (pe_tup (pa_cons (pe_cg (ok__law_pick (P := P) (w := w) (base := base) T) (by exact hr.mono (by first | decide | omega)) (by exact hg) (by rfl) T.g__law_pick T.F__law_pick.kp (b__law_pick T.F__law_pick) .nil pass0 (pa_cons (pv 0) (pa_cons (pe_lst (pa_cons pe_int (pa_cons pe_int (pa_cons pe_int (pa_cons pe_int pa_nil))))) pa_nil))) (pa_cons (pe_cmpR (k_eq (K := K) rfl (by exact hr.units)) (pe_cg (ok__law_draw (P := P) (w := w) (base := base) T) (by exact hr.mono (by first | decide | omega)) (by exact hg) (by rfl) T.g__law_draw T.F__law_draw.kp (b__law_draw T.F__law_draw) .nil pass0 (pa_cons (pv 0) (pa_cons pe_int pa_nil))) pe_int (nomark _)) pa_nil))) (k_tup (K := K) (n := 2) rfl rfl (pgs_cons (pg_name (i := 4) sc__law_rows.nd rfl (by first | exact Or.inl rfl | exact Or.inr rfl)) (pgs_cons (pg_name (i := 5) sc__law_rows.nd rfl (by first | exact Or.inl rfl | exact Or.inr rfl)) pgs_nil))))
      (pss_cons (ps_set (i := 6) sc__law_rows.nd rfl (by first | exact Or.inl rfl | exact Or.inr rfl) (pe_lst pa_nil))
      (pss_cons (ps_for PassesOwn.never rfl (pi_r1 rfl T.z_range (pa_cons (pv 2) pa_nil)) (pg_name (i := 7) sc__law_rows.nd rfl (by first | exact Or.inl rfl | exact Or.inr rfl)) (pss_cons (ps_setLc (i := 8) (own := [("k", 9)]) (by rfl) sc__law_rows.nd rfl rfl (sw_true rfl rfl rfl (by decide +kernel)) (pi_r1 rfl T.z_range (pa_cons (pv 1) pa_nil)) (blkOk_by (own := [("k", 9)]) (N := nm__law_rows) (by rfl)) (fun _ _ _ _ _ => (pg_name (i := 9) sc__law_rows.nd rfl (by first | exact Or.inl rfl | exact Or.inr rfl))) (fun _ _ _ _ _ => pts_nil) (fun _ _ _ _ _ => (pe_ix (k_ix (K := K) rfl) pe_str (pe_callTy call_int1' (by rfl) T.z_int (by decide +kernel) (pa_cons (pe_cmpR (k_ne (K := K) rfl (by exact hr.units)) (pe_cmpR (k_eq (K := K) rfl (by exact hr.units)) (pe_cg (ok__law_draw (P := P) (w := w) (base := base) T) (by exact hr.mono (by first | decide | omega)) (by exact hg) (by rfl) T.g__law_draw T.F__law_draw.kp (b__law_draw T.F__law_draw) .nil pass0 (pa_cons (pv 0) (pa_cons (pe_op (k_add (K := K) rfl) (pv 4) pe_int) pa_nil))) pe_int (nomark _)) (pv 5) (nomark _)) pa_nil)) (fun _ _ => rfl))))
      (pss_one (ps_expr (k_append (K := K) rfl (pv 6) (pa_cons (pe_m1 PySem.F.slot_str_join PySem.F.type_str_join (k_join (K := K) rfl) pe_str (pe_lc (own := [("sign", 10)]) rfl sc__law_rows.nd (k_plist (K := K) rfl (pv 8)) (blkOk_by (own := [("sign", 10)]) (N := nm__law_rows) (by rfl)) (fun _ _ _ _ _ => (pg_name (i := 10) sc__law_rows.nd rfl (by first | exact Or.inl rfl | exact Or.inr rfl))) (fun _ _ _ _ _ => pts_nil) (fun _ _ _ _ _ => (pe_ifExp (PW.pt (pw_and (k_tru (K := K) rfl (pv 3) (by intro _; rfl)) (pw_and1 (pt_cmpR (k_eq (K := K) rfl (by exact hr.units)) (pe_cg (ok__law_draw (P := P) (w := w) (base := base) T) (by exact hr.mono (by first | decide | omega)) (by exact hg) (by rfl) T.g__law_draw T.F__law_draw.kp (b__law_draw T.F__law_draw) .nil pass0 (pa_cons (pv 0) (pa_cons pe_int pa_nil))) pe_int (nomark _))))) pe_str (pv 10))))) pa_nil))))))
      (pss_one (ps_ret (pv 6)))))), fn_z (by decide) len__law_rows (fun F G0 p m ds φ hp => ?_) h⟩
  obtain ⟨wd, high, rfl, hw, hh, hm, q⟩ := hp
  refine q_seq (q_asg (js := [4, 5]) ?_)
  walk_at "dv"
  refine ⟨_, rfl, by simp, by simp, by omega, fun x hx => ?_⟩
  have hx' : ∃ sh : Nat, x = .int sh ∧ sh ≤ 5 := by
    simp only [List.mem_cons, List.not_mem_nil, or_false] at hx
    rcases hx with rfl | rfl | rfl | rfl
    · exact ⟨1, rfl, by omega⟩
    · exact ⟨1, rfl, by omega⟩
    · exact ⟨2, rfl, by omega⟩
    · exact ⟨5, rfl, by omega⟩
  obtain ⟨sh, rfl, hsh⟩ := hx'
  walk_at "dv"
  refine ⟨3, rfl, by decide, by decide, by omega, fun r1 hr1 => ?_⟩
  walk_at "dv"
  refine wg_tup rfl (wgs_cons (wg_name (wgs_cons (wg_name (wgs_nil ?_)))))
  refine q_seq (q_setN (wn_lst (wa_nil ⟨by simp, fun p2 => ?_⟩)))
  refine q_seq (q_for (js := [7]) (wi_r1 ?_))
  walk_at "dv"
  have e0 : (high : Int).toNat = high := by simp
  have e1 : (wd : Int).toNat = wd := by simp
  refine ⟨fun i ρ => ∃ (m' : Nat) (zs : List Str) (s7 s8 : Slot), m' ≤ m + 2 + i * 300 ∧ zs.length = i ∧ (∀ z ∈ zs, z.length = wd ∧ ∀ c ∈ tl z, c = 46 ∨ c = 35) ∧ ρ = [.res (lstP p (PZ m')), .val (.int wd), .val (.int high), .val (.bool false), .val (.int sh), .val (.bool ((r1 : Int) == 0)), .res (lst p2 (zs.map .str)), s7, s8, .any, .any], ⟨m + 1 + 1, [], _, _, by omega, rfl, (fun z hz => nomatch hz), rfl⟩, ?_, ?_⟩
  · rintro i d _ hd ⟨m', zs, s7, s8, hm', hz, hzs, rfl⟩
    obtain ⟨hi, rfl⟩ := inz_get hd
    rw [e0] at hi
    refine wg_name ?_
    refine q_seq (q_set (we_new (wn_lc (js := [9]) (by decide) (wi_r1 ?_))))
    walk_at "dv"
    refine ⟨by rw [inz_len]; omega, fun j acc ρ => ∃ (m2 : Nat) (cs : List Nat), m2 ≤ m' + j ∧ acc = cs.map sg ∧ cs.length = j ∧ (∀ c ∈ cs, c = 46 ∨ c = 35) ∧ ρ = [.res (lstP p (PZ m2)), .val (.int wd), .val (.int high), .val (.bool false), .val (.int sh), .val (.bool ((r1 : Int) == 0)), .res (lst p2 (zs.map .str)), .val (.int (0 + (i : Int))), s8, .any, .any], ⟨m', [], by omega, rfl, rfl, (fun z hz => nomatch hz), rfl⟩, ?_, ?_⟩
    · rintro j d acc _ hd hl ⟨m2, cs, g1, rfl, g2, g3, rfl⟩
      obtain ⟨hj, rfl⟩ := inz_get hd
      rw [e1] at hj
      refine wg_name ?_
      walk_at "dv"
      refine ⟨sh + 1, by rw [Int.natCast_add]; rfl, by omega, by omega, by omega, fun r hr => ?_⟩
      walk_at "dv"
      refine op2_ixS (by decide) (two_at _) ?_
      refine ⟨m2 + 1, cs ++ [_], by omega, by rw [List.map_append]; rfl, by simp [g2], fun c' hc' => ?_, rfl⟩
      rcases List.mem_append.mp hc' with h | h
      · exact g3 c' h
      · obtain rfl := List.mem_singleton.mp h
        split
        · exact .inr rfl
        · exact .inl rfl
    · rintro acc _ ⟨m2, cs, g1, rfl, g2, g3, rfl⟩
      rw [inz_len, e1] at g1 g2
      refine q_app rfl ?_
      walk_at "dv"
      refine we_new (wn_lcM (α := Nat) (js := [10]) (by decide) (wi_list ?_))
      walk_at "dv"
      refine ⟨cs, sg, rfl, by omega, rfl, fun c => .str ⟨#[c]⟩, fun c hc => ?_, ?_⟩
      · refine wg_name ⟨rfl, ?_⟩
        walk_at "dv"
        exact ⟨rfl, rfl⟩
      walk_at "dv"
      refine opm_joinM (f := fun c => (⟨#[c]⟩ : Str)) ?_ ?_
      · have e2 : (cs.map fun c => ((⟨#[c]⟩ : Str)).length).sum = cs.length := ones1 cs
        rw [e2]
        show _ + _ * 0 ≤ _
        omega
      refine ⟨_, rfl, by rw [List.length_map]; omega, m2, zs ++ [joinC cs], .val (.int (0 + (i : Int))), .val (.list (cs.map sg)), by omega, by simp [hz], fun z hz2 => ?_, by rw [List.map_append]; rfl⟩
      rcases List.mem_append.mp hz2 with h | h
      · exact hzs z h
      · obtain rfl := List.mem_singleton.mp h
        rw [len_tl, tl_joinC]
        exact ⟨g2, g3⟩
  · rintro _ ⟨m', zs, s7, s8, hm', hz, hzs, rfl⟩
    rw [inz_len, e0] at hm' hz
    obtain ⟨pz, hwz, _⟩ := mkPic (by omega) (by omega) hzs
    exact q_ret (we_varR rfl ⟨m', rfl, q m' zs (by omega) hz pz hwz⟩)
def pre__law_drawn (m : Nat) (ds : List PyData) (φ : Nat → PyData → Prop) : Prop := ∃ wd high : Nat, ds = [.int wd, .int high, .bool false] ∧ wd ≤ 200 ∧ high ≤ 99 ∧ m + 50000 ≤ 2 ^ 40 ∧ ∀ (m' : Nat) (zs : List Str), m' ≤ m + 50000 → zs.length ≤ high → Pic zs → wideOf zs ≤ wd + 6 → φ m' (.list (zs.map .str))
theorem len__law_drawn : ∀ m ds φ, pre__law_drawn m ds φ → ds.length = 3 := by rintro m _ φ ⟨b, h, rfl, _⟩; rfl
def sp__law_purse (K : PySem.W.Frag) : Sp := fun vs H Q _ => ∃ (a : Addr) (ns : List Int), vs = [.ref a] ∧ SqL K H a (ns.map V.int) ∧ ∀ (p : Addr) (G' H' : Hp), Same H G' → Same H H' → Same G' H' → (∀ b o, G' b = some o → H b ≠ none → H b = some o) → H p = none → G' p = none → (lstP p (PZ 0)).ok G' H' (.ref p) → Q (.ref p) H'
theorem len__law_purse : ∀ vs H Q E, sp__law_purse K vs H Q E → vs.length = 1 := by rintro _ H Q E ⟨a, ns, rfl, _⟩; rfl
theorem ok__law_purse (T : Txt P K mg) : FnG P w K mg base CX0 1 T.a__law_purse T.d__law_purse ["script"] (sp__law_purse K) := by
  refine FnG.ok0 T.F__law_purse sc__law_purse len__law_purse (fun cdv A outer s H vs Q E hr hg h => ?_)
  refine ⟨_, (pss_cons (ps_set (i := 1) sc__law_purse.nd rfl (by first | exact Or.inl rfl | exact Or.inr rfl) pe_int)
      (pss_cons (ps_for PassesOwn.never rfl (k_plist (K := K) rfl (pe_slice (k_sl (K := K) rfl) (pv 0) po_none (po_some pe_int))) (pg_name (i := 2) sc__law_purse.nd rfl (by first | exact Or.inl rfl | exact Or.inr rfl)) (pss_one (ps_set (i := 1) sc__law_purse.nd rfl (by first | exact Or.inl rfl | exact Or.inr rfl) (pe_op op_mod (pe_callTy call_int1' (by rfl) T.z_int (by decide +kernel) (pa_cons (pe_op (k_add (K := K) rfl) (pe_op op_mulU (pv 1) pe_int) (pv 2)) pa_nil)) pe_int))))
      (pss_one (ps_ret (pe_lst (pa_cons (pe_lc (own := [("cell", 2)]) rfl sc__law_purse.nd (k_plist (K := K) rfl (pe_slice (k_sl (K := K) rfl) (pv 0) po_none (po_some pe_int))) (blkOk_by (own := [("cell", 2)]) (N := nm__law_purse) (by rfl)) (fun _ _ _ _ _ => (pg_name (i := 2) sc__law_purse.nd rfl (by first | exact Or.inl rfl | exact Or.inr rfl))) (fun _ _ _ _ _ => (pts_one (pt_cmpR op_ge (pv 2) (pe_op op_powW pe_int pe_int) (nomark _)))) (fun _ _ _ _ _ => (pv 2))) (pa_cons pe_int (pa_cons pe_int (pa_cons pe_int (pa_cons (pv 1) pa_nil)))))))))), ?_⟩
  obtain ⟨a, ns, rfl, hS, q⟩ := h
  have st : Sta H H H H (L2.start nm__law_purse [V.ref a]) [.res (scr K a ns), .any, .any] := sta_scr (N := 2) (Same.refl H) hS
  let c63 := cutD ns none (some 63)
  have h1 : Ws H H (tSeq (tAsg (tC (.int 7)) (gName 1)) (tFor (iList K (tSl (rSlU K) (tVar 0) tNoPart (tPart (tC (V.int 63))))) (gName 2)
        (tAsg
          (tOp (rI (fun x j => 0 < j) fun i j => V.int (i % j))
            (tCB rInt1 (tCons (tOp (rAddU K) (tOp rMulU (tVar 1) (tC (V.int 31))) (tVar 2)) tNil))
            (tC (V.int 2147483647)))
          (gName 1)))) [.res (scr K a ns), .any, .any] ⟨fun ρ => ∃ (s : Int) (s2 : Slot), ρ = [.res (scr K a ns), .val (.int s), s2], fun _ _ => False, fun _ => False, fun _ => False⟩ := by
    walk_at "dv"
    refine q_for (js := [2]) (wi_list (we_new (wn_slScr (i := 0) rfl ?_)))
    walk_at "dv"
    refine ⟨fun i ρ => ∃ (s : Int) (s2 : Slot), ρ = [.res (scr K a ns), .val (.int s), s2], ⟨_, _, rfl⟩, ?_, ?_⟩
    · rintro i d _ hd ⟨s, s2, rfl⟩
      obtain ⟨c, hc, rfl⟩ := List.mem_map.mp (List.mem_of_getElem? hd)
      refine wg_name ?_
      walk_at "dv"
      exact ⟨_, _, rfl⟩
    · rintro _ ⟨s, s2, rfl⟩
      exact ⟨_, _, rfl⟩
  refine h1 H H _ st { nx := fun σ' H' => _, rt := Q, bk := _, ct := _ } (fun σ' ρ' G' H' s' g' p => ?_) (fun _ _ _ _ _ _ _ _ _ z => z.elim) (fun _ _ _ _ _ _ z => z.elim) (fun _ _ _ _ _ _ z => z.elim)
  obtain ⟨s0, s2, rfl⟩ := p
  dsimp only
  have s3 : Sta H H G' H' σ' [.res (scr K a ns), .val (.int s0), .any] := s'.forget 2
  refine (show Wn _ _ _ from wn_lst (Φ := fun ds _ => PZ 0 ds) ?_) H H G' H' σ' s3 _ (fun pp xs ds ρ2 G2 H2 st2 g2 hp rx hF hG hn hz => ?_)
  · walk_at "dv"
    refine we_new (wn_lcT (α := Int) (js := [2]) (by decide) (wi_list (we_new (wn_slScr (i := 0) rfl ?_))))
    walk_at "dv"
    have hl : (cutD ns none (some 63)).length ≤ 63 := by
      unfold cutD
      rw [HT.sIx_none, show (63 : Int) = ((63 : Nat) : Int) from rfl, HT.sIx_nat, List.length_take]
      omega
    refine ⟨cutD ns none (some 63), .int, rfl, by omega, rfl, fun n => decide ((10 : Int) ^ 18 ≤ n), .int, fun n hn => ?_, ?_⟩
    · refine wg_name ⟨rfl, ?_⟩
      walk_at "dv"
      refine op2_powW (n := 4) (by decide) (by decide) (by decide) ?_
      walk_at "dv"
      refine ⟨rfl, rfl, fun _ => ?_⟩
      walk_at "dv"
      exact ⟨rfl, rfl⟩
    walk_at "dv"
    refine ⟨_, 0, 0, 0, s0, rfl, fun n hn => ?_, by decide, by decide, by decide, by decide⟩
    have h := of_decide_eq_true (List.mem_filter.mp hn).2
    have h0 : (0 : Int) ≤ (10 : Int) ^ 18 := by decide
    omega
  · exact q pp G2 H2 (g'.trans g2) st2.fh st2.gh (fun b o e n => st2.new b o e n) hF hG ⟨rfl, xs, ds, hp, rx, hz⟩
def pre__law_wide (ds : List PyData) (φ : PyData → Prop) : Prop := ∃ (zs : List Str), ds = [.list (zs.map .str)] ∧ Blo zs ∧ φ (.int (wideOf zs))
theorem len__law_wide : ∀ ds φ, pre__law_wide ds φ → ds.length = 1 := by rintro _ φ ⟨z, rfl, _⟩; rfl
theorem ok__law_wide (T : Txt P K mg) : FnG P w K mg base CX0 1 T.a__law_wide T.d__law_wide ["picture"] (SpD pre__law_wide) := by
  refine FnG.ok0 T.F__law_wide sc__law_wide (sp_len len__law_wide) (fun cdv A outer s H vs Q E hr hg h => ?_)
  refine ⟨_, (pss_one (ps_ret (pe_ifExp (pt_cmpR (k_ne (K := K) rfl (by exact hr.units)) (pv 0) (pe_lst pa_nil) (nomark _)) (pe_callB (k_len (K := K) rfl) (by rfl) T.z_len (by decide +kernel) (pa_cons (pe_ix (k_ix (K := K) rfl) (pv 0) pe_int (fun _ _ => rfl)) pa_nil)) pe_int))), fn_pure (by decide) len__law_wide (fun F G0 ds φ hp => ?_) h⟩
  obtain ⟨zs, rfl, pz, q⟩ := hp
  walk_at "dv"
  refine (op2_neNil ((okd_strs pz.pln).okd (by decide)) ?_).op
  refine ⟨_, rfl, ?_⟩
  cases zs with
  | nil =>
    refine wt_f ?_
    walk_at "dv"
    exact q
  | cons z r =>
    refine wt_t ?_
    walk_at "dv"
    refine op2_ixL (d := .str z) atI_zero ?_
    walk_at "dv"
    refine (opc_lenS (by have := pz.wide; have e : wideOf (z :: r) = z.length := rfl; omega) ?_).op
    exact q
/-- the sign at a place, bare beyond the row -/
def signC (z : Str) (k : Nat) : Nat := ((tl z)[k]?).getD 46
theorem signC_in {z : Str} {k : Nat} (hk : k < (tl z).length) : signC z k = (tl z)[k] := by
  unfold signC
  rw [List.getElem?_eq_getElem hk]
  rfl
theorem signC_out {z : Str} {k : Nat} (hk : (tl z).length ≤ k) : signC z k = 46 := by
  unfold signC
  rw [List.getElem?_eq_none hk]
  rfl
theorem isAt_sign {z : Str} {k c : Nat} (hc : c ≠ 46) : isAt c z k = (signC z k == c) := by
  unfold isAt signC
  cases (tl z)[k]? with
  | none =>
    show false = ((46 : Nat) == c)
    rw [beq_eq_false_iff_ne.mpr fun e => hc e.symm]
  | some d => rfl
def pre__law_sign (ds : List PyData) (φ : PyData → Prop) : Prop := ∃ (zs : List Str) (k i : Nat), ds = [.list (zs.map .str), .int k, .int i] ∧ Blo zs ∧ φ (sg (signC (zs.getD i ⟨#[]⟩) k))
theorem len__law_sign : ∀ ds φ, pre__law_sign ds φ → ds.length = 3 := by rintro _ φ ⟨z, k, i, rfl, _⟩; rfl
theorem ok__law_sign (T : Txt P K mg) : FnG P w K mg base CX0 1 T.a__law_sign T.d__law_sign ["picture", "column", "row"] (SpD pre__law_sign) := by
  refine FnG.ok0 T.F__law_sign sc__law_sign (sp_len len__law_sign) (fun cdv A outer s H vs Q E hr hg h => ?_)
  refine ⟨_, (pss_cons (ps_if (PW.pt (pw_or (pt_cmpR op_lt (pv 2) pe_int (nomark _)) (pw_or (pt_cmpR op_ge (pv 2) (pe_callB (k_len (K := K) rfl) (by rfl) T.z_len (by decide +kernel) (pa_cons (pv 0) pa_nil)) (nomark _)) (pw_or (pt_cmpR op_lt (pv 1) pe_int (nomark _)) (pw_or1 (pt_cmpR op_ge (pv 1) (pe_callB (k_len (K := K) rfl) (by rfl) T.z_len (by decide +kernel) (pa_cons (pe_ix (k_ix (K := K) rfl) (pv 0) pe_int (fun _ _ => rfl)) pa_nil)) (nomark _))))))) (pss_one (ps_ret pe_str)) pss_nil)
      (pss_one (ps_ret (pe_ix (k_ix (K := K) rfl) (pe_ix (k_ix (K := K) rfl) (pv 0) (pv 2) (fun _ _ => rfl)) (pv 1) (fun _ _ => rfl))))), fn_pure (by decide) len__law_sign (fun F G0 ds φ hp => ?_) h⟩
  obtain ⟨zs, k, i, rfl, pz, q⟩ := hp
  walk_at "dv"
  refine ⟨fun h => ?_, fun h => ?_⟩
  · have h' := of_decide_eq_true h
    rw [List.length_map] at h'
    rw [List.getD_eq_getElem?_getD, List.getElem?_eq_none (by omega)] at q
    walk_at "dv"
    exact q
  have h' := of_decide_eq_false h
  rw [List.length_map] at h'
  have hi : i < zs.length := by omega
  have hzi : zs[i] ∈ zs := List.getElem_mem hi
  rw [List.getD_eq_getElem?_getD, List.getElem?_eq_getElem hi] at q
  have q : φ (sg (signC zs[i] k)) := q
  have hlz := pz.rows _ hzi
  have hll := len_tl zs[i]
  have hwd := pz.wide
  obtain ⟨z0, hz0⟩ : ∃ z0, zs.head? = some z0 := by
    cases zs with
    | nil => cases hi
    | cons z r => exact ⟨z, rfl⟩
  have hw0 : wideOf zs = z0.length := by
    unfold wideOf
    rw [hz0]
    rfl
  walk_at "dv"
  refine op2_ixL (d := .str z0) ?_ ?_
  · cases zs with
    | nil => cases hz0
    | cons z r =>
      cases hz0
      exact atI_zero
  walk_at "dv"
  refine (opc_lenS (by omega) ?_).op
  walk_at "dv"
  refine ⟨fun h2 => ?_, fun h2 => ?_⟩
  · have h2' := of_decide_eq_true h2
    walk_at "dv"
    rw [signC_out (by omega)] at q
    exact q
  · have h2' := of_decide_eq_false h2
    walk_at "dv"
    refine op2_ixL (d := .str zs[i]) (by rw [atI_nat (by rw [List.length_map]; exact hi), List.getElem_map]) ?_
    walk_at "dv"
    have hk : k < (tl zs[i]).length := by omega
    rw [signC_in hk] at q
    exact op2_ixS (by omega) (atI_nat hk) q
end

section
variable {P : Program} {w : World} {K : PySem.W.Frag} {mg : Str → Option Value} {base : Heap}
def Sgn (a : Nat) : Prop := a = 46 ∨ a = 35 ∨ a = 63
def dif (a b : Nat) : Bool := (a == 35 && b == 46) || (a == 46 && b == 35)
theorem sort_three {a b : Nat} (ha : Sgn a) (hb : Sgn b) {ys : List Str} (hp : ys.Perm [⟨#[a]⟩, ⟨#[b]⟩]) (hs : PyProof.Rows.sortedS ys = true) : PyData.eqv (.list (ys.map .str)) (.list [.str (Str.ofString "#"), .str (Str.ofString ".")]) = dif a b ∧ ∀ z ∈ ys, Pln z := by
  have hm : ∀ z ∈ ys, z = ⟨#[a]⟩ ∨ z = ⟨#[b]⟩ := fun z hz => by
    have := hp.mem_iff.mp hz
    simpa using this
  refine ⟨?_, fun z hz c hc => ?_⟩
  · have hl := hp.length_eq
    match ys, hl with
    | [u, v], _ =>
      have hu := hm u (by simp)
      have hv := hm v (by simp)
      rcases ha with rfl | rfl | rfl <;> rcases hb with rfl | rfl | rfl <;> rcases hu with rfl | rfl <;> rcases hv with rfl | rfl <;>
        first
        | decide +kernel
        | exact absurd hp (by decide +kernel)
        | exact absurd hs (by decide +kernel)
  · have k : ∀ a, Sgn a → ∀ c, c ∈ (⟨#[a]⟩ : Str).cps.toList → c < 128 := fun a ha c hc => by
      have : c = a := by simpa using hc
      rcases ha with rfl | rfl | rfl <;> omega
    rcases hm z hz with rfl | rfl
    · exact k a ha c hc
    · exact k b hb c hc
def zAt (zs : List Str) (i : Nat) : Str := zs.getD i ⟨#[]⟩
theorem zAt_mem {zs : List Str} {i : Nat} (h : i < zs.length) : zAt zs i ∈ zs := by
  unfold zAt
  rw [List.getD_eq_getElem?_getD, List.getElem?_eq_getElem h]
  exact List.getElem_mem h
theorem Blo.sgn {zs : List Str} (p : Blo zs) {i : Nat} (k : Nat) (hi : i < zs.length) : Sgn (signC (zAt zs i) k) := by
  by_cases hk : k < (tl (zAt zs i)).length
  · rw [signC_in hk]
    exact p.dots _ (zAt_mem hi) _ (List.getElem_mem hk)
  · rw [signC_out (by omega)]
    exact .inl rfl
theorem bitF_dif {z y : Str} {k : Nat} (hz : Sgn (signC z k)) (hy : Sgn (signC y k)) : bitF z y k = dif (signC z k) (signC y k) := by
  unfold bitF
  rw [isAt_sign (by decide), isAt_sign (by decide), isAt_sign (by decide), isAt_sign (by decide)]
  rcases hz with e | e | e <;> rcases hy with e2 | e2 | e2 <;> rw [e, e2] <;> rfl
def bitAt (zs ys : List Str) (k i : Nat) : Nat := (dif (signC (zAt zs i) k) (signC (zAt ys i) k)).toNat
def farN (zs ys : List Str) : Nat := ((List.range (max (wideOf zs) (wideOf ys))).map fun k => ((List.range zs.length).map fun i => bitAt zs ys k i).sum).sum
theorem sum_le {α : Type} (f : α → Nat) (b : Nat) : ∀ xs : List α, (∀ x ∈ xs, f x ≤ b) → (xs.map f).sum ≤ xs.length * b
  | [], _ => Nat.zero_le _
  | x :: xs, h => by
    have h1 := h x (by simp)
    have h2 := sum_le f b xs fun y hy => h y (by simp [hy])
    rw [List.map_cons, List.sum_cons, List.length_cons, Nat.add_mul]
    omega
def pre__law_far (ds : List PyData) (φ : PyData → Prop) : Prop := ∃ zs ys : List Str, ds = [.list (zs.map .str), .list (ys.map .str)] ∧ Blo zs ∧ Blo ys ∧ ys.length = zs.length ∧ ∀ es : List PyData, es.length = farN zs ys → (∀ e ∈ es, OkdN 1 e) → φ (.list es)
theorem len__law_far : ∀ ds φ, pre__law_far ds φ → ds.length = 2 := by rintro _ φ ⟨zs, ys, rfl, _⟩; rfl
theorem ok__law_far (T : Txt P K mg) : FnG P w K mg base CX0 2 T.a__law_far T.d__law_far ["one", "other"] (SpD pre__law_far) := by
  refine FnG.ok0 T.F__law_far sc__law_far (sp_len len__law_far) (fun cdv A outer s H vs Q E hr hg h => ?_)
  refine ⟨_, (pss_cons (ps_set (i := 2) sc__law_far.nd rfl (by first | exact Or.inl rfl | exact Or.inr rfl) (pe_callB (call_max2' rfl) (by rfl) T.z_max (by decide +kernel) (pa_cons (pe_cg (ok__law_wide (P := P) (w := w) (base := base) T) (by exact hr.mono (by first | decide | omega)) (by exact hg) (by rfl) T.g__law_wide T.F__law_wide.kp (b__law_wide T.F__law_wide) .nil pass0 (pa_cons (pv 0) pa_nil)) (pa_cons (pe_cg (ok__law_wide (P := P) (w := w) (base := base) T) (by exact hr.mono (by first | decide | omega)) (by exact hg) (by rfl) T.g__law_wide T.F__law_wide.kp (b__law_wide T.F__law_wide) .nil pass0 (pa_cons (pv 1) pa_nil)) pa_nil))))
      (pss_cons (ps_set (i := 3) sc__law_far.nd rfl (by first | exact Or.inl rfl | exact Or.inr rfl) (pe_lst pa_nil))
      (pss_cons (ps_for PassesOwn.never rfl (pi_r1 rfl T.z_range (pa_cons (pv 2) pa_nil)) (pg_name (i := 4) sc__law_far.nd rfl (by first | exact Or.inl rfl | exact Or.inr rfl)) (pss_one (ps_for PassesOwn.never rfl (pi_r1 rfl T.z_range (pa_cons (pe_callB (k_len (K := K) rfl) (by rfl) T.z_len (by decide +kernel) (pa_cons (pv 0) pa_nil)) pa_nil)) (pg_name (i := 5) sc__law_far.nd rfl (by first | exact Or.inl rfl | exact Or.inr rfl)) (pss_one (ps_if (pt_cmpR (k_eq (K := K) rfl (by exact hr.units)) (pe_callB (k_sortedS (K := K) rfl) (by rfl) T.z_sorted (by decide +kernel) (pa_cons (pe_lst (pa_cons (pe_cg (ok__law_sign (P := P) (w := w) (base := base) T) (by exact hr.mono (by first | decide | omega)) (by exact hg) (by rfl) T.g__law_sign T.F__law_sign.kp (b__law_sign T.F__law_sign) .nil pass0 (pa_cons (pv 0) (pa_cons (pv 4) (pa_cons (pv 5) pa_nil)))) (pa_cons (pe_cg (ok__law_sign (P := P) (w := w) (base := base) T) (by exact hr.mono (by first | decide | omega)) (by exact hg) (by rfl) T.g__law_sign T.F__law_sign.kp (b__law_sign T.F__law_sign) .nil pass0 (pa_cons (pv 1) (pa_cons (pv 4) (pa_cons (pv 5) pa_nil)))) pa_nil))) pa_nil)) (pe_lst (pa_cons pe_str (pa_cons pe_str pa_nil))) (nomark _)) (pss_one (ps_expr (k_append (K := K) rfl (pv 3) (pa_cons (pe_tup (pa_cons (pv 4) (pa_cons (pv 5) pa_nil))) pa_nil)))) pss_nil)))))
      (pss_one (ps_ret (pv 3)))))), fn_pure (by decide) len__law_far (fun F G0 ds φ hp => ?_) h⟩
  obtain ⟨zs, ys, rfl, pz, py, hyl, q⟩ := hp
  have hwz := pz.wide
  have hwy := py.wide
  have hhz := pz.high
  refine q_seq (q_set ?_)
  walk_at "dv"
  refine ⟨zs, rfl, pz, ?_⟩
  walk_at "dv"
  refine ⟨ys, rfl, py, ?_⟩
  refine wa_nil ((opc_max2 ?_).op)
  rw [show max (wideOf zs : Int) (wideOf ys : Int) = ((max (wideOf zs) (wideOf ys) : Nat) : Int) by omega]
  refine q_seq (q_setN (wn_lst (wa_nil ⟨by simp, fun p => ?_⟩)))
  generalize hW : max (wideOf zs) (wideOf ys) = W
  have hW2 : W ≤ 400 := by omega
  have e0 : (W : Int).toNat = W := by simp
  have e1 : (zs.length : Int).toNat = zs.length := by simp
  have hbit : ∀ k i : Nat, bitAt zs ys k i ≤ 1 := fun k i => by
    unfold bitAt
    cases dif (signC (zAt zs i) k) (signC (zAt ys i) k) <;> decide
  have hrow : ∀ (k n : Nat), ((List.range n).map fun i => bitAt zs ys k i).sum ≤ n := fun k n => by
    have := sum_le (fun i => bitAt zs ys k i) 1 (List.range n) fun i _ => hbit k i
    rw [List.length_range] at this
    omega
  refine q_seq (q_for (js := [4]) (wi_r1 ?_))
  walk_at "dv"
  refine ⟨fun k ρ => ∃ (es : List PyData) (s4 s5 : Slot), es.length = ((List.range k).map fun k => ((List.range zs.length).map fun i => bitAt zs ys k i).sum).sum ∧ (∀ e ∈ es, OkdN 1 e) ∧ ρ = [.val (.list (zs.map .str)), .val (.list (ys.map .str)), .val (.int W), .res (lst p es), s4, s5], ⟨[], _, _, rfl, (fun e he => nomatch he), rfl⟩, ?_, ?_⟩
  · rintro k d _ hd ⟨es, s4, s5, hes, hok, rfl⟩
    obtain ⟨hk, rfl⟩ := inz_get hd
    rw [e0] at hk
    have hel : es.length ≤ k * 120 := by
      rw [hes]
      have := sum_le (fun k => ((List.range zs.length).map fun i => bitAt zs ys k i).sum) 120 (List.range k) fun k _ => Nat.le_trans (hrow k _) hhz
      rw [List.length_range] at this
      exact this
    refine wg_name (q_for (js := [5]) (wi_r1 ?_))
    walk_at "dv"
    rw [List.length_map]
    refine ⟨fun i ρ => ∃ (fs : List PyData) (s5 : Slot), fs.length = es.length + ((List.range i).map fun i => bitAt zs ys k i).sum ∧ (∀ e ∈ fs, OkdN 1 e) ∧ ρ = [.val (.list (zs.map .str)), .val (.list (ys.map .str)), .val (.int W), .res (lst p fs), .val (.int (0 + (k : Int))), s5], ⟨es, _, rfl, hok, rfl⟩, ?_, ?_⟩
    · rintro i d _ hd ⟨fs, s5, hfs, hofs, rfl⟩
      obtain ⟨hi, rfl⟩ := inz_get hd
      rw [e1] at hi
      have hri := hrow k i
      refine wg_name ?_
      refine q_if (wt_test (we_op (we_new (wn_cb (wa_cons (we_new (wn_lst ?_)))))))
      walk_at "dv"
      refine ⟨zs, k, i, by rw [Int.zero_add, Int.zero_add], pz, ?_⟩
      walk_at "dv"
      refine ⟨ys, k, i, by rw [Int.zero_add, Int.zero_add], py, ?_⟩
      refine wa_nil ⟨by simp, wa_nil (opn_sortedS (ss := [⟨#[signC (zAt zs i) k]⟩, ⟨#[signC (zAt ys i) k]⟩]) (by simp) fun us hp hs => ?_)⟩
      obtain ⟨he, hpl⟩ := sort_three (pz.sgn k hi) (py.sgn k (by omega)) hp hs
      walk_at "dv"
      refine (op2_eqD ((okd_strs hpl).okd (by decide)) ((okd_strs (zs := [Str.ofString "#", Str.ofString "."]) (fun z hz => ?_)).okd (by decide)) ?_).op
      · simp only [List.mem_cons, List.not_mem_nil, or_false] at hz
        rcases hz with rfl | rfl
        · exact pln_lit (by decide +kernel)
        · exact pln_lit (by decide +kernel)
      have he2 : PyData.eqv (.list (us.map .str)) (.list ([Str.ofString "#", Str.ofString "."].map .str)) = dif (signC (zAt zs i) k) (signC (zAt ys i) k) := he
      rw [he2]
      have hsum : ((List.range (i + 1)).map fun i => bitAt zs ys k i).sum = ((List.range i).map fun i => bitAt zs ys k i).sum + bitAt zs ys k i := by
        rw [List.range_succ, List.map_append, List.sum_append]
        simp
      refine ⟨_, rfl, fun hb => ?_, fun hb => ?_⟩
      · have hb1 : bitAt zs ys k i = 1 := by
          unfold bitAt
          rw [hb]
          rfl
        refine q_app rfl ?_
        walk_at "dv"
        refine ⟨by omega, _, _, ?_, fun e he => ?_, rfl⟩
        · rw [List.length_append, hsum, hfs, hb1]
          simp
          omega
        · rcases List.mem_append.mp he with h | h
          · exact hofs e h
          · rw [List.mem_singleton.mp h]
            refine .tuple fun d hd => ?_
            simp only [List.mem_cons, List.not_mem_nil, or_false] at hd
            rcases hd with rfl | rfl <;> exact .int
      · have hb0 : bitAt zs ys k i = 0 := by
          unfold bitAt
          rw [hb]
          rfl
        walk_at "dv"
        exact ⟨fs, _, by rw [hfs, hsum, hb0]; rfl, hofs, rfl⟩
    · rintro _ ⟨fs, s5, hfs, hofs, rfl⟩
      rw [inz_len, e1] at hfs
      have hsum : ((List.range (k + 1)).map fun k => ((List.range zs.length).map fun i => bitAt zs ys k i).sum).sum = ((List.range k).map fun k => ((List.range zs.length).map fun i => bitAt zs ys k i).sum).sum + ((List.range zs.length).map fun i => bitAt zs ys k i).sum := by
        rw [List.range_succ, List.map_append, List.sum_append]
        simp
      exact ⟨fs, _, _, by rw [hfs, hsum, hes], hofs, rfl⟩
  · rintro _ ⟨es, s4, s5, hes, hok, rfl⟩
    rw [inz_len, e0] at hes
    refine q_ret (we_varR rfl (q es ?_ hok))
    unfold farN
    rw [hW]
    exact hes
def pre__law_spoilt_rows (m : Nat) (ds : List PyData) (φ : Nat → PyData → Prop) : Prop := ∃ (zs : List Str) (many : Nat) (bl : Bool), ds = [.list (zs.map .str), .int many, .bool bl] ∧ Blo zs ∧ many ≤ 100 ∧ m + 400 ≤ 2 ^ 40 ∧ ∀ (m' : Nat) (ys : List Str), m' ≤ m + 400 → ys.length = zs.length → Blo ys → (bl = false → Pic zs → Pic ys) → wideOf ys ≤ wideOf zs → φ m' (.list (ys.map .str))
theorem len__law_spoilt_rows : ∀ m ds φ, pre__law_spoilt_rows m ds φ → ds.length = 3 := by rintro m _ φ ⟨zs, n, bl, rfl, _⟩; rfl
/-- what may stand in a row: blots where they may -/
def Ok3 (bl : Bool) (zs : List Str) (c : Nat) : Prop := Sgn c ∧ (bl = false → Pic zs → c = 46 ∨ c = 35)
def gridOk (bl : Bool) (zs : List Str) (wd n : Nat) (css : List (List Nat)) : Prop := css.length = n ∧ ∀ cs ∈ css, cs.length = wd ∧ ∀ c ∈ cs, Ok3 bl zs c
theorem mkBlo {zs : List Str} {wd : Nat} (h1 : zs.length ≤ 120) (h2 : wd ≤ 400) (h3 : ∀ z ∈ zs, z.length = wd ∧ ∀ c ∈ tl z, Sgn c) : Blo zs ∧ wideOf zs ≤ wd ∧ (0 < zs.length → wideOf zs = wd) := by
  have hw : 0 < zs.length → wideOf zs = wd := fun hn => by
    cases zs with
    | nil => cases hn
    | cons z r => exact (h3 z List.mem_cons_self).1
  have hle : wideOf zs ≤ wd := by
    rcases Nat.eq_zero_or_pos zs.length with h | h
    · rw [List.eq_nil_of_length_eq_zero h]
      exact Nat.zero_le _
    · rw [hw h]
      exact Nat.le_refl _
  refine ⟨⟨h1, by omega, fun z hz => ?_, fun z hz => (h3 z hz).2⟩, hle, hw⟩
  rw [hw (List.length_pos_of_mem hz)]
  exact (h3 z hz).1
theorem ok__law_spoilt_rows (T : Txt P K mg) : FnG P w K mg base CX0 3 T.a__law_spoilt_rows T.d__law_spoilt_rows ["purse", "picture", "many", "blots"] (SpZ PZ pre__law_spoilt_rows) := by
  refine FnG.ok0 T.F__law_spoilt_rows sc__law_spoilt_rows (spz_len len__law_spoilt_rows) (fun cdv A outer s H vs Q E hr hg h => ?_)
  refine ⟨_, (pss_cons (ps_setLc (i := 4) (own := [("row", 6)]) (by rfl) sc__law_spoilt_rows.nd rfl rfl (sw_true rfl rfl rfl (by decide +kernel)) (k_plist (K := K) rfl (pv 1)) (blkOk_by (own := [("row", 6)]) (N := nm__law_spoilt_rows) (by rfl)) (fun _ _ _ _ _ => (pg_name (i := 6) sc__law_spoilt_rows.nd rfl (by first | exact Or.inl rfl | exact Or.inr rfl))) (fun _ _ _ _ _ => pts_nil) (fun _ _ _ _ _ => (pe_callTy (k_lstU (K := K) rfl rfl) (by rfl) T.z_list (by decide +kernel) (pa_cons (pv 6) pa_nil))))
      (pss_cons (ps_for PassesOwn.never rfl (pi_r1 rfl T.z_range (pa_cons (pe_ifExp (PW.pt (pw_and (pt_cmpR (k_ne (K := K) rfl (by exact hr.units)) (pv 4) (pe_lst pa_nil) (nomark _)) (pw_and1 (pt_cmpR (k_ne (K := K) rfl (by exact hr.units)) (pe_ix (k_ix (K := K) rfl) (pv 4) pe_int (fun _ _ => rfl)) (pe_lst pa_nil) (nomark _))))) (pv 2) pe_int) pa_nil)) (pg_name (i := 5) sc__law_spoilt_rows.nd rfl (by first | exact Or.inl rfl | exact Or.inr rfl)) (pss_cons (ps_set (i := 6) sc__law_spoilt_rows.nd rfl (by first | exact Or.inl rfl | exact Or.inr rfl) (pe_ix (k_ix (K := K) rfl) (pv 4) (pe_cg (ok__law_draw (P := P) (w := w) (base := base) T) (by exact hr.mono (by first | decide | omega)) (by exact hg) (by rfl) T.g__law_draw T.F__law_draw.kp (b__law_draw T.F__law_draw) .nil pass0 (pa_cons (pv 0) (pa_cons (pe_callB (k_len (K := K) rfl) (by rfl) T.z_len (by decide +kernel) (pa_cons (pv 4) pa_nil)) pa_nil))) (fun _ _ => rfl)))
      (pss_cons (ps_set (i := 7) sc__law_spoilt_rows.nd rfl (by first | exact Or.inl rfl | exact Or.inr rfl) (pe_cg (ok__law_draw (P := P) (w := w) (base := base) T) (by exact hr.mono (by first | decide | omega)) (by exact hg) (by rfl) T.g__law_draw T.F__law_draw.kp (b__law_draw T.F__law_draw) .nil pass0 (pa_cons (pv 0) (pa_cons (pe_callB (k_len (K := K) rfl) (by rfl) T.z_len (by decide +kernel) (pa_cons (pv 6) pa_nil)) pa_nil))))
      (pss_one (ps_asg (pe_cg (ok__law_pick (P := P) (w := w) (base := base) T) (by exact hr.mono (by first | decide | omega)) (by exact hg) (by rfl) T.g__law_pick T.F__law_pick.kp (b__law_pick T.F__law_pick) .nil pass0 (pa_cons (pv 0) (pa_cons (pe_slice (k_sl (K := K) rfl) (pe_lst (pa_cons (pe_dget (by have := hr.units; omega) (pe_disp (pps_cons pe_str pe_str (pps_cons pe_str pe_str (pps_cons pe_str pe_str pps_nil))) (by rfl) (by rfl) (fun z => by cases z) (by decide)) (pe_ix (k_ix (K := K) rfl) (pv 6) (pv 7) (fun _ _ => rfl)) (fun _ _ => rfl)) (pa_cons pe_str pa_nil))) po_none (po_some (pe_op (k_add (K := K) rfl) pe_int (pe_callTy call_int1' (by rfl) T.z_int (by decide +kernel) (pa_cons (pv 3) pa_nil))))) pa_nil))) (pg_sub (pv 6) (pv 7) set_list))))))
      (pss_one (ps_ret (pe_lc (own := [("row", 6)]) rfl sc__law_spoilt_rows.nd (k_plist (K := K) rfl (pv 4)) (blkOk_by (own := [("row", 6)]) (N := nm__law_spoilt_rows) (by rfl)) (fun _ _ _ _ _ => (pg_name (i := 6) sc__law_spoilt_rows.nd rfl (by first | exact Or.inl rfl | exact Or.inr rfl))) (fun _ _ _ _ _ => pts_nil) (fun _ _ _ _ _ => (pe_m1 PySem.F.slot_str_join PySem.F.type_str_join (k_join (K := K) rfl) pe_str (pv 6)))))))), fn_z (by decide) len__law_spoilt_rows (fun F G0 p m ds φ hp => ?_) h⟩
  obtain ⟨zs, many, bl, rfl, pz, hmany, hm, q⟩ := hp
  have hwd := pz.wide
  have hhi := pz.high
  refine q_seq (q_setNest (c := 1) (zs := zs) (by decide) rfl (by omega) (fun z hz => by have := pz.len z hz; omega) rfl (by simp [slotsZ, slots0]) (fun p2 qs hqs => ?_))
  refine q_seq (q_for (js := [5]) (wi_r1 (wa_cons (We.imp (Φ := fun d ρ' => ∃ j : Nat, d = .int j ∧ j ≤ many ∧ ρ' = [.res (lstP p (PZ m)), .val (.list (zs.map .str)), .val (.int many), .val (.bool bl), .res (nest p2 qs (zs.map signs)), .any, .any, .any] ∧ (0 < j → 0 < zs.length ∧ 0 < wideOf zs)) ?_ ?_))))
  · have hmt : (zs.map signs).map PyData.list = zs.map fun z => .list (signs z) := by rw [List.map_map]; rfl
    have okz : ∀ z ∈ zs, OkdN 1 (.list (signs z)) := fun z hz => by
      rw [signs_sg]
      refine .list fun d hd => ?_
      obtain ⟨c, hc, rfl⟩ := List.mem_map.mp hd
      refine .str fun c' hc' => ?_
      have : c' = c := by simpa using hc'
      rcases pz.dots z hz c hc with e | e | e <;> omega
    have okn : Okd (.list ((zs.map signs).map .list)) := by
      rw [hmt]
      exact (OkdN.list (n := 1) fun d hd => by
        obtain ⟨z, hz, rfl⟩ := List.mem_map.mp hd
        exact okz z hz).okd (by decide)
    refine we_if (wt_and (wt_test (we_opRN (i := 4) rfl ?_)))
    walk_at "dv"
    refine op2_neNil okn ?_
    refine ⟨_, rfl, ?_⟩
    cases hzs : zs with
    | nil =>
      refine ⟨fun h => absurd h (by simp), fun _ => ⟨fun z => (nomatch z), fun _ => ?_⟩⟩
      walk_at "dv"
      exact ⟨by omega, rfl, by omega⟩
    | cons z0 r0 =>
      rw [← hzs]
      refine ⟨fun _ => ?_, fun h => absurd h (by rw [hzs]; simp)⟩
      refine wt_test (we_opRNI (i := 4) (k := 0) rfl (by rw [hzs]; exact ixN_nat (r := 0) (by simp)) ?_)
      walk_at "dv"
      refine ⟨_, signs z0, rfl, by rw [hzs]; rfl, op2_neNil ((okz z0 (by rw [hzs]; exact List.mem_cons_self)).okd (by decide)) ?_⟩
      refine ⟨_, rfl, ?_⟩
      refine ⟨fun hne => ?_, fun hne => ?_⟩
      · walk_at "dv"
        refine ⟨by omega, rfl, fun _ => ⟨by rw [hzs]; simp, ?_⟩⟩
        have e : wideOf zs = z0.length := by rw [hzs]; rfl
        rw [e, len_tl]
        have hs : (signs z0).isEmpty = false := by simpa using hne
        rw [signs_sg] at hs
        cases ht : tl z0 with
        | nil => rw [ht] at hs; cases hs
        | cons a l => simp
      · walk_at "dv"
        exact ⟨by omega, rfl, by omega⟩
  · rintro d _ ⟨j, rfl, hj, rfl, hpos⟩
    have ej : (j : Int).toNat = j := by simp
    refine wa_nil ⟨j, rfl, fun i ρ => ∃ (m2 : Nat) (css : List (List Nat)) (s5 s6 s7 : Slot), m2 ≤ m + 3 * i ∧ gridOk bl zs (wideOf zs) zs.length css ∧ ρ = [.res (lstP p (PZ m2)), .val (.list (zs.map .str)), .val (.int many), .val (.bool bl), .res (nest p2 qs (css.map fun cs => cs.map sg)), s5, s6, s7], ⟨m, zs.map tl, .any, .any, .any, by omega, ⟨by simp, fun cs hcs => ?_⟩, by rw [List.map_map]; rfl⟩, ?_, ?_⟩
    · obtain ⟨z, hz, rfl⟩ := List.mem_map.mp hcs
      exact ⟨by rw [← len_tl]; exact pz.rows z hz, fun c hc => ⟨pz.dots z hz c hc, fun _ pp => pp.dots z hz c hc⟩⟩
    · rintro i d _ hd ⟨m2, css, s5, s6, s7, h1, ⟨h2, h3⟩, rfl⟩
      obtain ⟨hi, rfl⟩ := inz_get hd
      rw [ej] at hi
      obtain ⟨hp1, hp2⟩ := hpos (by omega)
      refine wg_name ?_
      refine q_seq (q_ptr (i := 4) rfl (we_callZ rfl (wa_cons (we_lenN rfl (wa_nil ⟨_, rfl, css.length, ?_, by omega, ?_, by omega, fun r hr => ?_⟩)))))
      · rw [List.length_map]
      · omega
      have hcr : css[r]? = some css[r] := List.getElem?_eq_getElem hr
      have hmem : css[r] ∈ css := List.getElem_mem hr
      obtain ⟨hw, hdots⟩ := h3 _ hmem
      refine ⟨_, r, r, rfl, rfl, ixN_nat (by rw [List.length_map]; exact hr), fun qq hqq => ?_⟩
      have hdr : (css.map fun cs => cs.map sg)[r]? = some (css[r].map sg) := by rw [List.getElem?_map, hcr]; rfl
      refine q_seq (q_set (we_callZ rfl (wa_cons (we_lenP (i := 4) rfl rfl hqq hdr (wa_nil ⟨_, rfl, css[r].length, ?_, by omega, ?_, by omega, fun l hl => ?_⟩)))))
      · rw [List.length_map]
      · omega
      refine q_setQ (i := 4) (k := r) (q := qq) (p := p2) (qs := qs) (We.imp (Φ := fun d ρ' => (∃ c' : Nat, d = sg c' ∧ Ok3 bl zs c') ∧ ρ' = [.res (lstP p (PZ (m2 + 1 + 1 + 1))), .val (.list (zs.map .str)), .val (.int many), .val (.bool bl), .res (nest p2 qs (css.map fun cs => cs.map sg)), .val (.int (0 + (i : Int))), .res (ptrR qq), .val (.int l)]) ?_ ?_)
      · have hl' : l < css[r].length := hl
        walk_at "dv"
        have hc0 := hdots _ (List.getElem_mem hl')
        refine we_dispS (kv := [(Str.ofString ".", Str.ofString "#"), (Str.ofString "#", Str.ofString "."), (Str.ofString "?", Str.ofString ".")]) (by decide +kernel) (by decide) ?_
        refine we_ixP (i := 4) (k := r) rfl (we_var rfl ⟨_, css[r].map sg, l, sg css[r][l], rfl, hqq, hdr, rfl, ?_, ?_⟩)
        · rw [atI_nat (by rw [List.length_map]; exact hl'), List.getElem_map]
        obtain ⟨c', hc', hlk⟩ : ∃ c' : Nat, (c' = 46 ∨ c' = 35) ∧ lookS [(Str.ofString ".", Str.ofString "#"), (Str.ofString "#", Str.ofString "."), (Str.ofString "?", Str.ofString ".")] (⟨#[css[r][l]]⟩ : Str) = some ⟨#[c']⟩ := by
          rcases hc0.1 with e | e | e <;> rw [e]
          · exact ⟨35, .inr rfl, by decide +kernel⟩
          · exact ⟨46, .inl rfl, by decide +kernel⟩
          · exact ⟨46, .inl rfl, by decide +kernel⟩
        have hok : Ok3 bl zs c' := ⟨hc'.elim .inl fun e => .inr (.inl e), fun _ _ => hc'⟩
        refine ⟨_, _, rfl, hlk, ?_⟩
        walk_at "dv"
        cases bl with
        | false =>
          rw [show ((1 : Int) + if false = true then 1 else 0) = 1 from rfl, cut1]
          refine ⟨_, rfl, by simp, by simp, by omega, fun x hx => ⟨⟨c', ?_, hok⟩, rfl⟩⟩
          simpa using hx
        | true =>
          rw [show cutD [PyData.str ⟨#[c']⟩, PyData.str (Str.ofString "?")] none (some ((1 : Int) + if true = true then 1 else 0)) = [sg c', sg 63] from rfl]
          refine ⟨_, rfl, by simp, by simp, by omega, fun x hx => ?_⟩
          simp only [List.mem_cons, List.not_mem_nil, or_false] at hx
          rcases hx with rfl | rfl
          · exact ⟨⟨c', rfl, hok⟩, rfl⟩
          · exact ⟨⟨63, rfl, .inr (.inr rfl), fun z => nomatch z⟩, rfl⟩
      · rintro d _ ⟨⟨c', rfl, hc'⟩, rfl⟩
        refine ⟨rfl, we_var rfl ⟨_, _, l, l, rfl, hqq, hdr, rfl, ixN_nat (by rw [List.length_map]; exact hl), ?_⟩⟩
        refine ⟨m2 + 1 + 1 + 1, css.set r (css[r].set l c'), .val (.int (0 + (i : Int))), .res (ptrR qq), .val (.int l), by omega, ⟨by rw [List.length_set]; exact h2, fun cs hcs => ?_⟩, ?_⟩
        · rcases List.mem_or_eq_of_mem_set hcs with h | rfl
          · exact h3 cs h
          · refine ⟨by rw [List.length_set]; exact hw, fun c hc => ?_⟩
            rcases List.mem_or_eq_of_mem_set hc with h | rfl
            · exact hdots c h
            · exact hc'
        · rw [List.map_set, List.map_set]
          rfl
    · rintro _ ⟨m2, css, s5, s6, s7, h1, ⟨h2, h3⟩, rfl⟩
      rw [inz_len, ej] at h1
      refine q_forget 6 (q_ret (we_new (wn_lcM (α := List Nat) (js := [6]) (by decide) (wi_list (we_varN (i := 4) rfl ?_)))))
      refine ⟨_, rfl, css, fun cs => .list (cs.map sg), by rw [List.map_map]; rfl, by omega, rfl, fun cs => .str (joinC cs), fun cs hcs => ?_, ?_⟩
      · obtain ⟨hc1, hc2⟩ := h3 cs hcs
        refine wg_name ⟨rfl, ?_⟩
        walk_at "dv"
        refine opm_joinM (f := fun c => (⟨#[c]⟩ : Str)) ?_ ⟨rfl, rfl⟩
        have e1 : (cs.map fun c => ((⟨#[c]⟩ : Str)).length).sum = cs.length := ones1 cs
        rw [e1]
        show _ + _ * 0 ≤ _
        omega
      · obtain ⟨p1, hw1, hw2⟩ := mkBlo (zs := css.map joinC) (wd := wideOf zs) (by rw [List.length_map]; omega) hwd (fun y hy => by
          obtain ⟨cs, hcs, rfl⟩ := List.mem_map.mp hy
          rw [len_tl, tl_joinC]
          exact ⟨(h3 cs hcs).1, fun c hc => ((h3 cs hcs).2 c hc).1⟩)
        have q1 := q m2 (css.map joinC) (by omega) (by rw [List.length_map]; exact h2) p1 (fun hb pp => ⟨p1.high, p1.wide, p1.rows, fun y hy c hc => by
          obtain ⟨cs, hcs, rfl⟩ := List.mem_map.mp hy
          rw [tl_joinC] at hc
          exact ((h3 cs hcs).2 c hc).2 hb pp⟩) hw1
        rw [List.map_map] at q1
        exact ⟨m2, rfl, q1⟩
end

section
variable {P : Program} {w : World} {K : PySem.W.Frag} {mg : Str → Option Value} {base : Heap}

/-! the grid of codes -/
def grid (n w : Nat) (f : Nat → Nat → Nat) : List (List Nat) := (List.range n).map fun i => (List.range w).map fun k => f k i
theorem grid_len (n w : Nat) (f : Nat → Nat → Nat) : (grid n w f).length = n := by
  unfold grid
  rw [List.length_map, List.length_range]
theorem grid_row {n w i : Nat} (f : Nat → Nat → Nat) (hi : i < n) : (grid n w f)[i]? = some ((List.range w).map fun k => f k i) := by
  unfold grid
  rw [List.getElem?_map, List.getElem?_range hi]
  rfl
theorem grid_congr {n w : Nat} {f g : Nat → Nat → Nat} (h : ∀ k i, k < w → i < n → f k i = g k i) : grid n w f = grid n w g := by
  unfold grid
  refine List.map_congr_left fun i hi => List.map_congr_left fun k hk => h k i (List.mem_range.mp hk) (List.mem_range.mp hi)
theorem grid_set {n w i k c : Nat} {f g : Nat → Nat → Nat} (hi : i < n) (h : ∀ k' i', g k' i' = if k' = k ∧ i' = i then c else f k' i') : (grid n w f).set i (((List.range w).map fun k => f k i).set k c) = grid n w g := by
  unfold grid
  apply List.ext_getElem
  · simp
  · intro j h1 h2
    have hj : j < n := by simpa using h2
    have er : (List.map (fun i => List.map (fun k => g k i) (List.range w)) (List.range n))[j] = List.map (fun k => g k j) (List.range w) := by rw [List.getElem_map, List.getElem_range]
    have ef : ∀ h, (List.map (fun i => List.map (fun k => f k i) (List.range w)) (List.range n))[j]'h = List.map (fun k => f k j) (List.range w) := fun h => by rw [List.getElem_map, List.getElem_range]
    rw [er, List.getElem_set]
    by_cases e : i = j
    · subst e
      rw [if_pos rfl]
      apply List.ext_getElem
      · simp
      · intro l h3 h4
        rw [List.getElem_set, List.getElem_map, List.getElem_map, List.getElem_range, h]
        by_cases e2 : k = l
        · subst e2
          rw [if_pos rfl, if_pos ⟨rfl, rfl⟩]
        · rw [if_neg e2, if_neg fun z => e2 z.1.symm]
    · rw [if_neg e, ef]
      refine List.map_congr_left fun l _ => ?_
      rw [h, if_neg fun z => e z.2.symm]
theorem nest_set {n w i k c : Nat} {f g : Nat → Nat → Nat} (hi : i < n) (h : ∀ k' i', g k' i' = if k' = k ∧ i' = i then c else f k' i') :
    ((grid n w f).map fun cs => cs.map sg).set i ((((List.range w).map fun k => f k i).map sg).set k (sg c)) = (grid n w g).map fun cs => cs.map sg := by
  have e1 : (((List.range w).map fun k => f k i).map sg).set k (sg c) = (fun cs : List Nat => cs.map sg) (((List.range w).map fun k => f k i).set k c) := List.map_set.symm
  rw [e1, ← List.map_set, grid_set hi h]
/-- the cells' codes: S1 blots, S2 the other's -/
def cellS (zs ys : List Str) (S1 S2 : List (Nat × Nat)) (k i : Nat) : Nat := if (k, i) ∈ S1 then 63 else if (k, i) ∈ S2 then signC (zAt ys i) k else signC (zAt zs i) k
def dotsOf (zs ys : List Str) (w : Nat) : List (Nat × Nat) := (List.range w).flatMap fun k => ((List.range zs.length).filter fun i => signC (zAt zs i) k != signC (zAt ys i) k).map fun i => (k, i)
def S1of (zs ys : List Str) (b : Nat) : List (Nat × Nat) := (dotsOf zs ys (max (wideOf zs) (wideOf ys))).take b
def Lof (zs ys : List Str) (b : Nat) : List (Nat × Nat) := (dotsOf zs ys (max (wideOf zs) (wideOf ys))).drop b
def S2of (zs ys : List Str) (b : Nat) : List (Nat × Nat) := (Lof zs ys b).take ((Lof zs ys b).length / 2)
def halfG (zs ys : List Str) (b : Nat) : List Str := (grid zs.length (max (wideOf zs) (wideOf ys)) (cellS zs ys (S1of zs ys b) (S2of zs ys b))).map joinC
def halfR (zs ys : List Str) (b : Nat) : List Str := cutR (halfG zs ys b)
theorem row_code {z : Str} {w : Nat} (h : z.length ≤ w) : tl z ++ List.replicate (w - z.length) 46 = (List.range w).map fun k => signC z k := by
  have hl := len_tl z
  apply List.ext_getElem
  · rw [List.length_append, List.length_replicate, List.length_map, List.length_range]
    omega
  · intro k h1 h2
    have hk : k < w := by simpa using h2
    rw [List.getElem_map, List.getElem_range]
    by_cases hc : k < (tl z).length
    · rw [signC_in hc, List.getElem_append_left hc]
    · rw [signC_out (by omega), List.getElem_append_right (by omega), List.getElem_replicate]
def pD (p : Nat × Nat) : PyData := .tuple [.int (p.1 : Int), .int (p.2 : Int)]
theorem mem_dots {zs ys : List Str} {w : Nat} {p : Nat × Nat} (h : p ∈ dotsOf zs ys w) : p.1 < w ∧ p.2 < zs.length ∧ signC (zAt zs p.2) p.1 ≠ signC (zAt ys p.2) p.1 := by
  unfold dotsOf at h
  obtain ⟨k, hk, h⟩ := List.mem_flatMap.mp h
  obtain ⟨i, hi, rfl⟩ := List.mem_map.mp h
  rw [List.mem_filter, List.mem_range] at hi
  exact ⟨List.mem_range.mp hk, hi.1, by simpa using hi.2⟩
theorem dots_len {zs ys : List Str} (pz : Pic zs) (py : Pic ys) (hl : ys.length = zs.length) : (dotsOf zs ys (max (wideOf zs) (wideOf ys))).length = farN zs ys := by
  unfold dotsOf farN
  rw [List.length_flatMap]
  congr 1
  refine List.map_congr_left fun k _ => ?_
  rw [List.length_map]
  have e : ∀ (p : Nat → Bool) (xs : List Nat), (xs.filter p).length = (xs.map fun i => (p i).toNat).sum := fun p xs => by
    induction xs with
    | nil => rfl
    | cons x xs ih =>
      rw [List.filter_cons, List.map_cons, List.sum_cons, ← ih]
      cases p x
      · simp
      · simp
        omega
  rw [e]
  congr 1
  refine List.map_congr_left fun i hi => ?_
  have hi := List.mem_range.mp hi
  have two : ∀ {zs : List Str}, Pic zs → ∀ i, i < zs.length → ∀ k, signC (zAt zs i) k = 46 ∨ signC (zAt zs i) k = 35 := fun {zs} p i hi k => by
    by_cases hk : k < (tl (zAt zs i)).length
    · rw [signC_in hk]
      exact p.dots _ (zAt_mem hi) _ (List.getElem_mem hk)
    · rw [signC_out (by omega)]
      exact .inl rfl
  unfold bitAt
  rcases two pz i hi k with e1 | e1 <;> rcases two py i (by omega) k with e2 | e2 <;> rw [e1, e2] <;> rfl
theorem cut_upto {α : Type} (ds : List α) (n : Nat) : cutD ds none (some (n : Int)) = ds.take n := by
  unfold cutD
  rw [HT.sIx_none, HT.sIx_nat, Nat.sub_zero, List.drop_zero]
  rcases Nat.le_total n ds.length with h | h
  · rw [show min n ds.length = n by omega]
  · rw [show min n ds.length = ds.length by omega, List.take_length, List.take_of_length_le h]
theorem cut_from {α : Type} (ds : List α) (n : Nat) : cutD ds (some (n : Int)) none = ds.drop n := by
  unfold cutD
  rw [HT.sIx_none, HT.sIx_nat]
  rcases Nat.lt_or_ge n ds.length with h | h
  · rw [show min n ds.length = n by omega]
    exact List.take_of_length_le (by simp)
  · rw [show min n ds.length = ds.length by omega, Nat.sub_self, List.drop_eq_nil_of_le h]
    rfl
theorem tl_ljust (t : Str) (n c : Nat) : tl (Txt.ljustF t (n : Int) c) = tl t ++ List.replicate (n - t.length) c := by
  unfold Txt.ljustF
  by_cases h : (n : Int) ≤ t.length
  · rw [if_pos h, show n - t.length = 0 by omega]
    simp
  · rw [if_neg h]
    show ((Array.replicate 0 c ++ t.cps ++ Array.replicate ((n : Int).toNat - t.length) c)).toList = _
    simp
theorem pad_ok {n : Nat} (h : n ≤ 1000) : PadOk (n : Int) = true := by
  unfold PadOk
  have e1 : fitsSsize (n : Int) = true := by
    unfold fitsSsize
    rw [decide_eq_false (by omega), decide_eq_false (by omega)]
    rfl
  rw [e1, tooLong_no (by omega)]
  rfl
theorem zs_range {α : Type} (g : Str → α) : ∀ zs : List Str, zs.map g = (List.range zs.length).map fun i => g (zAt zs i)
  | [] => rfl
  | z :: zs => by
    rw [List.map_cons, zs_range g zs, List.length_cons, List.range_succ_eq_map, List.map_cons, List.map_map]
    rfl
theorem flat_congr {α β : Type} {f g : α → List β} : ∀ {xs : List α}, (∀ x ∈ xs, f x = g x) → xs.flatMap f = xs.flatMap g
  | [], _ => rfl
  | x :: xs, h => by
    rw [List.flatMap_cons, List.flatMap_cons, h x (by simp), flat_congr fun y hy => h y (by simp [hy])]
theorem dots_nodup (zs ys : List Str) (w : Nat) : (dotsOf zs ys w).Nodup := by
  unfold dotsOf
  refine List.pairwise_flatMap.mpr ⟨fun k _ => ?_, ?_⟩
  · refine List.pairwise_map.mpr ((List.Pairwise.filter _ List.nodup_range).imp fun {a b} h e => h ?_)
    cases e
    rfl
  · refine List.nodup_range.imp fun {a b} h x hx y hy e => h ?_
    obtain ⟨i, _, rfl⟩ := List.mem_map.mp hx
    obtain ⟨j, _, rfl⟩ := List.mem_map.mp hy
    cases e
    rfl
theorem cell_one (zs ys : List Str) (S1 S2 : List (Nat × Nat)) (k i k' i' : Nat) : cellS zs ys (S1 ++ [(k, i)]) S2 k' i' = if k' = k ∧ i' = i then 63 else cellS zs ys S1 S2 k' i' := by
  unfold cellS
  by_cases h : k' = k ∧ i' = i
  · obtain ⟨rfl, rfl⟩ := h
    simp
  · rw [if_neg h]
    have e : ((k', i') ∈ S1 ++ [(k, i)]) = ((k', i') ∈ S1) := by
      simp
      intro a b
      exact absurd ⟨a, b⟩ h
    simp only [e]
theorem cell_two (zs ys : List Str) (S1 S2 : List (Nat × Nat)) (k i k' i' : Nat) (hn : (k, i) ∉ S1) : cellS zs ys S1 (S2 ++ [(k, i)]) k' i' = if k' = k ∧ i' = i then signC (zAt ys i) k else cellS zs ys S1 S2 k' i' := by
  unfold cellS
  by_cases h : k' = k ∧ i' = i
  · obtain ⟨rfl, rfl⟩ := h
    rw [if_neg hn, if_pos (show (k', i') ∈ S2 ++ [(k', i')] by simp), if_pos (show k' = k' ∧ i' = i' from ⟨rfl, rfl⟩)]
  · rw [if_neg h]
    have e : ((k', i') ∈ S2 ++ [(k, i)]) = ((k', i') ∈ S2) := by
      simp
      intro a b
      exact absurd ⟨a, b⟩ h
    simp only [e]
theorem sg_ne (a b : Nat) : (!((⟨#[a]⟩ : Str) == ⟨#[b]⟩)) = (a != b) := by rw [sg_eq]; rfl
theorem grid_cell {n w i : Nat} (f : Nat → Nat → Nat) (hi : i < n) : ((grid n w f).map fun cs => cs.map sg)[i]? = some (((List.range w).map fun k => f k i).map sg) := by
  rw [List.getElem?_map, grid_row f hi]
  rfl
theorem row_at {w k : Nat} (f : Nat → Nat) (hk : k < w) : atI (((List.range w).map f).map sg) (k : Int) = some (sg (f k)) := by
  refine (Dv.atI_nat (by simp; exact hk)).trans ?_
  rw [List.getElem_map, List.getElem_map, List.getElem_range]
theorem map_at {ys : List Str} {i : Nat} (g : Str → PyData) (hi : i < ys.length) : atI (ys.map g) (i : Int) = some (g (zAt ys i)) := by
  refine (Dv.atI_nat (by rw [List.length_map]; exact hi)).trans ?_
  rw [List.getElem_map]
  unfold zAt
  rw [List.getD_eq_getElem?_getD, List.getElem?_eq_getElem hi]
  rfl
theorem cell_sgn {zs ys : List Str} (pz : Blo zs) (py : Blo ys) (hl : ys.length = zs.length) (S1 S2 : List (Nat × Nat)) (k : Nat) {i : Nat} (hi : i < zs.length) : Sgn (cellS zs ys S1 S2 k i) := by
  unfold cellS
  split
  · exact .inr (.inr rfl)
  · split
    · exact py.sgn k (by omega)
    · exact pz.sgn k hi
theorem blo_grid {zs ys : List Str} {W : Nat} (h1 : zs.length ≤ 120) (h2 : W ≤ 400) (pz : Blo zs) (py : Blo ys) (hl : ys.length = zs.length) (S1 S2 : List (Nat × Nat)) : Blo ((grid zs.length W (cellS zs ys S1 S2)).map joinC) ∧ ∀ z ∈ (grid zs.length W (cellS zs ys S1 S2)).map joinC, z.length = W := by
  have hall : ∀ z ∈ (grid zs.length W (cellS zs ys S1 S2)).map joinC, z.length = W ∧ ∀ c ∈ tl z, Sgn c := fun z hz => by
    obtain ⟨cs, hcs, rfl⟩ := List.mem_map.mp hz
    unfold grid at hcs
    obtain ⟨i, hi, rfl⟩ := List.mem_map.mp hcs
    rw [len_tl, tl_joinC]
    refine ⟨by rw [List.length_map, List.length_range], fun c hc => ?_⟩
    obtain ⟨k, _, rfl⟩ := List.mem_map.mp hc
    exact cell_sgn pz py hl S1 S2 k (List.mem_range.mp hi)
  exact ⟨(mkBlo (by rw [List.length_map, grid_len]; exact h1) h2 hall).1, fun z hz => (hall z hz).1⟩
def pre_halved (ds : List PyData) (φ : PyData → Prop) : Prop := ∃ (zs ys : List Str) (s b : Nat), ds = [.list (zs.map .str), .list (ys.map .str), .int s, .int b] ∧ Pic zs ∧ Pic ys ∧ ys.length = zs.length ∧
  (2 * s + b < farN zs ys → φ .none) ∧ (farN zs ys ≤ 2 * s + b → φ (.list ((halfR zs ys b).map .str)))
theorem len_halved : ∀ ds φ, pre_halved ds φ → ds.length = 4 := by rintro _ φ ⟨zs, ys, s, b, rfl, _⟩; rfl
theorem ok_halved (T : Txt P K mg) : FnG P w K mg base CX0 2 T.a_halved T.d_halved ["one", "other", "spoilt", "blots"] (SpO pre_halved) := by
  refine FnG.ok0 T.F_halved sc_halved (spo_len len_halved) (fun cdv A outer s H vs Q E hr hg h => ?_)
  refine ⟨_, (pss_cons (ps_set (i := 4) sc_halved.nd rfl (by first | exact Or.inl rfl | exact Or.inr rfl) (pe_callB (call_max2' rfl) (by rfl) T.z_max (by decide +kernel) (pa_cons (pe_cg (ok_wide_of (P := P) (w := w) (base := base) T) (by exact hr.mono (by first | decide | omega)) (by exact hg) (by rfl) T.g_wide_of T.F_wide_of.kp (b_wide_of T.F_wide_of) .nil pass0 (pa_cons (pv 0) pa_nil)) (pa_cons (pe_cg (ok_wide_of (P := P) (w := w) (base := base) T) (by exact hr.mono (by first | decide | omega)) (by exact hg) (by rfl) T.g_wide_of T.F_wide_of.kp (b_wide_of T.F_wide_of) .nil pass0 (pa_cons (pv 1) pa_nil)) pa_nil))))
      (pss_cons (ps_set (i := 5) sc_halved.nd rfl (by first | exact Or.inl rfl | exact Or.inr rfl) (pe_lc (own := [("row", 12)]) rfl sc_halved.nd (k_plist (K := K) rfl (pv 0)) (blkOk_by (own := [("row", 12)]) (N := nm_halved) (by rfl)) (fun _ _ _ _ _ => (pg_name (i := 12) sc_halved.nd rfl (by first | exact Or.inl rfl | exact Or.inr rfl))) (fun _ _ _ _ _ => pts_nil) (fun _ _ _ _ _ => (pe_callTy (k_lstU (K := K) rfl rfl) (by rfl) T.z_list (by decide +kernel) (pa_cons (k_ljust (K := K) rfl (pv 12) (pa_cons (pv 4) (pa_cons pe_str pa_nil))) pa_nil)))))
      (pss_cons (ps_set (i := 6) sc_halved.nd rfl (by first | exact Or.inl rfl | exact Or.inr rfl) (pe_lc (own := [("row", 12)]) rfl sc_halved.nd (k_plist (K := K) rfl (pv 1)) (blkOk_by (own := [("row", 12)]) (N := nm_halved) (by rfl)) (fun _ _ _ _ _ => (pg_name (i := 12) sc_halved.nd rfl (by first | exact Or.inl rfl | exact Or.inr rfl))) (fun _ _ _ _ _ => pts_nil) (fun _ _ _ _ _ => (k_ljust (K := K) rfl (pv 12) (pa_cons (pv 4) (pa_cons pe_str pa_nil))))))
      (pss_cons (ps_setLc2 (i := 7) (own := [("k", 10), ("i", 11)]) (vs1 := [11]) (by rfl) sc_halved.nd rfl rfl (sw_true rfl rfl rfl (by decide +kernel)) (pi_r1 rfl T.z_range (pa_cons (pv 4) pa_nil)) (blkOk_by (own := [("k", 10), ("i", 11)]) (N := nm_halved) (by rfl)) (by decide) (fun _ _ _ _ _ => (pg_name (i := 10) sc_halved.nd rfl (by first | exact Or.inl rfl | exact Or.inr rfl))) (fun _ _ _ _ _ => pts_nil) (fun _ _ _ _ _ => (pi_r1 rfl T.z_range (pa_cons (pe_callB (k_len (K := K) rfl) (by rfl) T.z_len (by decide +kernel) (pa_cons (pv 5) pa_nil)) pa_nil))) (fun _ _ _ _ _ => (pg_name (i := 11) sc_halved.nd rfl (by first | exact Or.inl rfl | exact Or.inr rfl))) (fun _ _ _ _ _ => (pts_one (pt_cmpR (k_ne (K := K) rfl (by exact hr.units)) (pe_ix (k_ix (K := K) rfl) (pe_ix (k_ix (K := K) rfl) (pv 5) (pv 11) (fun _ _ => rfl)) (pv 10) (fun _ _ => rfl)) (pe_ix (k_ix (K := K) rfl) (pe_ix (k_ix (K := K) rfl) (pv 6) (pv 11) (fun _ _ => rfl)) (pv 10) (fun _ _ => rfl)) (nomark _)))) (fun _ _ _ _ _ => (pe_tup (pa_cons (pv 10) (pa_cons (pv 11) pa_nil)))))
      (pss_cons (ps_if (pt_cmpR op_gt (pe_callB (k_len (K := K) rfl) (by rfl) T.z_len (by decide +kernel) (pa_cons (pv 7) pa_nil)) (pe_op (k_add (K := K) rfl) (pe_op op_mulU pe_int (pv 2)) (pv 3)) (nomark _)) (pss_one (ps_ret pe_non)) pss_nil)
      (pss_cons (ps_par (i := 8) (j := 9) rfl sc_halved.nd rfl rfl (by decide) rfl rfl (pa_cons (pe_slice (k_sl (K := K) rfl) (pv 7) po_none (po_some (pv 3))) (pa_cons (pe_slice (k_sl (K := K) rfl) (pv 7) (po_some (pv 3)) po_none) pa_nil)) (by rfl))
      (pss_cons (ps_for PassesOwn.never rfl (k_plist (K := K) rfl (pv 8)) (k_tup (K := K) (n := 2) rfl rfl (pgs_cons (pg_name (i := 10) sc_halved.nd rfl (by first | exact Or.inl rfl | exact Or.inr rfl)) (pgs_cons (pg_name (i := 11) sc_halved.nd rfl (by first | exact Or.inl rfl | exact Or.inr rfl)) pgs_nil))) (pss_one (ps_asg pe_str (pg_sub (pe_ix (k_ix (K := K) rfl) (pv 5) (pv 11) (fun _ _ => rfl)) (pv 10) set_list))))
      (pss_cons (ps_for PassesOwn.never rfl (k_plist (K := K) rfl (pe_slice (k_sl (K := K) rfl) (pv 9) po_none (po_some (pe_op op_fdiv (pe_callB (k_len (K := K) rfl) (by rfl) T.z_len (by decide +kernel) (pa_cons (pv 9) pa_nil)) pe_int)))) (k_tup (K := K) (n := 2) rfl rfl (pgs_cons (pg_name (i := 10) sc_halved.nd rfl (by first | exact Or.inl rfl | exact Or.inr rfl)) (pgs_cons (pg_name (i := 11) sc_halved.nd rfl (by first | exact Or.inl rfl | exact Or.inr rfl)) pgs_nil))) (pss_one (ps_asg (pe_ix (k_ix (K := K) rfl) (pe_ix (k_ix (K := K) rfl) (pv 6) (pv 11) (fun _ _ => rfl)) (pv 10) (fun _ _ => rfl)) (pg_sub (pe_ix (k_ix (K := K) rfl) (pv 5) (pv 11) (fun _ _ => rfl)) (pv 10) set_list))))
      (pss_one (ps_ret (pe_cg (ok_cut_right (P := P) (w := w) (base := base) T) (by exact hr.mono (by first | decide | omega)) (by exact hg) (by rfl) T.g_cut_right T.F_cut_right.kp (b_cut_right T.F_cut_right) .nil pass0 (pa_cons (pe_lc (own := [("row", 12)]) rfl sc_halved.nd (k_plist (K := K) rfl (pv 5)) (blkOk_by (own := [("row", 12)]) (N := nm_halved) (by rfl)) (fun _ _ _ _ _ => (pg_name (i := 12) sc_halved.nd rfl (by first | exact Or.inl rfl | exact Or.inr rfl))) (fun _ _ _ _ _ => pts_nil) (fun _ _ _ _ _ => (pe_m1 PySem.F.slot_str_join PySem.F.type_str_join (k_join (K := K) rfl) pe_str (pv 12)))) pa_nil)))))))))))), fn_own (by decide) len_halved (fun F G0 ds φ hp => ?_) h⟩
  obtain ⟨zs, ys, s, b, rfl, pz, py, hl, q1, q2⟩ := hp
  have hhz := pz.high
  have hwz := pz.wide
  have hwy := py.wide
  have hD := dots_len pz py hl
  refine o_seq (q_set ?_)
  walk_at "dv"
  refine ⟨zs, rfl, pz.blo, ?_⟩
  walk_at "dv"
  refine ⟨ys, rfl, py.blo, ?_⟩
  refine wa_nil ((opc_max2 ?_).op)
  rw [show max (wideOf zs : Int) (wideOf ys : Int) = ((max (wideOf zs) (wideOf ys) : Nat) : Int) by omega]
  have hR : halfR zs ys b = cutR ((grid zs.length (max (wideOf zs) (wideOf ys)) (cellS zs ys (S1of zs ys b) (S2of zs ys b))).map joinC) := rfl
  have hW1 : wideOf zs ≤ max (wideOf zs) (wideOf ys) := by omega
  have hW2 : wideOf ys ≤ max (wideOf zs) (wideOf ys) := by omega
  unfold S1of S2of Lof at hR
  generalize hW : max (wideOf zs) (wideOf ys) = W at hR hD hW1 hW2 ⊢
  have hW400 : W ≤ 400 := by omega
  generalize hDD : dotsOf zs ys W = D at hR hD
  refine o_seq (q_setNO (wr_lc (js := [12]) (by decide) (wi_list ?_)))
  walk_at "dv"
  have lw : ∀ {z : Str}, z.length ≤ W → tl (Txt.ljustF z (W : Int) ((Str.ofString "." : Str).cps.getD 0 0)) = (List.range W).map fun k => signC z k := fun {z} h => (tl_ljust z W 46).trans (row_code h)
  refine ⟨by rw [List.length_map]; omega, rfl, fun d => .list (((List.range W).map fun k => signC (strOf d) k).map sg), fun d hd => ?_, ?_⟩
  · obtain ⟨z, hz, rfl⟩ := List.mem_map.mp hd
    have hzl := pz.rows z hz
    refine wg_name ⟨rfl, wr_new (wn_cb (wa_cons (we_ljust ?_)))⟩
    walk_at "dv"
    refine ⟨_, _, rfl, pad_ok (by omega), rfl, wa_nil (opn_lstS ?_ ?_)⟩
    · rw [len_tl, lw (by omega), List.length_map, List.length_range]
      omega
    · rw [signs_sg, lw (by omega)]
      refine ⟨?_, rfl, rfl⟩
      rw [nlA_all, List.all_map]
      exact List.all_eq_true.mpr fun c _ => rfl
  have ed : (zs.map PyData.str).map (fun d => PyData.list (((List.range W).map fun k => signC (strOf d) k).map sg)) = ((grid zs.length W (cellS zs ys [] [])).map fun cs => cs.map sg).map .list := by
    unfold grid
    rw [List.map_map, List.map_map, List.map_map]
    refine (zs_range _ zs).trans (List.map_congr_left fun i _ => ?_)
    rfl
  refine ⟨_, congrArg PyData.list ed, fun ds hds d hd => ?_, fun p qs hqs => ?_⟩
  · obtain ⟨cs, _, rfl⟩ := List.mem_map.mp hds
    obtain ⟨c, _, rfl⟩ := List.mem_map.mp hd
    rfl
  refine o_seq (q_set (we_new (wn_lcM (α := Str) (js := [12]) (by decide) (wi_list ?_))))
  walk_at "dv"
  refine ⟨ys, .str, rfl, by omega, rfl, fun y => .str (Txt.ljustF y (W : Int) ((Str.ofString "." : Str).cps.getD 0 0)), fun y hy => ?_, ?_⟩
  · refine wg_name ⟨rfl, we_ljust ?_⟩
    walk_at "dv"
    exact ⟨_, _, rfl, pad_ok (by omega), rfl, rfl, rfl⟩
  refine o_seq (q_set (we_new (wn_lc2 (α := Nat) (β := Nat) (js := [10]) (js1 := [11]) (by decide) (by decide) (by decide) (wi_r1 ?_))))
  walk_at "dv"
  refine ⟨List.range W, fun (k : Nat) => .int (0 + (k : Int)), zs.length, fun _ => List.range zs.length, fun _ (i : Nat) => .int (0 + (i : Int)), fun k i => signC (zAt zs i) k != signC (zAt ys i) k, fun k i => pD (k, i), by simp [inz], ?_, fun _ _ => by simp, rfl, fun k hk => ?_, ?_⟩
  · rw [List.length_range]
    have : W * zs.length ≤ 400 * 120 := Nat.mul_le_mul hW400 hhz
    omega
  · have hk' := List.mem_range.mp hk
    refine wg_name ⟨rfl, wi_r1 (wa_cons (we_lenN rfl (wa_nil ⟨_, rfl, rfl, ?_, fun i hi => ?_⟩)))⟩
    · simp [inz, grid_len]
    · have hi' := List.mem_range.mp hi
      refine wg_name ⟨rfl, wt_test (we_op (we_ixNN (k := i) (ds := ((List.range W).map fun k => cellS zs ys [] [] k i).map sg) (d := sg (cellS zs ys [] [] k i)) rfl rfl rfl ?_ ?_ ?_ ?_))⟩
      · rw [Int.zero_add, List.length_map, grid_len]
        exact ixN_nat hi'
      · exact grid_cell _ hi'
      · rw [Int.zero_add]
        exact row_at _ hk'
      walk_at "dv"
      refine op2_ixL (d := .str (Txt.ljustF (zAt ys i) (W : Int) ((Str.ofString "." : Str).cps.getD 0 0))) (by rw [Int.zero_add]; exact map_at _ (by omega)) ?_
      walk_at "dv"
      have hyi : zAt ys i ∈ ys := zAt_mem (by omega)
      have hyl := py.rows _ hyi
      refine op2_ixS (c := signC (zAt ys i) k) ?_ ?_ ?_
      · rw [len_tl, lw (by omega), List.length_map, List.length_range]
        omega
      · show atI (tl _) _ = _
        rw [lw (by omega), Int.zero_add]
        refine (Dv.atI_nat (by simp; exact hk')).trans ?_
        rw [List.getElem_map, List.getElem_range]
      walk_at "dv"
      refine ⟨rfl, ?_, fun _ => ?_⟩
      · have e0 : cellS zs ys [] [] k i = signC (zAt zs i) k := by simp [cellS]
        rw [e0, sg_ne]
      · walk_at "dv"
        refine ⟨rfl, ?_⟩
        rw [Int.zero_add, Int.zero_add]
        rfl
  have eD : ((List.range W).flatMap fun k => ((List.range zs.length).filter fun i => signC (zAt zs i) k != signC (zAt ys i) k).map fun i => pD (k, i)) = D.map pD := by
    rw [← hDD]
    unfold dotsOf
    rw [List.map_flatMap]
    refine flat_congr fun k _ => ?_
    rw [List.map_map]
    rfl
  have hmem : ∀ q ∈ D, q.1 < W ∧ q.2 < zs.length := fun q hq => by
    rw [← hDD] at hq
    exact ⟨(mem_dots hq).1, (mem_dots hq).2.1⟩
  have hnd : D.Nodup := by
    rw [← hDD]
    exact dots_nodup zs ys W
  have hDl : D.length ≤ 48000 := by
    have h1 : farN zs ys ≤ W * 120 := by
      unfold farN
      rw [hW]
      have h2 : ∀ k : Nat, ((List.range zs.length).map fun i => bitAt zs ys k i).sum ≤ 120 := fun k => by
        have := sum_le (fun i => bitAt zs ys k i) 1 (List.range zs.length) fun i _ => by
          unfold bitAt
          cases dif (signC (zAt zs i) k) (signC (zAt ys i) k) <;> decide
        rw [List.length_range] at this
        omega
      have := sum_le (fun k => ((List.range zs.length).map fun i => bitAt zs ys k i).sum) 120 (List.range W) fun k _ => h2 k
      rw [List.length_range] at this
      exact this
    omega
  rw [show List.flatMap (fun a => List.map ((fun k i => pD (k, i)) a) (List.filter ((fun k i => signC (zAt zs i) k != signC (zAt ys i) k) a) ((fun x => List.range zs.length) a))) (List.range W) = D.map pD from eD]
  refine o_seq (q_if (wt_test ?_))
  walk_at "dv"
  rw [List.length_map]
  refine ⟨fun h => ?_, fun h => ?_⟩
  · have h' := of_decide_eq_true h
    exact q_ret (we_non ⟨rfl, q1 (by omega)⟩)
  have h' := of_decide_eq_false h
  have q := q2 (by omega)
  refine q_nx (o_seq (q_par ?_))
  walk_at "dv"
  rw [cut_upto, cut_from, ← List.map_take, ← List.map_drop]
  rw [hR] at q
  have hnd1 : ∀ q ∈ D.drop b, q ∉ D.take b := fun q h1 h2 => by
    have hn : (D.take b ++ D.drop b).Nodup := by
      rw [List.take_append_drop]
      exact hnd
    exact (List.nodup_append.mp hn).2.2 q h2 q h1 rfl
  have hm1 : ∀ q ∈ D.take b, q.1 < W ∧ q.2 < zs.length := fun q h => hmem q (List.mem_of_mem_take h)
  have hm2 : ∀ q ∈ D.drop b, q.1 < W ∧ q.2 < zs.length := fun q h => hmem q (List.mem_of_mem_drop h)
  have hl2 : (D.drop b).length ≤ 48000 := by rw [List.length_drop]; omega
  generalize D.take b = S1 at hnd1 hm1 q ⊢
  generalize D.drop b = L at hnd1 hm2 hl2 q ⊢
  refine o_seq (q_for (js := [10, 11]) (wi_list ?_))
  walk_at "dv"
  refine ⟨fun j ρ => ∃ s10 s11, ρ = [.val (.list (zs.map .str)), .val (.list (ys.map .str)), .val (.int s), .val (.int b), .val (.int W), .res (nest p qs ((grid zs.length W (cellS zs ys (S1.take j) [])).map fun cs => cs.map sg)), .val (.list (ys.map fun y => .str (Txt.ljustF y (W : Int) ((Str.ofString "." : Str).cps.getD 0 0)))), .val (.list (D.map pD)), .val (.list (S1.map pD)), .val (.list (L.map pD)), s10, s11, .any], ⟨_, _, rfl⟩, ?_, ?_⟩
  · rintro j d _ hd ⟨s10, s11, rfl⟩
    obtain ⟨⟨k, i⟩, hj, rfl⟩ : ∃ q, S1[j]? = some q ∧ pD q = d := by
      rw [List.getElem?_map] at hd
      cases hx : S1[j]? with
      | none => rw [hx] at hd; cases hd
      | some q => rw [hx] at hd; exact ⟨q, rfl, Option.some.inj hd⟩
    obtain ⟨hk, hi⟩ := hm1 _ (List.mem_of_getElem? hj)
    refine wg_tup rfl (wgs_cons (wg_name (wgs_cons (wg_name (wgs_nil ?_)))))
    refine q_setNN (we_str ⟨p, qs, _, (i : Int), (k : Int), _, i, k, rfl, rfl, rfl, ?_, grid_cell _ hi, ?_, .val (.int (k : Int)), .val (.int (i : Int)), ?_⟩)
    · rw [List.length_map, grid_len]
      exact ixN_nat hi
    · rw [List.length_map, List.length_map, List.length_range]
      exact ixN_nat hk
    have et : S1.take (j + 1) = S1.take j ++ [(k, i)] := by rw [List.take_add_one, hj]; rfl
    rw [et, show PyData.str (Str.ofString "?") = sg 63 from rfl, nest_set hi fun k' i' => cell_one zs ys (S1.take j) [] k i k' i']
    rfl
  rintro _ ⟨s10, s11, rfl⟩
  rw [List.length_map, List.take_length]
  refine o_seq (q_for (js := [10, 11]) (wi_list ?_))
  walk_at "dv"
  have eh : (((L.map pD).length : Nat) : Int) / 2 = ((L.length / 2 : Nat) : Int) := by
    rw [List.length_map]
    omega
  rw [eh, cut_upto, ← List.map_take]
  have hnd2 : ∀ q ∈ L.take (L.length / 2), q ∉ S1 := fun q h => hnd1 q (List.mem_of_mem_take h)
  have hm3 : ∀ q ∈ L.take (L.length / 2), q.1 < W ∧ q.2 < zs.length := fun q h => hm2 q (List.mem_of_mem_take h)
  generalize L.take (L.length / 2) = S2 at hnd2 hm3 q ⊢
  refine ⟨fun j ρ => ∃ s10 s11, ρ = [.val (.list (zs.map .str)), .val (.list (ys.map .str)), .val (.int s), .val (.int b), .val (.int W), .res (nest p qs ((grid zs.length W (cellS zs ys S1 (S2.take j))).map fun cs => cs.map sg)), .val (.list (ys.map fun y => .str (Txt.ljustF y (W : Int) ((Str.ofString "." : Str).cps.getD 0 0)))), .val (.list (D.map pD)), .val (.list (S1.map pD)), .val (.list (L.map pD)), s10, s11, .any], ⟨_, _, rfl⟩, ?_, ?_⟩
  · rintro j d _ hd ⟨s10, s11, rfl⟩
    obtain ⟨⟨k, i⟩, hj, rfl⟩ : ∃ q, S2[j]? = some q ∧ pD q = d := by
      rw [List.getElem?_map] at hd
      cases hx : S2[j]? with
      | none => rw [hx] at hd; cases hd
      | some q => rw [hx] at hd; exact ⟨q, rfl, Option.some.inj hd⟩
    obtain ⟨hk, hi⟩ := hm3 _ (List.mem_of_getElem? hj)
    have hk : k < W := hk
    have hi : i < zs.length := hi
    refine wg_tup rfl (wgs_cons (wg_name (wgs_cons (wg_name (wgs_nil ?_)))))
    refine q_setNN ?_
    walk_at "dv"
    refine op2_ixL (d := .str (Txt.ljustF (zAt ys i) (W : Int) ((Str.ofString "." : Str).cps.getD 0 0))) (map_at _ (by omega)) ?_
    walk_at "dv"
    have hyi : zAt ys i ∈ ys := zAt_mem (by omega)
    have hyl := py.rows _ hyi
    refine op2_ixS (c := signC (zAt ys i) k) ?_ ?_ ?_
    · rw [len_tl, lw (by omega), List.length_map, List.length_range]
      omega
    · show atI (tl _) _ = _
      rw [lw (by omega)]
      refine (Dv.atI_nat (by simp; exact hk)).trans ?_
      rw [List.getElem_map, List.getElem_range]
    refine ⟨p, qs, _, (i : Int), (k : Int), _, i, k, rfl, rfl, rfl, ?_, grid_cell _ hi, ?_, .val (.int (k : Int)), .val (.int (i : Int)), ?_⟩
    · rw [List.length_map, grid_len]
      exact ixN_nat hi
    · rw [List.length_map, List.length_map, List.length_range]
      exact ixN_nat hk
    have et : S2.take (j + 1) = S2.take j ++ [(k, i)] := by rw [List.take_add_one, hj]; rfl
    rw [et, nest_set hi fun k' i' => cell_two zs ys S1 (S2.take j) k i k' i' (hnd2 _ (List.mem_of_getElem? hj))]
  rintro _ ⟨s10, s11, rfl⟩
  rw [List.length_map, List.take_length]
  refine o_ret (wr_call (wa_cons (we_new (wn_lcM (α := List Nat) (js := [12]) (by decide) (wi_list (we_varN (i := 5) rfl ?_))))))
  refine ⟨_, rfl, grid zs.length W (cellS zs ys S1 S2), fun cs => .list (cs.map sg), by rw [List.map_map]; rfl, by rw [grid_len]; omega, rfl, fun cs => .str (joinC cs), fun cs hcs => ?_, ?_⟩
  · have hc1 : cs.length = W := by
      unfold grid at hcs
      obtain ⟨i, _, rfl⟩ := List.mem_map.mp hcs
      rw [List.length_map, List.length_range]
    refine wg_name ⟨rfl, ?_⟩
    walk_at "dv"
    refine opm_joinM (f := fun c => (⟨#[c]⟩ : Str)) ?_ ⟨rfl, rfl⟩
    have e1 : (cs.map fun c => ((⟨#[c]⟩ : Str)).length).sum = cs.length := ones1 cs
    rw [e1]
    show _ + _ * 0 ≤ _
    omega
  refine wa_nil ⟨(grid zs.length W (cellS zs ys S1 S2)).map joinC, by rw [List.map_map]; rfl, ?_, q⟩
  exact (blo_grid (by omega) hW400 pz.blo py.blo hl S1 S2).1
def pre_halfway (ds : List PyData) (φ : PyData → Prop) : Prop := ∃ (zs ys : List Str) (s b : Nat), ds = [.list (zs.map .str), .list (ys.map .str), .int s, .int b] ∧ Pic zs ∧ Pic ys ∧ ys.length = zs.length ∧
  (2 * s + b < farN zs ys → φ .none) ∧ (farN zs ys ≤ 2 * s + b → φ (.list ((halfR zs ys b).map .str)))
theorem len_halfway : ∀ ds φ, pre_halfway ds φ → ds.length = 4 := by rintro _ φ ⟨zs, ys, s, b, rfl, _⟩; rfl
end

section
variable {P : Program} {w : World} {K : PySem.W.Frag} {mg : Str → Option Value} {base : Heap}

theorem sum_one {a w : Nat} (h : a < w) : ((List.range w).map fun k => if k = a then 1 else 0).sum = 1 := by
  induction w with
  | zero => omega
  | succ w ih =>
    rw [List.range_succ, List.map_append, List.sum_append]
    by_cases e : a = w
    · subst e
      have : ((List.range a).map fun k => if k = a then 1 else 0) = (List.range a).map fun _ => 0 := List.map_congr_left fun k hk => by
        have := List.mem_range.mp hk
        rw [if_neg (by omega)]
      rw [this, sum_zero]
      simp
    · rw [ih (by omega)]
      simp
      omega
def inS (S : List (Nat × Nat)) (k i : Nat) : Bool := decide ((k, i) ∈ S)
def sum2 (w n : Nat) (f : Nat → Nat → Nat) : Nat := ((List.range w).map fun k => ((List.range n).map fun i => f k i).sum).sum
theorem sum2_congr {w n : Nat} {f g : Nat → Nat → Nat} (h : ∀ k i, k < w → i < n → f k i = g k i) : sum2 w n f = sum2 w n g := by
  unfold sum2
  exact congrArg List.sum (List.map_congr_left fun k hk => congrArg List.sum (List.map_congr_left fun i hi => h k i (List.mem_range.mp hk) (List.mem_range.mp hi)))
theorem sum2_add (w n : Nat) (f g : Nat → Nat → Nat) : sum2 w n (fun k i => f k i + g k i) = sum2 w n f + sum2 w n g := by
  unfold sum2
  rw [← sum_add]
  exact congrArg List.sum (List.map_congr_left fun k _ => sum_add _ _ _)
theorem sum2_zero (w n : Nat) : sum2 w n (fun _ _ => 0) = 0 := by
  unfold sum2
  have : ((List.range w).map fun _ => ((List.range n).map fun _ => 0).sum) = (List.range w).map fun _ => 0 := List.map_congr_left fun _ _ => sum_zero _
  rw [this, sum_zero]
theorem sum2_one {w n a b : Nat} (ha : a < w) (hb : b < n) : sum2 w n (fun k i => if k = a ∧ i = b then 1 else 0) = 1 := by
  have inner : ∀ k, ((List.range n).map fun i => if k = a ∧ i = b then 1 else 0).sum = if k = a then 1 else 0 := fun k => by
    by_cases e : k = a
    · rw [if_pos e]
      refine Eq.trans (congrArg List.sum (List.map_congr_left fun i _ => ?_)) (sum_one hb)
      show (if k = a ∧ i = b then 1 else 0) = if i = b then 1 else 0
      by_cases e2 : i = b
      · rw [if_pos ⟨e, e2⟩, if_pos e2]
      · rw [if_neg fun z => e2 z.2, if_neg e2]
    · rw [if_neg e]
      refine Eq.trans (congrArg List.sum (List.map_congr_left fun i _ => ?_)) (sum_zero (List.range n))
      show (if k = a ∧ i = b then 1 else 0) = 0
      rw [if_neg fun z => e z.1]
  unfold sum2
  exact (congrArg List.sum (List.map_congr_left fun k _ => inner k)).trans (sum_one ha)
/-- each place of S once -/
theorem sum2_in (w n : Nat) : ∀ S : List (Nat × Nat), S.Nodup → (∀ p ∈ S, p.1 < w ∧ p.2 < n) → sum2 w n (fun k i => (inS S k i).toNat) = S.length
  | [], _, _ => (sum2_congr fun k i _ _ => by simp [inS]).trans (sum2_zero w n)
  | p :: S, hn, hr => by
    obtain ⟨h1, h2⟩ := List.nodup_cons.mp hn
    have ih := sum2_in w n S h2 fun q hq => hr q (by simp [hq])
    have hp := hr p (by simp)
    have e : sum2 w n (fun k i => (inS (p :: S) k i).toNat) = sum2 w n (fun k i => (if k = p.1 ∧ i = p.2 then 1 else 0) + (inS S k i).toNat) := sum2_congr fun k i _ _ => by
      unfold inS
      by_cases c : k = p.1 ∧ i = p.2
      · obtain ⟨rfl, rfl⟩ := c
        rw [if_pos ⟨rfl, rfl⟩, decide_eq_false h1, decide_eq_true (by simp)]
        rfl
      · rw [if_neg c, Nat.zero_add]
        congr 1
        refine decide_eq_decide.mpr ⟨fun h => ?_, fun h => by simp [h]⟩
        rcases List.mem_cons.mp h with h | h
        · exact absurd ⟨congrArg Prod.fst h, congrArg Prod.snd h⟩ c
        · exact h
    rw [e, sum2_add, sum2_one hp.1 hp.2, ih, List.length_cons]
    omega
theorem range_grow (f : Nat → Nat) {v : Nat} : ∀ {w : Nat}, v ≤ w → (∀ k, v ≤ k → f k = 0) → ((List.range w).map f).sum = ((List.range v).map f).sum
  | 0, h, _ => by
    have : v = 0 := by omega
    subst this
    rfl
  | w + 1, h, hf => by
    by_cases e : v = w + 1
    · rw [e]
    · rw [List.range_succ, List.map_append, List.sum_append, range_grow f (w := w) (by omega) hf]
      simp [hf w (by omega)]
theorem wide_out {zs : List Str} (p : Blo zs) {i k : Nat} (hi : i < zs.length) (hk : wideOf zs ≤ k) : signC (zAt zs i) k = 46 := by
  have h := p.rows _ (zAt_mem hi)
  exact signC_out (by rw [← len_tl]; omega)
theorem far_w {zs ys : List Str} (pz : Blo zs) (py : Blo ys) (hl : ys.length = zs.length) {W : Nat} (h1 : wideOf zs ≤ W) (h2 : wideOf ys ≤ W) : farN zs ys = sum2 W zs.length fun k i => (dif (signC (zAt zs i) k) (signC (zAt ys i) k)).toNat := by
  unfold farN sum2
  refine (range_grow (fun k => ((List.range zs.length).map fun i => bitAt zs ys k i).sum) (v := max (wideOf zs) (wideOf ys)) (w := W) (by omega) fun k hk => ?_).symm
  have : ((List.range zs.length).map fun i => bitAt zs ys k i) = (List.range zs.length).map fun _ => 0 := List.map_congr_left fun i hi => by
    have hi := List.mem_range.mp hi
    unfold bitAt
    rw [wide_out pz hi (by omega), wide_out py (by omega) (by omega)]
    rfl
  rw [this, sum_zero]
theorem row_map (z : Str) : (List.range (tl z).length).map (fun k => signC z k) = tl z := by
  apply List.ext_getElem
  · simp
  · intro k h1 h2
    rw [List.getElem_map, List.getElem_range, signC_in h2]
theorem cnt_sum {c : Nat} (hc : c ≠ 46) {z : Str} {w : Nat} (hw : z.length ≤ w) : cntS c z = ((List.range w).map fun k => (signC z k == c).toNat).sum := by
  have hl := len_tl z
  rw [range_grow (fun k => (signC z k == c).toNat) (v := (tl z).length) (by omega) fun k hk => by rw [signC_out hk, beq_eq_false_iff_ne.mpr fun e => hc e.symm]; rfl]
  have e : ∀ l : List Nat, (l.filter fun k => k == c).length = (l.map fun k => (k == c).toNat).sum := fun l => by
    induction l with
    | nil => rfl
    | cons x l ih =>
      rw [List.filter_cons, List.map_cons, List.sum_cons, ← ih]
      cases x == c
      · simp
      · simp
        omega
  show ((tl z).filter fun k => k == c).length = _
  rw [e]
  conv => lhs; rw [← row_map z]
  rw [List.map_map]
  rfl
theorem sum2_swap (w n : Nat) (f : Nat → Nat → Nat) : sum2 w n f = sum2 n w fun i k => f k i := by
  unfold sum2
  exact sum_swap f (List.range n) (List.range w)
theorem blot_w {zs : List Str} (p : Blo zs) {W : Nat} (h : wideOf zs ≤ W) : blotN zs = sum2 W zs.length fun k i => (signC (zAt zs i) k == 63).toNat := by
  rw [sum2_swap]
  unfold blotN sum2
  rw [zs_range (cntS 63) zs]
  refine congrArg List.sum (List.map_congr_left fun i hi => ?_)
  have hi := List.mem_range.mp hi
  have := p.rows _ (zAt_mem hi)
  exact cnt_sum (by decide) (by omega)
/-! cut at the right -/
theorem zAt_map (g : Str → Str) {zs : List Str} {i : Nat} (h : i < zs.length) : zAt (zs.map g) i = g (zAt zs i) := by
  unfold zAt
  rw [List.getD_eq_getElem?_getD, List.getD_eq_getElem?_getD, List.getElem?_map, List.getElem?_eq_getElem h]
  rfl
theorem cut_sign {zs : List Str} (p : Blo zs) {i k : Nat} (hi : i < zs.length) : signC (zAt (cutR zs) i) k = signC (zAt zs i) k := by
  unfold cutR
  rw [zAt_map _ hi]
  have hm := zAt_mem hi
  have ht := tl_cutS (zAt zs i) (cutW zs)
  have hl := len_tl (zAt zs i)
  have e : signC (cutS (zAt zs i) none (some (cutW zs : Int))) k = (((tl (zAt zs i)).take (cutW zs))[k]?).getD 46 := by
    show ((tl _)[k]?).getD 46 = _
    rw [ht]
  rw [e]
  by_cases h1 : k < cutW zs
  · rw [List.getElem?_take_of_lt h1]
    rfl
  · rw [List.getElem?_eq_none (by rw [List.length_take]; omega)]
    by_cases h2 : k < (zAt zs i).length
    · have := cutW_tail _ hm k (by omega) h2
      unfold signC
      rw [this]
      rfl
    · rw [signC_out (by omega)]
      rfl
theorem blo_cut {zs : List Str} (p : Blo zs) : Blo (cutR zs) ∧ (cutR zs).length = zs.length ∧ wideOf (cutR zs) ≤ wideOf zs := by
  have hle : cutW zs ≤ wideOf zs := cutW_le fun z hz => by rw [p.rows z hz]; exact Nat.le_refl _
  have hall : ∀ z ∈ cutR zs, z.length = cutW zs ∧ ∀ c ∈ tl z, Sgn c := fun z hz => by
    obtain ⟨y, hy, rfl⟩ := List.mem_map.mp hz
    have hr := p.rows y hy
    have hl := len_tl y
    rw [len_tl, tl_cutS]
    refine ⟨by rw [List.length_take]; omega, fun c hc => p.dots y hy c (List.mem_of_mem_take hc)⟩
  have hlen : (cutR zs).length = zs.length := by
    unfold cutR
    rw [List.length_map]
  obtain ⟨a, b, _⟩ := mkBlo (by rw [hlen]; exact p.high) (by have := p.wide; omega) hall
  exact ⟨a, hlen, by omega⟩
end

section
variable {P : Program} {w : World} {K : PySem.W.Frag} {mg : Str → Option Value} {base : Heap}

theorem Pic.two {zs : List Str} (p : Pic zs) {i : Nat} (hi : i < zs.length) (k : Nat) : signC (zAt zs i) k = 46 ∨ signC (zAt zs i) k = 35 := by
  by_cases hk : k < (tl (zAt zs i)).length
  · rw [signC_in hk]
    exact p.dots _ (zAt_mem hi) _ (List.getElem_mem hk)
  · rw [signC_out (by omega)]
    exact .inl rfl
theorem mem_dots' {zs ys : List Str} {w k i : Nat} (hk : k < w) (hi : i < zs.length) : ((k, i) ∈ dotsOf zs ys w) ↔ signC (zAt zs i) k ≠ signC (zAt ys i) k := by
  refine ⟨fun h => (mem_dots h).2.2, fun h => ?_⟩
  unfold dotsOf
  refine List.mem_flatMap.mpr ⟨k, List.mem_range.mpr hk, List.mem_map.mpr ⟨i, List.mem_filter.mpr ⟨List.mem_range.mpr hi, ?_⟩, rfl⟩⟩
  simpa using h
theorem grid_sign {n w : Nat} {f : Nat → Nat → Nat} {k i : Nat} (hi : i < n) (hk : k < w) : signC (zAt ((grid n w f).map joinC) i) k = f k i := by
  have e : zAt ((grid n w f).map joinC) i = joinC ((List.range w).map fun k => f k i) := by
    unfold zAt
    rw [List.getD_eq_getElem?_getD, List.getElem?_map, grid_row f hi]
    rfl
  rw [e, signC_in (by rw [tl_joinC]; simp; exact hk)]
  have e2 : (tl (joinC ((List.range w).map fun k => f k i)))[k]? = some (f k i) := by
    rw [tl_joinC, List.getElem?_map, List.getElem?_range hk]
    rfl
  have e3 := List.getElem?_eq_getElem (l := tl (joinC ((List.range w).map fun k => f k i))) (i := k) (by rw [tl_joinC]; simp; exact hk)
  rw [e2] at e3
  exact (Option.some.inj e3).symm
theorem half_facts {zs ys : List Str} (pz : Pic zs) (py : Pic ys) (hl : ys.length = zs.length) {s b : Nat} (h : farN zs ys ≤ 2 * s + b) :
    Blo (halfR zs ys b) ∧ (halfR zs ys b).length = zs.length ∧ farN zs (halfR zs ys b) ≤ s ∧ farN ys (halfR zs ys b) ≤ s ∧ blotN (halfR zs ys b) ≤ b := by
  have hwz := pz.wide
  have hwy := py.wide
  have hD := dots_len pz py hl
  have hnd := dots_nodup zs ys (max (wideOf zs) (wideOf ys))
  have hmem : ∀ p ∈ dotsOf zs ys (max (wideOf zs) (wideOf ys)), p.1 < max (wideOf zs) (wideOf ys) ∧ p.2 < zs.length := fun p hp => ⟨(mem_dots hp).1, (mem_dots hp).2.1⟩
  have hdot : ∀ k i, k < max (wideOf zs) (wideOf ys) → i < zs.length → (((k, i) ∈ dotsOf zs ys (max (wideOf zs) (wideOf ys))) ↔ signC (zAt zs i) k ≠ signC (zAt ys i) k) := fun k i hk hi => mem_dots' hk hi
  have hW1 : wideOf zs ≤ max (wideOf zs) (wideOf ys) := by omega
  have hW2 : wideOf ys ≤ max (wideOf zs) (wideOf ys) := by omega
  have hW3 : max (wideOf zs) (wideOf ys) ≤ 400 := by omega
  unfold halfR halfG S1of S2of Lof
  generalize max (wideOf zs) (wideOf ys) = W at hD hnd hmem hdot hW1 hW2 hW3 ⊢
  generalize dotsOf zs ys W = D at hD hnd hmem hdot ⊢
  have eD : D = D.take b ++ ((D.drop b).take ((D.drop b).length / 2) ++ (D.drop b).drop ((D.drop b).length / 2)) := by rw [List.take_append_drop, List.take_append_drop]
  have l1 : (D.take b).length ≤ b := by
    rw [List.length_take]
    exact Nat.min_le_left _ _
  have l2 : ((D.drop b).take ((D.drop b).length / 2)).length ≤ s := by
    rw [List.length_take, List.length_drop]
    omega
  have l3 : ((D.drop b).drop ((D.drop b).length / 2)).length ≤ s := by
    rw [List.length_drop, List.length_drop]
    omega
  generalize D.take b = S1 at eD l1 ⊢
  generalize (D.drop b).take ((D.drop b).length / 2) = S2 at eD l2 ⊢
  generalize (D.drop b).drop ((D.drop b).length / 2) = R at eD l3
  subst eD
  obtain ⟨n1, n23, d1⟩ := List.nodup_append.mp hnd
  obtain ⟨n2, n3, d2⟩ := List.nodup_append.mp n23
  obtain ⟨pg, hg⟩ := blo_grid pz.high hW3 pz.blo py.blo hl S1 S2
  have hgl : ((grid zs.length W (cellS zs ys S1 S2)).map joinC).length = zs.length := by rw [List.length_map, grid_len]
  obtain ⟨pc, hcl, hcw⟩ := blo_cut pg
  have hgw : wideOf ((grid zs.length W (cellS zs ys S1 S2)).map joinC) ≤ W := by
    cases hx : (grid zs.length W (cellS zs ys S1 S2)).map joinC with
    | nil => exact Nat.zero_le _
    | cons t r =>
      have := hg t (by rw [hx]; exact List.mem_cons_self)
      show t.length ≤ W
      omega
  have sgn : ∀ k i, k < W → i < zs.length → signC (zAt (cutR ((grid zs.length W (cellS zs ys S1 S2)).map joinC)) i) k = cellS zs ys S1 S2 k i := fun k i hk hi => by
    rw [cut_sign pg (by rw [hgl]; exact hi), grid_sign hi hk]
  have r1 : ∀ p ∈ S1, p.1 < W ∧ p.2 < zs.length := fun p hp => hmem p (by simp [hp])
  have r2 : ∀ p ∈ S2, p.1 < W ∧ p.2 < zs.length := fun p hp => hmem p (by simp [hp])
  have r3 : ∀ p ∈ R, p.1 < W ∧ p.2 < zs.length := fun p hp => hmem p (by simp [hp])
  refine ⟨pc, by rw [hcl, hgl], ?_, ?_, ?_⟩
  · rw [far_w pz.blo pc (by rw [hcl, hgl]) hW1 (by omega)]
    refine Nat.le_trans (Nat.le_of_eq ((sum2_congr fun k i hk hi => ?_).trans (sum2_in W zs.length S2 n2 r2))) l2
    rw [sgn k i hk hi]
    unfold inS cellS
    by_cases h1 : (k, i) ∈ S1
    · have h2 : (k, i) ∉ S2 := fun h2 => d1 _ h1 _ (by simp [h2]) rfl
      rw [if_pos h1, decide_eq_false h2]
      rcases pz.two hi k with e | e <;> rw [e] <;> rfl
    · rw [if_neg h1]
      by_cases h2 : (k, i) ∈ S2
      · rw [if_pos h2, decide_eq_true h2]
        have hne := (hdot k i hk hi).mp (by simp [h2])
        rcases pz.two hi k with e | e <;> rcases py.two (show i < ys.length by omega) k with e2 | e2 <;> rw [e, e2] at hne ⊢ <;> first | rfl | exact absurd rfl hne
      · rw [if_neg h2, decide_eq_false h2]
        rcases pz.two hi k with e | e <;> rw [e] <;> rfl
  · rw [far_w py.blo pc (by rw [hcl, hgl, hl]) hW2 (by omega), hl]
    refine Nat.le_trans (Nat.le_of_eq ((sum2_congr fun k i hk hi => ?_).trans (sum2_in W zs.length R n3 r3))) l3
    rw [sgn k i hk hi]
    unfold inS cellS
    by_cases h1 : (k, i) ∈ S1
    · have h3 : (k, i) ∉ R := fun h3 => d1 _ h1 _ (by simp [h3]) rfl
      rw [if_pos h1, decide_eq_false h3]
      rcases py.two (show i < ys.length by omega) k with e | e <;> rw [e] <;> rfl
    · rw [if_neg h1]
      by_cases h2 : (k, i) ∈ S2
      · have h3 : (k, i) ∉ R := fun h3 => d2 _ h2 _ h3 rfl
        rw [if_pos h2, decide_eq_false h3]
        rcases py.two (show i < ys.length by omega) k with e | e <;> rw [e] <;> rfl
      · rw [if_neg h2]
        by_cases h3 : (k, i) ∈ R
        · rw [decide_eq_true h3]
          have hne := (hdot k i hk hi).mp (by simp [h3])
          rcases pz.two hi k with e | e <;> rcases py.two (show i < ys.length by omega) k with e2 | e2 <;> rw [e, e2] at hne ⊢ <;> first | rfl | exact absurd rfl hne
        · rw [decide_eq_false h3]
          have heq : signC (zAt zs i) k = signC (zAt ys i) k := Classical.byContradiction fun hne => by
            have := (hdot k i hk hi).mpr hne
            simp [h1, h2, h3] at this
          rw [heq]
          rcases py.two (show i < ys.length by omega) k with e | e <;> rw [e] <;> rfl
  · rw [blot_w pc (W := W) (by omega), hcl, hgl]
    refine Nat.le_trans (Nat.le_of_eq ((sum2_congr fun k i hk hi => ?_).trans (sum2_in W zs.length S1 n1 r1))) l1
    rw [sgn k i hk hi]
    unfold inS cellS
    by_cases h1 : (k, i) ∈ S1
    · rw [if_pos h1, decide_eq_true h1]
      rfl
    · rw [if_neg h1, decide_eq_false h1]
      split
      · rcases py.two (show i < ys.length by omega) k with e | e <;> rw [e] <;> rfl
      · rcases pz.two hi k with e | e <;> rw [e] <;> rfl
def pre__law_could (ds : List PyData) (φ : PyData → Prop) : Prop := ∃ (zs ys : List Str) (a b : Nat), ds = [.list (zs.map .str), .list (ys.map .str), .int a, .int b] ∧ Blo zs ∧ Blo ys ∧ ys.length = zs.length ∧ φ (.bool (decide (farN zs ys ≤ a) && decide (blotN ys ≤ b)))
theorem len__law_could : ∀ ds φ, pre__law_could ds φ → ds.length = 4 := by rintro _ φ ⟨zs, ys, a, b, rfl, _⟩; rfl
theorem ok__law_could (T : Txt P K mg) : FnG P w K mg base CX0 3 T.a__law_could T.d__law_could ["picture", "blotted", "spoilt", "blots"] (SpD pre__law_could) := by
  refine FnG.ok0 T.F__law_could sc__law_could (sp_len len__law_could) (fun cdv A outer s H vs Q E hr hg h => ?_)
  refine ⟨_, (pss_one (ps_ret (k_andT (K := K) rfl (pe_cmpR op_le (pe_callB (k_len (K := K) rfl) (by rfl) T.z_len (by decide +kernel) (pa_cons (pe_cg (ok__law_far (P := P) (w := w) (base := base) T) (by exact hr.mono (by first | decide | omega)) (by exact hg) (by rfl) T.g__law_far T.F__law_far.kp (b__law_far T.F__law_far) .nil pass0 (pa_cons (pv 0) (pa_cons (pv 1) pa_nil))) pa_nil)) (pv 2) (nomark _)) (pe_one (pe_cmpR op_le (pe_callB (k_sum (K := K) rfl rfl) (by rfl) T.z_sum (by decide +kernel) (pa_cons (pe_lc (own := [("row", 4)]) rfl sc__law_could.nd (k_plist (K := K) rfl (pv 1)) (blkOk_by (own := [("row", 4)]) (N := nm__law_could) (by rfl)) (fun _ _ _ _ _ => (pg_name (i := 4) sc__law_could.nd rfl (by first | exact Or.inl rfl | exact Or.inr rfl))) (fun _ _ _ _ _ => pts_nil) (fun _ _ _ _ _ => (pe_m1 PySem.F.slot_str_count PySem.F.type_str_count mt_count' (pv 4) pe_str))) pa_nil)) (pv 3) (nomark _)))))), fn_pure (by decide) len__law_could (fun F G0 ds φ hp => ?_) h⟩
  obtain ⟨zs, ys, a, b, rfl, pz, py, hl, q⟩ := hp
  walk_at "dv"
  refine ⟨zs, ys, rfl, pz, py, hl, fun es hes _ => ?_⟩
  walk_at "dv"
  rw [hes]
  have ed : decide (((farN zs ys : Nat) : Int) ≤ (a : Int)) = decide (farN zs ys ≤ a) := decide_eq_decide.mpr (by omega)
  rw [ed]
  refine ⟨fun h => ?_, fun h => ?_⟩
  · rw [h, Bool.true_and] at q
    walk_at "dv"
    refine we_new (wn_lcM (α := Str) (js := [4]) (by decide) (wi_list ?_))
    walk_at "dv"
    refine ⟨ys, .str, rfl, by have := py.high; omega, rfl, fun y => .int (cntS 63 y : Nat), fun y hy => ?_, ?_⟩
    · refine wg_name ⟨rfl, ?_⟩
      walk_at "dv"
      exact opm_count ⟨rfl, congrArg PyData.int (count_S y 63)⟩
    walk_at "dv"
    refine (opc_sumM (f := fun y : Str => ((cntS 63 y : Nat) : Int)) ?_).op
    rw [sum_cast]
    walk_at "dv"
    have ed2 : decide ((((ys.map (cntS 63)).sum : Nat) : Int) ≤ (b : Int)) = decide (blotN ys ≤ b) := decide_eq_decide.mpr (by show _ ≤ _ ↔ (ys.map (cntS 63)).sum ≤ b; omega)
    rw [ed2]
    exact q
  · rw [h, Bool.false_and] at q
    rw [h]
    exact q
end

section
variable {P : Program} {w : World} {K : PySem.W.Frag} {mg : Str → Option Value} {base : Heap}

theorem op2_notInS {c : Nat} {z : Str} {φ : PyData → Prop} (q : φ (.bool (!decide (c ∈ z.cps.toList)))) : OpF2 (fun x y H Q => ∃ (c : Nat) (z : Str), x = V.str ⟨#[c]⟩ ∧ y = V.str z ∧ Q (V.bl (!decide (c ∈ z.cps.toList))) H) (.str ⟨#[c]⟩) (.str z) φ := fun G H v u s r1 r2 Q k => by
  cases r1
  cases r2
  exact ⟨c, z, rfl, rfl, k _ _ (fun _ => .bl _) q⟩
def pre__law_is_sheet (ds : List PyData) (φ : PyData → Prop) : Prop := ∃ (zs : List Str) (n : Nat), ds = [.list (zs.map .str), .int n] ∧ Blo zs ∧ zs.length = n ∧ φ (.bool true)
theorem len__law_is_sheet : ∀ ds φ, pre__law_is_sheet ds φ → ds.length = 2 := by rintro _ φ ⟨zs, n, rfl, _⟩; rfl
theorem ok__law_is_sheet (T : Txt P K mg) : FnG P w K mg base CX0 1 T.a__law_is_sheet T.d__law_is_sheet ["value", "high"] (SpD pre__law_is_sheet) := by
  refine FnG.ok0 T.F__law_is_sheet sc__law_is_sheet (sp_len len__law_is_sheet) (fun cdv A outer s H vs Q E hr hg h => ?_)
  refine ⟨_, (pss_cons (ps_if (PW.pt (pw_or (pt_not (k_tru (K := K) rfl (pe_callB (k_isi (K := K) rfl) (by rfl) T.z_isinstance (by decide +kernel) (pa_cons (pv 0) (pa_cons (pe_bltn (v := .ty "list") (u := .type "list") (by rfl) T.z_list (by decide +kernel) rfl) pa_nil))) (by intro _; rfl))) (pw_or (pt_cmpR (k_ne (K := K) rfl (by exact hr.units)) (pe_callB (k_len (K := K) rfl) (by rfl) T.z_len (by decide +kernel) (pa_cons (pv 0) pa_nil)) (pv 1) (nomark _)) (pw_or1 (pt_cmpR (k_ne (K := K) rfl (by exact hr.units)) (pe_lc (own := [("row", 2)]) rfl sc__law_is_sheet.nd (k_plist (K := K) rfl (pv 0)) (blkOk_by (own := [("row", 2)]) (N := nm__law_is_sheet) (by rfl)) (fun _ _ _ _ _ => (pg_name (i := 2) sc__law_is_sheet.nd rfl (by first | exact Or.inl rfl | exact Or.inr rfl))) (fun _ _ _ _ _ => (pts_one (pt_not (k_tru (K := K) rfl (pe_callB (k_isi (K := K) rfl) (by rfl) T.z_isinstance (by decide +kernel) (pa_cons (pv 2) (pa_cons (pe_bltn (v := .ty "str") (u := .type "str") (by rfl) T.z_str (by decide +kernel) rfl) pa_nil))) (by intro _; rfl))))) (fun _ _ _ _ _ => (pv 2))) (pe_lst pa_nil) (nomark _)))))) (pss_one (ps_ret pe_bl)) pss_nil)
      (pss_one (ps_ret (pe_cmpR (k_eq (K := K) rfl (by exact hr.units)) (pe_lc (own := [("row", 2)]) rfl sc__law_is_sheet.nd (k_plist (K := K) rfl (pv 0)) (blkOk_by (own := [("row", 2)]) (N := nm__law_is_sheet) (by rfl)) (fun _ _ _ _ _ => (pg_name (i := 2) sc__law_is_sheet.nd rfl (by first | exact Or.inl rfl | exact Or.inr rfl))) (fun _ _ _ _ _ => (pts_one (PW.pt (pw_or (pt_cmpR (k_ne (K := K) rfl (by exact hr.units)) (pe_callB (k_len (K := K) rfl) (by rfl) T.z_len (by decide +kernel) (pa_cons (pv 2) pa_nil)) (pe_callB (k_len (K := K) rfl) (by rfl) T.z_len (by decide +kernel) (pa_cons (pe_ix (k_ix (K := K) rfl) (pv 0) pe_int (fun _ _ => rfl)) pa_nil)) (nomark _)) (pw_or (pt_cmpR op_gt (pe_callB (k_len (K := K) rfl) (by rfl) T.z_len (by decide +kernel) (pa_cons (pv 2) pa_nil)) pe_int (nomark _)) (pw_or1 (pt_cmpR (k_ne (K := K) rfl (by exact hr.units)) (pe_lc (own := [("sign", 3)]) rfl sc__law_is_sheet.nd (pi_str (pv 2)) (blkOk_by (own := [("sign", 3)]) (N := nm__law_is_sheet) (by rfl)) (fun _ _ _ _ _ => (pg_name (i := 3) sc__law_is_sheet.nd rfl (by first | exact Or.inl rfl | exact Or.inr rfl))) (fun _ _ _ _ _ => (pts_one (pt_cmpR op_notIn_sign (pv 3) pe_str (by rfl)))) (fun _ _ _ _ _ => (pv 3))) (pe_lst pa_nil) (nomark _)))))))) (fun _ _ _ _ _ => (pv 2))) (pe_lst pa_nil) (nomark _))))), fn_pure (by decide) len__law_is_sheet (fun F G0 ds φ hp => ?_) h⟩
  obtain ⟨zs, n, rfl, pz, hn, q⟩ := hp
  have hh := pz.high
  walk_at "dv"
  rw [List.length_map, hn, show (!((n : Int) == (n : Int))) = false by simp]
  walk_at "dv"
  refine we_new (wn_lcT (α := Str) (js := [2]) (by decide) (wi_list ?_))
  walk_at "dv"
  refine ⟨zs, .str, rfl, by omega, rfl, fun _ => false, .str, fun z hz => ?_, ?_⟩
  · refine wg_name ⟨rfl, ?_⟩
    walk_at "dv"
    exact ⟨rfl, rfl, fun z => nomatch z⟩
  rw [show (zs.filter fun _ => false).map PyData.str = [] by simp]
  walk_at "dv"
  refine (op2_neNil ⟨rfl, rfl⟩ ?_).op
  walk_at "dv"
  refine we_new (wn_lcT (α := Str) (js := [2]) (by decide) (wi_list ?_))
  walk_at "dv"
  refine ⟨zs, .str, rfl, by omega, rfl, fun _ => false, .str, fun z hz => ?_, ?_⟩
  · have hzr := pz.rows z hz
    have hwd := pz.wide
    refine wg_name ⟨rfl, ?_⟩
    walk_at "dv"
    refine (opc_lenS (by omega) ?_).op
    walk_at "dv"
    obtain ⟨z0, r, rfl⟩ : ∃ z0 r, zs = z0 :: r := by
      cases zs with
      | nil => cases hz
      | cons a r => exact ⟨a, r, rfl⟩
    refine op2_ixL (d := .str z0) atI_zero ?_
    have h0 := pz.rows z0 List.mem_cons_self
    walk_at "dv"
    refine (opc_lenS (by omega) ?_).op
    walk_at "dv"
    rw [hzr, h0, show (!((wideOf (z0 :: r) : Int) == (wideOf (z0 :: r) : Int))) = false by simp]
    walk_at "dv"
    refine (opc_lenS (by omega) ?_).op
    walk_at "dv"
    rw [hzr, decide_eq_false (show ¬ (400 : Int) < (wideOf (z0 :: r) : Int) by omega)]
    walk_at "dv"
    refine we_new (wn_lcT (α := Nat) (js := [3]) (by decide) (wi_str ?_))
    walk_at "dv"
    have hlz := len_tl z
    refine ⟨tl z, sg, signs_sg z, by omega, rfl, fun _ => false, sg, fun c hc => ?_, ?_⟩
    · refine wg_name ⟨rfl, ?_⟩
      walk_at "dv"
      refine (op2_notInS ?_).op
      have hin : c ∈ (Str.ofString ".#?" : Str).cps.toList := by
        rcases pz.dots z hz c hc with e | e | e <;> rw [e] <;> decide +kernel
      rw [decide_eq_true hin]
      walk_at "dv"
      exact ⟨rfl, rfl, fun z => nomatch z⟩
    rw [show ((tl z).filter fun _ => false).map sg = [] by simp]
    walk_at "dv"
    refine (op2_neNil ⟨rfl, rfl⟩ ?_).op
    exact ⟨_, rfl, rfl, rfl, fun z => nomatch z⟩
  rw [show (zs.filter fun _ => false).map PyData.str = [] by simp]
  walk_at "dv"
  refine (op2_eqNil ⟨rfl, rfl⟩ ?_).op
  exact q
end

section
variable {P : Program} {w : World} {K : PySem.W.Frag} {mg : Str → Option Value} {base : Heap}

theorem oks_one {zs : List Str} (p : Blo zs) : OksN 1 500000 (.list (zs.map .str)) := by
  refine (OksN.list (n := 0) (m := 10 * 400 + 2) fun e he => ?_).mono (Nat.le_refl _) ?_
  · obtain ⟨z, hz, rfl⟩ := List.mem_map.mp he
    exact .str (p.pln z hz) (p.len z hz)
  · rw [List.length_map]
    have := p.high
    omega
theorem oks_blo {zs : List Str} (p : Blo zs) : Oks (.list (zs.map .str)) := (oks_one p).oks (by decide) (by decide)
theorem oks_two {zs ys : List Str} (pz : Blo zs) (py : Blo ys) : Oks (.list [.list (zs.map .str), .list (ys.map .str)]) := by
  refine (OksN.list (n := 1) (m := 500000) fun e he => ?_).oks (by decide) (by show 2 + 2 * (500000 + 2) ≤ 16777216; decide)
  simp only [List.mem_cons, List.not_mem_nil, or_false] at he
  rcases he with rfl | rfl
  · exact oks_one pz
  · exact oks_one py
theorem clean_blo {zs : List Str} (p : Blo zs) : clean (.list (zs.map .str)) = true := by
  have hh := p.high
  simp only [clean, Bool.and_eq_true]
  refine ⟨?_, decide_eq_true (by rw [List.length_map]; omega), ?_⟩
  · unfold endsSp
    rw [List.getLast?_map]
    cases h : zs.getLast? with
    | none => rfl
    | some z =>
      have hz := List.mem_of_getLast? h
      show (!(z == (Str.ofString "spoilt"))) = true
      rw [beq_eq_false_iff_ne.mpr]
      · rfl
      · intro e
        have := p.dots z hz 115 (by rw [e]; decide +kernel)
        omega
  · rw [cleanA_all, List.all_map]
    refine List.all_eq_true.mpr fun z hz => ?_
    have hl := p.len z hz
    show clean (.str z) = true
    simp only [clean, Bool.and_eq_true]
    exact ⟨decide_eq_true (by omega), List.all_eq_true.mpr fun c hc => decide_eq_true (p.pln z hz c hc)⟩
theorem pd_eq {a b : Int} {x y : Nat} (h1 : a = (x : Int)) (h2 : b = (y : Int)) : PyData.tuple [.int a, .int b] = pD (x, y) := by
  subst h1 h2
  rfl
theorem own_isN {ρ : Rho} {i : Nat} {L : List Addr} {d : PyData} {Φb : Bool → Rho → Prop} (h : ρ[i]? = some (.res (own L d))) (q : Φb (isN d) ρ) : Wt (tTest (tOp rIsN (tVar i) (tC .non))) ρ Φb := by
  refine wt_lend h (wt_test (we_op (we_var (d := d) ?_ (we_non (op2_isN ⟨_, rfl, q⟩).op))))
  rw [List.getElem?_set_self]
  rw [List.length_map]
  exact (List.getElem?_eq_some_iff.mp h).1
theorem own_isntN {ρ : Rho} {i : Nat} {L : List Addr} {d : PyData} {Φb : Bool → Rho → Prop} (h : ρ[i]? = some (.res (own L d))) (q : Φb (!isN d) ρ) : Wt (tTest (tOp rNotN (tVar i) (tC .non))) ρ Φb := by
  refine wt_lend h (wt_test (we_op (we_var (d := d) ?_ (we_non (op2_notN ⟨_, rfl, q⟩).op))))
  rw [List.getElem?_set_self]
  rw [List.length_map]
  exact (List.getElem?_eq_some_iff.mp h).1
def pre__law_half_right (m : Nat) (ds : List PyData) (φ : Nat → PyData → Prop) : Prop := ∃ zs ys : List Str, ds = [.list (zs.map .str), .list (ys.map .str)] ∧ Pic zs ∧ Pic ys ∧ ys.length = zs.length ∧ farN zs ys ≤ 100000 ∧ m + 10 ≤ 2 ^ 40 ∧ ∀ m' : Nat, m' ≤ m + 10 → φ m' (.bool true)
theorem len__law_half_right : ∀ m ds φ, pre__law_half_right m ds φ → ds.length = 2 := by rintro m _ φ ⟨zs, ys, rfl, _⟩; rfl
end

--@passes apart leaves

section
variable {P : Program} {w : World} {K : PySem.W.Frag} {mg : Str → Option Value} {base : Heap}

theorem dif_comm (a b : Nat) : dif a b = dif b a := by
  unfold dif
  rw [Bool.or_comm, Bool.and_comm, Bool.and_comm (a == 35)]
theorem far_comm {zs ys : List Str} (hl : ys.length = zs.length) : farN ys zs = farN zs ys := by
  unfold farN
  rw [Nat.max_comm, hl]
  congr 1
  refine List.map_congr_left fun k _ => ?_
  congr 1
  refine List.map_congr_left fun i _ => ?_
  unfold bitAt
  rw [dif_comm]
theorem zip_at : ∀ (zs ys : List Str), ys.length = zs.length → zs.zip ys = (List.range zs.length).map fun i => (zAt zs i, zAt ys i)
  | [], _, _ => rfl
  | z :: zs, [], h => by cases h
  | z :: zs, y :: ys, h => by
    rw [List.zip_cons_cons, zip_at zs ys (by simpa using h), List.length_cons, List.range_succ_eq_map, List.map_cons, List.map_map]
    rfl
theorem dist_w {zs ys : List Str} (pz : Blo zs) (py : Blo ys) (hl : ys.length = zs.length) {W : Nat} (h1 : wideOf zs ≤ W) (h2 : wideOf ys ≤ W) : distN zs ys W = farN zs ys := by
  rw [far_w pz py hl h1 h2, sum2_swap]
  unfold distN rowFar
  rw [zip_at zs ys hl, List.map_map]
  unfold sum2
  congr 1
  refine List.map_congr_left fun i hi => ?_
  have hi := List.mem_range.mp hi
  show ((List.range W).map fun k => (bitF (zAt zs i) (zAt ys i) k).toNat).sum = _
  congr 1
  refine List.map_congr_left fun k _ => ?_
  rw [bitF_dif (pz.sgn k hi) (py.sgn k (by omega))]
theorem dist_far {zs ys : List Str} (pz : Blo zs) (py : Blo ys) (hl : ys.length = zs.length) : distN zs ys 400 = farN zs ys := dist_w pz py hl pz.wide py.wide
theorem reps {H : Hp} {vs : List V} {ds : List PyData} (h : RpA H vs ds) : ∀ n : Nat, RpA H (List.replicate n vs).flatten (List.replicate n ds).flatten
  | 0 => .nil
  | n + 1 => by
    rw [List.replicate_succ, List.replicate_succ, List.flatten_cons, List.flatten_cons]
    exact h.app (reps h n)
theorem op2_repL {φ : PyData → Prop} {xs : List PyData} {k : Int} (h : xs.length * k.toNat ≤ 100000) (h1 : -(2 ^ 63) ≤ k) (h2 : k < 2 ^ 63) (q : φ (.list (List.replicate k.toNat xs).flatten)) : Op2 rMulU (.list xs) (.int k) φ := fun G H v u s r1 r2 Q kk => by
  cases r1 with
  | lst a1 a2 =>
    cases r2
    refine .inr ⟨_, _, _, rfl, rfl, s _ _ a1, h1, h2, by rw [a2.len]; exact szl h, fun p hp => ?_⟩
    have ng := none_of s hp
    exact kk _ _ (upd G p (.lst _)) _ (.laid s hp) (.lst upd_same ((reps a2 _).mono (same_upd ng))) q
theorem same8 {x : PyData} {φ : PyData → Prop} {n : Nat} (h : OkdN n x) (hn : n ≤ 7) (hs : SmlD x) (q : φ (.bool true)) : pre__law_same 8 [x, x] φ := ⟨x, rfl, h.mono hn, hs, q⟩
def pre__law_left_right (m : Nat) (ds : List PyData) (φ : Nat → PyData → Prop) : Prop := ∃ zs ys : List Str, ds = [.list (zs.map .str), .list (ys.map .str)] ∧ Pic zs ∧ Blo ys ∧ ys.length = zs.length ∧ φ m (.bool true)
theorem len__law_left_right : ∀ m ds φ, pre__law_left_right m ds φ → ds.length = 2 := by rintro m _ φ ⟨zs, ys, rfl, _⟩; rfl
end

section
variable {P : Program} {w : World} {K : PySem.W.Frag} {mg : Str → Option Value} {base : Heap}

abbrev picD (zs : List Str) : PyData := .list (zs.map .str)
/-- some pictures of one height -/
structure Pics (h : Nat) (pss : List (List Str)) : Prop where
  n0 : 0 < pss.length
  n1 : pss.length ≤ 60
  pic : ∀ zs ∈ pss, Pic zs
  hi : ∀ zs ∈ pss, zs.length = h
def pAt (pss : List (List Str)) (i : Nat) : List Str := pss.getD i []
theorem pAt_mem {pss : List (List Str)} {i : Nat} (h : i < pss.length) : pAt pss i ∈ pss := by
  unfold pAt
  rw [List.getD_eq_getElem?_getD, List.getElem?_eq_getElem h]
  exact List.getElem_mem h
theorem pAt_at {pss : List (List Str)} {i : Nat} (g : List Str → PyData) (h : i < pss.length) : atI (pss.map g) (i : Int) = some (g (pAt pss i)) := by
  refine (Dv.atI_nat (by rw [List.length_map]; exact h)).trans ?_
  rw [List.getElem_map]
  unfold pAt
  rw [List.getD_eq_getElem?_getD, List.getElem?_eq_getElem h]
  rfl
def pre_are_pictures (ds : List PyData) (φ : PyData → Prop) : Prop := ∃ (h : Nat) (pss : List (List Str)), ds = [.list (pss.map picD)] ∧ Pics h pss ∧ φ (.bool true)
theorem len_are_pictures : ∀ ds φ, pre_are_pictures ds φ → ds.length = 1 := by rintro _ φ ⟨h, pss, rfl, _⟩; rfl
theorem ok_are_pictures (T : Txt P K mg) : FnG P w K mg base CX0 3 T.a_are_pictures T.d_are_pictures ["value"] (SpD pre_are_pictures) := by
  refine FnG.ok0 T.F_are_pictures sc_are_pictures (sp_len len_are_pictures) (fun cdv A outer s H vs Q E hr hg h => ?_)
  refine ⟨_, (pss_cons (ps_if (PW.pt (pw_or (pt_not (k_tru (K := K) rfl (pe_callB (k_isi (K := K) rfl) (by rfl) T.z_isinstance (by decide +kernel) (pa_cons (pv 0) (pa_cons (pe_bltn (v := .ty "list") (u := .type "list") (by rfl) T.z_list (by decide +kernel) rfl) pa_nil))) (by intro _; rfl))) (pw_or1 (pt_not (pt_chain op_lt op_le pe_int (pe_callB (k_len (K := K) rfl) (by rfl) T.z_len (by decide +kernel) (pa_cons (pv 0) pa_nil)) (pe_glob (v := .int 60) rfl T.c_MOST_PICTURES ⟨_, rfl⟩)))))) (pss_one (ps_ret pe_bl)) pss_nil)
      (pss_cons (ps_if (pt_not (k_tru (K := K) rfl (pe_callB (k_all (K := K) rfl rfl) (by rfl) T.z_all (by decide +kernel) (pa_cons (pe_lc (own := [("one", 1)]) rfl sc_are_pictures.nd (k_plist (K := K) rfl (pv 0)) (blkOk_by (own := [("one", 1)]) (N := nm_are_pictures) (by rfl)) (fun _ _ _ _ _ => (pg_name (i := 1) sc_are_pictures.nd rfl (by first | exact Or.inl rfl | exact Or.inr rfl))) (fun _ _ _ _ _ => pts_nil) (fun _ _ _ _ _ => (pe_cg (ok_is_picture (P := P) (w := w) (base := base) T) (by exact hr.mono (by first | decide | omega)) (by exact hg) (by rfl) T.g_is_picture T.F_is_picture.kp (b_is_picture T.F_is_picture) .nil pass0 (pa_cons (pv 1) pa_nil)))) pa_nil)) (by intro _; rfl))) (pss_one (ps_ret pe_bl)) pss_nil)
      (pss_one (ps_ret (pe_callB (k_all (K := K) rfl rfl) (by rfl) T.z_all (by decide +kernel) (pa_cons (pe_lc (own := [("one", 1)]) rfl sc_are_pictures.nd (k_plist (K := K) rfl (pv 0)) (blkOk_by (own := [("one", 1)]) (N := nm_are_pictures) (by rfl)) (fun _ _ _ _ _ => (pg_name (i := 1) sc_are_pictures.nd rfl (by first | exact Or.inl rfl | exact Or.inr rfl))) (fun _ _ _ _ _ => pts_nil) (fun _ _ _ _ _ => (pe_cmpR (k_eq (K := K) rfl (by exact hr.units)) (pe_callB (k_len (K := K) rfl) (by rfl) T.z_len (by decide +kernel) (pa_cons (pv 1) pa_nil)) (pe_callB (k_len (K := K) rfl) (by rfl) T.z_len (by decide +kernel) (pa_cons (pe_ix (k_ix (K := K) rfl) (pv 0) pe_int (fun _ _ => rfl)) pa_nil)) (nomark _)))) pa_nil)))))), fn_pure (by decide) len_are_pictures (fun F G0 ds φ hp => ?_) h⟩
  obtain ⟨h, pss, rfl, pp, q⟩ := hp
  have hn0 := pp.n0
  have hn1 := pp.n1
  walk_at "dv"
  rw [List.length_map]
  rw [decide_eq_true (show (0 : Int) < (pss.length : Int) by omega)]
  walk_at "dv"
  rw [decide_eq_true (show (pss.length : Int) ≤ 60 by omega)]
  walk_at "dv"
  refine we_new (wn_lcM (α := List Str) (js := [1]) (by decide) (wi_list ?_))
  walk_at "dv"
  refine ⟨pss, picD, rfl, by omega, rfl, fun _ => .bool true, fun zs hz => ?_, ?_⟩
  · refine wg_name ⟨rfl, ?_⟩
    walk_at "dv"
    refine ⟨_, rfl, (pp.pic zs hz).sml, ?_⟩
    rw [(pp.pic zs hz).is]
    exact ⟨rfl, rfl⟩
  walk_at "dv"
  refine (opc_allM ?_).op
  rw [show (pss.all fun _ => true) = true by simp]
  walk_at "dv"
  refine we_new (wn_lcM (α := List Str) (js := [1]) (by decide) (wi_list ?_))
  walk_at "dv"
  refine ⟨pss, picD, rfl, by omega, rfl, fun _ => .bool true, fun zs hz => ?_, ?_⟩
  · refine wg_name ⟨rfl, ?_⟩
    walk_at "dv"
    refine op2_ixL (pAt_at (i := 0) picD hn0) ?_
    walk_at "dv"
    refine ⟨rfl, ?_⟩
    rw [List.length_map, List.length_map, pp.hi zs hz, pp.hi _ (pAt_mem hn0)]
    simp
  walk_at "dv"
  refine (opc_allM ?_).op
  rw [show (pss.all fun _ => true) = true by simp]
  exact q
/-- the first of the pairs that T holds of -/
def Before (a b : Nat × Nat) : Prop := a.1 < b.1 ∨ (a.1 = b.1 ∧ a.2 < b.2)
def FirstOf (n : Nat) (T : Nat → Nat → Prop) : Option (Nat × Nat) → Prop
  | none => ∀ i j, i < j → j < n → ¬ T i j
  | some (i, j) => i < j ∧ j < n ∧ T i j ∧ ∀ i' j', i' < j' → j' < n → Before (i', j') (i, j) → ¬ T i' j'
theorem first_unique {n : Nat} {T : Nat → Nat → Prop} : ∀ {a b : Option (Nat × Nat)}, FirstOf n T a → FirstOf n T b → a = b
  | none, none, _, _ => rfl
  | none, some (i, j), h, ⟨h1, h2, h3, _⟩ => absurd h3 (h i j h1 h2)
  | some (i, j), none, ⟨h1, h2, h3, _⟩, h => absurd h3 (h i j h1 h2)
  | some (i, j), some (k, l), ⟨a1, a2, a3, a4⟩, ⟨b1, b2, b3, b4⟩ => by
    have h1 : ¬ Before (i, j) (k, l) := fun h => b4 i j a1 a2 h a3
    have h2 : ¬ Before (k, l) (i, j) := fun h => a4 k l b1 b2 h b3
    unfold Before at h1 h2
    simp only at h1 h2
    have : i = k ∧ j = l := by omega
    rw [this.1, this.2]
/-- two pictures that are apart, but not far -/
def Near (pss : List (List Str)) (budget : Nat) (i j : Nat) : Prop := 0 < farN (pAt pss i) (pAt pss j) ∧ farN (pAt pss i) (pAt pss j) ≤ budget
abbrev maskL (zs : List Str) : PyData := .list (zs.map maskD)
def pre_told_apart (ds : List PyData) (φ : PyData → Prop) : Prop := ∃ (h : Nat) (pss : List (List Str)) (s b : Nat), ds = [.list (pss.map picD), .int s, .int b] ∧ Pics h pss ∧
  ((∀ i j, i < j → j < pss.length → ¬ Near pss (2 * s + b) i j) → φ .none) ∧
  (∀ i j, FirstOf pss.length (Near pss (2 * s + b)) (some (i, j)) → φ (.tuple [.int (i : Int), .int (j : Int), .list ((halfR (pAt pss i) (pAt pss j) b).map .str)]))
theorem len_told_apart : ∀ ds φ, pre_told_apart ds φ → ds.length = 3 := by rintro _ φ ⟨h, pss, s, b, rfl, _⟩; rfl
theorem enum_at {pss : List (List Str)} {g : List Str → PyData} {i : Nat} {d : PyData} (h : (enumd (pss.map g))[i]? = some d) : i < pss.length ∧ d = .tuple [.int (i : Int), g (pAt pss i)] := by
  rw [enumd_map, List.getElem?_map, List.getElem?_zipIdx] at h
  by_cases hi : i < pss.length
  · rw [List.getElem?_eq_getElem hi] at h
    obtain rfl := (Option.some.inj h).symm
    refine ⟨hi, ?_⟩
    unfold pAt
    rw [List.getD_eq_getElem?_getD, List.getElem?_eq_getElem hi]
    simp
  · rw [List.getElem?_eq_none (by omega)] at h
    cases h
theorem ok_told_apart (T : Txt P K mg) : FnG P w K mg base (L2.CX P w) 4 T.a_told_apart T.d_told_apart ["pictures", "spoilt", "blots"] (SpO pre_told_apart) := by
  refine FnG.okX T.F_told_apart sc_told_apart (spo_len len_told_apart) (fun cdv A outer s H vs Q E hr hg h => ?_)
  refine ⟨_, (pss_cons (ps_if (pt_not (k_tru (K := K) rfl (pe_cg (ok_are_pictures (P := P) (w := w) (base := base) T) (by exact hr.mono (by first | decide | omega)) (by exact hg) (by rfl) T.g_are_pictures T.F_are_pictures.kp (b_are_pictures T.F_are_pictures) .nil pass0 (pa_cons (pv 0) pa_nil)) (by intro _; rfl))) (pss_one (ps_raiseV T.X_InvalidPictures rfl (takes_of rfl rfl rfl rfl) (by exact hr.mono (by first | decide | omega)) (by rfl) (pa_cons (pv 0) pa_nil))) pss_nil)
      (pss_cons (ps_expr (pe_cg (ok_look_at_count (P := P) (w := w) (base := base) T) (by exact hr.mono (by first | decide | omega)) (by exact hg) (by rfl) T.g_look_at_count T.F_look_at_count.kp (bd_look_at_count_1 T.F_look_at_count) (.cons (show L2.RelV V.non Value.none from rfl) .nil) passF (pa_cons (pv 1) pa_nil)))
      (pss_cons (ps_expr (pe_cg (ok_look_at_count (P := P) (w := w) (base := base) T) (by exact hr.mono (by first | decide | omega)) (by exact hg) (by rfl) T.g_look_at_count T.F_look_at_count.kp (bd_look_at_count_1 T.F_look_at_count) (.cons (show L2.RelV V.non Value.none from rfl) .nil) passF (pa_cons (pv 2) pa_nil)))
      (pss_cons (ps_setLc (i := 3) (own := [("picture", 7)]) (by rfl) sc_told_apart.nd rfl rfl (sw_true rfl rfl rfl (by decide +kernel)) (k_plist (K := K) rfl (pv 0)) (blkOk_by (own := [("picture", 7)]) (N := nm_told_apart) (by rfl)) (fun _ _ _ _ _ => (pg_name (i := 7) sc_told_apart.nd rfl (by first | exact Or.inl rfl | exact Or.inr rfl))) (fun _ _ _ _ _ => pts_nil) (fun _ _ _ _ _ => (pe_cg (ok_masks_of (P := P) (w := w) (base := base) T) (by exact hr.mono (by first | decide | omega)) (by exact hg) (by rfl) T.g_masks_of T.F_masks_of.kp (b_masks_of T.F_masks_of) .nil pass0 (pa_cons (pv 7) pa_nil))))
      (pss_cons (ps_for (passes_of rfl) rfl (k_penum (K := K) rfl (by rfl) T.z_enumerate (pa_cons (pv 3) pa_nil)) (k_tup (K := K) (n := 2) rfl rfl (pgs_cons (pg_name (i := 4) sc_told_apart.nd rfl (by first | exact Or.inl rfl | exact Or.inr rfl)) (pgs_cons (pg_name (i := 5) sc_told_apart.nd rfl (by first | exact Or.inl rfl | exact Or.inr rfl)) pgs_nil))) (pss_one (ps_for (passes_of rfl) rfl (pi_r2 rfl T.z_range (pa_cons (pe_op (k_add (K := K) rfl) (pv 4) pe_int) (pa_cons (pe_callB (k_len (K := K) rfl) (by rfl) T.z_len (by decide +kernel) (pa_cons (pv 3) pa_nil)) pa_nil))) (pg_name (i := 6) sc_told_apart.nd rfl (by first | exact Or.inl rfl | exact Or.inr rfl)) (pss_one (ps_if (pt_chain op_lt op_le pe_int (pe_cg (ok_count_of (P := P) (w := w) (base := base) T) (by exact hr.mono (by first | decide | omega)) (by exact hg) (by rfl) T.g_count_of T.F_count_of.kp (b_count_of T.F_count_of) .nil pass0 (pa_cons (pe_cg (ok_unlike_of (P := P) (w := w) (base := base) T) (by exact hr.mono (by first | decide | omega)) (by exact hg) (by rfl) T.g_unlike_of T.F_unlike_of.kp (b_unlike_of T.F_unlike_of) .nil pass0 (pa_cons (pv 5) (pa_cons (pe_ix (k_ix (K := K) rfl) (pv 3) (pv 6) (fun _ _ => rfl)) pa_nil))) pa_nil)) (pe_op (k_add (K := K) rfl) (pe_op op_mulU pe_int (pv 1)) (pv 2))) (pss_one (ps_ret (pe_tup (pa_cons (pv 4) (pa_cons (pv 6) (pa_cons (pe_cg (ok_halved (P := P) (w := w) (base := base) T) (by exact hr.mono (by first | decide | omega)) (by exact hg) (by rfl) T.g_halved T.F_halved.kp (b_halved T.F_halved) .nil pass0 (pa_cons (pe_ix (k_ix (K := K) rfl) (pv 0) (pv 4) (fun _ _ => rfl)) (pa_cons (pe_ix (k_ix (K := K) rfl) (pv 0) (pv 6) (fun _ _ => rfl)) (pa_cons (pv 1) (pa_cons (pv 2) pa_nil))))) pa_nil)))))) pss_nil)))))
      (pss_one (ps_ret pe_non))))))), fn_own (by decide) len_told_apart (fun F G0 ds φ hp => ?_) h⟩
  obtain ⟨h, pss, s, b, rfl, pp, q1, q2⟩ := hp
  have hn1 := pp.n1
  refine o_seq (q_if ?_)
  walk_at "dv"
  refine ⟨h, pss, rfl, pp, ?_⟩
  refine tru_b (nb_t (q_nx ?_))
  refine o_seq (q_drop ?_)
  walk_at "dv"
  refine ⟨s, rfl, ?_⟩
  refine o_seq (q_drop ?_)
  walk_at "dv"
  refine ⟨b, rfl, ?_⟩
  refine o_seq (q_set ?_)
  refine we_new (wn_lcM (α := List Str) (js := [7]) (by decide) (wi_list ?_))
  walk_at "dv"
  refine ⟨pss, picD, rfl, by omega, rfl, maskL, fun zs hz => ?_, ?_⟩
  · refine wg_name ⟨rfl, ?_⟩
    walk_at "dv"
    exact ⟨zs, rfl, (pp.pic zs hz).blo, rfl, rfl⟩
  refine o_seqP (p_for (js := [4, 5]) (wi_enum ?_))
  walk_at "dv"
  refine ⟨fun k ρ => (∀ i j, i < k → i < j → j < pss.length → ¬ Near pss (2 * s + b) i j) ∧ ∃ s4 s5 s6, ρ = [.val (.list (pss.map picD)), .val (.int s), .val (.int b), .val (.list (pss.map maskL)), s4, s5, s6, .any], ⟨fun i j h => absurd h (by omega), _, _, _, rfl⟩, ?_, ?_⟩
  · rintro i d _ hd ⟨hno, s4, s5, s6, rfl⟩
    obtain ⟨hi, rfl⟩ := enum_at hd
    refine wg_tup rfl (wgs_cons (wg_name (wgs_cons (wg_name (wgs_nil ?_)))))
    refine p_for (js := [6]) (wi_r2 ?_)
    walk_at "dv"
    rw [List.length_map]
    refine ⟨_, _, rfl, ?_⟩
    rw [show ((pss.length : Int) - ((i : Int) + 1)).toNat = pss.length - (i + 1) by omega]
    refine ⟨fun k ρ => (∀ j, i < j → j < i + 1 + k → ¬ Near pss (2 * s + b) i j) ∧ ∃ s6, ρ = [.val (.list (pss.map picD)), .val (.int s), .val (.int b), .val (.list (pss.map maskL)), .val (.int i), .val (maskL (pAt pss i)), s6, .any], ⟨fun j h1 h2 => absurd h2 (by omega), _, rfl⟩, ?_, ?_⟩
    · rintro k d _ hd ⟨hno2, s6, rfl⟩
      obtain ⟨hk, rfl⟩ := inz_get hd
      have hj : i + 1 + k < pss.length := by omega
      have pi := pp.pic _ (pAt_mem hi)
      have pj := pp.pic _ (pAt_mem hj)
      have li := pp.hi _ (pAt_mem hi)
      have lj := pp.hi _ (pAt_mem hj)
      have ej : (i : Int) + 1 + (k : Int) = ((i + 1 + k : Nat) : Int) := by omega
      rw [ej]
      refine wg_name (p_if (wt_test ?_))
      walk_at "dv"
      refine op2_ixL (pAt_at maskL hj) ?_
      walk_at "dv"
      refine ⟨pAt pss i, pAt pss (i + 1 + k), rfl, by have := pi.high; omega, ?_⟩
      walk_at "dv"
      refine ⟨((pAt pss i).zip (pAt pss (i + 1 + k))).map fun p => unl p.1 p.2, by rw [List.map_map]; rfl, by have := pi.high; rw [List.length_map, List.length_zip]; omega, fun n hn => ?_, ?_⟩
      · obtain ⟨p, _, rfl⟩ := List.mem_map.mp hn
        exact unl_len _ _
      have e : ((((pAt pss i).zip (pAt pss (i + 1 + k))).map fun p => unl p.1 p.2).map popc).sum = farN (pAt pss i) (pAt pss (i + 1 + k)) := by
        rw [← dist_far pi.blo pj.blo (by omega)]
        unfold distN
        rw [List.map_map]
        exact congrArg List.sum (List.map_congr_left fun p _ => popc_unl p.1 p.2)
      rw [e]
      have ed : decide ((0 : Int) < ((farN (pAt pss i) (pAt pss (i + 1 + k)) : Nat) : Int)) = decide (0 < farN (pAt pss i) (pAt pss (i + 1 + k))) := decide_eq_decide.mpr (by omega)
      have ed2 : decide (((farN (pAt pss i) (pAt pss (i + 1 + k)) : Nat) : Int) ≤ 2 * (s : Int) + (b : Int)) = decide (farN (pAt pss i) (pAt pss (i + 1 + k)) ≤ 2 * s + b) := decide_eq_decide.mpr (by omega)
      have other : ¬ Near pss (2 * s + b) i (i + 1 + k) → ∀ j, i < j → j < i + 1 + (k + 1) → ¬ Near pss (2 * s + b) i j := fun hn j h1 h2 => by
        by_cases h3 : j < i + 1 + k
        · exact hno2 j h1 h3
        · have : j = i + 1 + k := by omega
          rw [this]
          exact hn
      refine opf2_B0 ⟨_, rfl, fun h1 => ?_, fun h1 => ?_⟩
      · rw [ed] at h1
        have h1' := of_decide_eq_true h1
        walk_at "dv"
        refine ⟨fun h2 => ?_, fun h2 => ?_⟩
        · rw [ed2] at h2
          have h2' := of_decide_eq_true h2
          have hN : Near pss (2 * s + b) i (i + 1 + k) := ⟨h1', h2'⟩
          have q3 := q2 i (i + 1 + k) ⟨by omega, hj, hN, fun i' j' g1 g2 g3 => by
            rcases g3 with g3 | ⟨g3, g4⟩
            · exact hno i' j' g3 g1 g2
            · have g3 : i' = i := g3
              subst g3
              exact hno2 j' g1 g4⟩
          refine p_ret (wr_tup (wra_cons (wr_nl (we_var rfl ⟨rfl, wra_cons (wr_nl (we_var rfl ⟨rfl, wra_cons (wr_call ?_)⟩))⟩))))
          walk_at "dv"
          refine op2_ixL (pAt_at picD hi) ?_
          walk_at "dv"
          refine op2_ixL (pAt_at picD hj) ?_
          walk_at "dv"
          exact ⟨_, _, s, b, rfl, pi, pj, by omega, fun h => absurd h (by have := hN.2; omega), fun _ => wra_nil ⟨by simp, q3⟩⟩
        · rw [ed2] at h2
          have h2' := of_decide_eq_false h2
          exact p_nx ⟨other fun z => h2' z.2, _, rfl⟩
      · rw [ed] at h1
        have h1' := of_decide_eq_false h1
        refine ⟨_, rfl, fun z => (nomatch z), fun _ => ?_⟩
        exact p_nx ⟨other fun z => h1' z.1, _, rfl⟩
    · rintro _ ⟨hno2, s6, rfl⟩
      rw [inz_len] at hno2
      refine ⟨fun i' j h1 h2 h3 => ?_, _, _, _, rfl⟩
      by_cases h4 : i' < i
      · exact hno i' j h4 h2 h3
      · have : i' = i := by omega
        subst this
        exact hno2 j h2 (by omega)
  · rintro _ ⟨hno, s4, s5, s6, rfl⟩
    have hl : (enumd (pss.map maskL)).length = pss.length := by rw [enumd_map, List.length_map, List.length_zipIdx]
    rw [hl] at hno
    refine o_ret (wr_nl (we_non ⟨rfl, q1 fun i j h1 h2 => hno i j (by omega) h1 h2⟩))
/-- the nearest and their places -/
def leastL : List Nat → Nat
  | [] => 0
  | [x] => x
  | x :: y :: xs => min x (leastL (y :: xs))
theorem leastL_le : ∀ {l : List Nat} {x : Nat}, x ∈ l → leastL l ≤ x
  | [y], x, h => by
    rw [List.mem_singleton.mp h]
    exact Nat.le_refl _
  | y :: z :: l, x, h => by
    rcases List.mem_cons.mp h with rfl | h
    · exact Nat.min_le_left _ _
    · exact Nat.le_trans (Nat.min_le_right _ _) (leastL_le h)
theorem leastL_mem : ∀ {l : List Nat}, 0 < l.length → leastL l ∈ l
  | [y], _ => by simp [leastL]
  | y :: z :: l, _ => by
    have := leastL_mem (l := z :: l) (by simp)
    show min y (leastL (z :: l)) ∈ _
    rcases Nat.le_total y (leastL (z :: l)) with h | h
    · rw [Nat.min_eq_left h]; simp
    · rw [Nat.min_eq_right h]; exact List.mem_cons_of_mem _ this
def farsL (pss : List (List Str)) (ys : List Str) : List Nat := pss.map fun zs => farN zs ys
def placesL (pss : List (List Str)) (ys : List Str) : List Nat := (List.range pss.length).filter fun i => farN (pAt pss i) ys == leastL (farsL pss ys)
def nearD (pss : List (List Str)) (ys : List Str) : PyData := .tuple [.int (leastL (farsL pss ys) : Nat), .list ((placesL pss ys).map fun (i : Nat) => .int (i : Int))]
theorem least_int {ns : List Nat} {m : Int} (h1 : m ∈ ns.map fun (n : Nat) => (n : Int)) (h2 : ∀ y ∈ ns.map fun (n : Nat) => (n : Int), m ≤ y) : m = ((leastL ns : Nat) : Int) := by
  obtain ⟨n, hn, rfl⟩ := List.mem_map.mp h1
  have h3 := leastL_le hn
  have h4 := h2 _ (List.mem_map.mpr ⟨_, leastL_mem (List.length_pos_of_mem hn), rfl⟩)
  omega
theorem ints_map {α : Type} (f : α → Nat) (xs : List α) : (xs.map fun a => PyData.int ((f a : Nat) : Int)) = ((xs.map f).map fun (n : Nat) => (n : Int)).map .int := by
  rw [List.map_map, List.map_map]
  rfl
def pre_nearest_of (ds : List PyData) (φ : PyData → Prop) : Prop := ∃ (h : Nat) (pss : List (List Str)) (ys : List Str), ds = [.list (pss.map picD), .list (ys.map .str)] ∧ Pics h pss ∧ Blo ys ∧ ys.length = h ∧ φ (nearD pss ys)
theorem len_nearest_of : ∀ ds φ, pre_nearest_of ds φ → ds.length = 2 := by rintro _ φ ⟨h, pss, ys, rfl, _⟩; rfl
theorem ok_nearest_of (T : Txt P K mg) : FnG P w K mg base (L2.CX P w) 4 T.a_nearest_of T.d_nearest_of ["pictures", "blotted"] (SpO pre_nearest_of) := by
  refine FnG.okX T.F_nearest_of sc_nearest_of (spo_len len_nearest_of) (fun cdv A outer s H vs Q E hr hg h => ?_)
  refine ⟨_, (pss_cons (ps_if (pt_not (k_tru (K := K) rfl (pe_cg (ok_are_pictures (P := P) (w := w) (base := base) T) (by exact hr.mono (by first | decide | omega)) (by exact hg) (by rfl) T.g_are_pictures T.F_are_pictures.kp (b_are_pictures T.F_are_pictures) .nil pass0 (pa_cons (pv 0) pa_nil)) (by intro _; rfl))) (pss_one (ps_raiseV T.X_InvalidPictures rfl (takes_of rfl rfl rfl rfl) (by exact hr.mono (by first | decide | omega)) (by rfl) (pa_cons (pv 0) pa_nil))) pss_nil)
      (pss_cons (ps_expr (pe_cg (ok_look_beside (P := P) (w := w) (base := base) T) (by exact hr.mono (by first | decide | omega)) (by exact hg) (by rfl) T.g_look_beside T.F_look_beside.kp (b_look_beside T.F_look_beside) .nil passF (pa_cons (pe_ix (k_ix (K := K) rfl) (pv 0) pe_int (fun _ _ => rfl)) (pa_cons (pv 1) pa_nil))))
      (pss_cons (ps_set (i := 2) sc_nearest_of.nd rfl (by first | exact Or.inl rfl | exact Or.inr rfl) (pe_lc (own := [("picture", 3)]) rfl sc_nearest_of.nd (k_plist (K := K) rfl (pv 0)) (blkOk_by (own := [("picture", 3)]) (N := nm_nearest_of) (by rfl)) (fun _ _ _ _ _ => (pg_name (i := 3) sc_nearest_of.nd rfl (by first | exact Or.inl rfl | exact Or.inr rfl))) (fun _ _ _ _ _ => pts_nil) (fun _ _ _ _ _ => (pe_cg (ok_distance_of (P := P) (w := w) (base := base) T) (by exact hr.mono (by first | decide | omega)) (by exact hg) (by rfl) T.g_distance_of T.F_distance_of.kp (b_distance_of T.F_distance_of) .nil pass0 (pa_cons (pv 3) (pa_cons (pv 1) pa_nil))))))
      (pss_one (ps_ret (pe_tup (pa_cons (pe_callB (k_min (K := K) rfl rfl) (by rfl) T.z_min (by decide +kernel) (pa_cons (pv 2) pa_nil)) (pa_cons (pe_lc (own := [("i", 4), ("far", 5)]) rfl sc_nearest_of.nd (k_penum (K := K) rfl (by rfl) T.z_enumerate (pa_cons (pv 2) pa_nil)) (blkOk_by (own := [("i", 4), ("far", 5)]) (N := nm_nearest_of) (by rfl)) (fun _ _ _ _ _ => (k_tup (K := K) (n := 2) rfl rfl (pgs_cons (pg_name (i := 4) sc_nearest_of.nd rfl (by first | exact Or.inl rfl | exact Or.inr rfl)) (pgs_cons (pg_name (i := 5) sc_nearest_of.nd rfl (by first | exact Or.inl rfl | exact Or.inr rfl)) pgs_nil)))) (fun _ _ _ _ _ => (pts_one (pt_cmpR (k_eq (K := K) rfl (by exact hr.units)) (pv 5) (pe_callB (k_min (K := K) rfl rfl) (by rfl) T.z_min (by decide +kernel) (pa_cons (pv 2) pa_nil)) (nomark _)))) (fun _ _ _ _ _ => (pv 4))) pa_nil)))))))), fn_own (by decide) len_nearest_of (fun F G0 ds φ hp => ?_) h⟩
  obtain ⟨h, pss, ys, rfl, pp, py, hy, q⟩ := hp
  have hn0 := pp.n0
  have hn1 := pp.n1
  refine o_seq (q_if ?_)
  walk_at "dv"
  refine ⟨h, pss, rfl, pp, ?_⟩
  refine tru_b (nb_t (q_nx ?_))
  refine o_seq (q_drop ?_)
  walk_at "dv"
  refine op2_ixL (pAt_at (i := 0) picD hn0) ?_
  walk_at "dv"
  refine ⟨_, ys, rfl, py, by rw [pp.hi _ (pAt_mem hn0), hy], ?_⟩
  refine o_seq (q_set ?_)
  refine we_new (wn_lcM (α := List Str) (js := [3]) (by decide) (wi_list ?_))
  walk_at "dv"
  refine ⟨pss, picD, rfl, by omega, rfl, fun zs => .int ((farN zs ys : Nat) : Int), fun zs hz => ?_, ?_⟩
  · have pz := pp.pic zs hz
    refine wg_name ⟨rfl, ?_⟩
    walk_at "dv"
    refine ⟨zs, ys, rfl, pz.blo, py, rfl, ?_⟩
    rw [dist_far pz.blo py (by rw [pp.hi zs hz, hy])]
  rw [ints_map (fun zs => farN zs ys) pss]
  have hlen : (farsL pss ys).length = pss.length := by unfold farsL; rw [List.length_map]
  have hmin : ∀ {φ : PyData → Prop}, φ (.int ((leastL (farsL pss ys) : Nat) : Int)) → OpFC (rMin K) [.list (((pss.map fun zs => farN zs ys).map fun (n : Nat) => (n : Int)).map .int)] φ := fun {φ} k => opc_min (by rw [List.length_map]; show 0 < (farsL pss ys).length; omega) fun m h1 h2 => by
    rw [least_int h1 h2]
    exact k
  refine o_ret (wr_tup (wra_cons (wr_nl ?_)))
  walk_at "dv"
  refine (hmin ⟨rfl, ?_⟩).op
  refine wra_cons (wr_new (wn_lcT (α := Nat) (js := [4, 5]) (by decide) (wi_enum ?_)))
  walk_at "dv"
  refine ⟨List.range pss.length, fun i => .tuple [.int (i : Int), .int ((farN (pAt pss i) ys : Nat) : Int)], ?_, by rw [List.length_range]; omega, rfl, fun i => farN (pAt pss i) ys == leastL (farsL pss ys), fun i => .int (i : Int), fun i hi => ?_, ?_⟩
  · apply List.ext_getElem?
    intro i
    rw [← ints_map (fun zs => farN zs ys) pss]
    by_cases hi : i < pss.length
    · have hg : i < (enumd (pss.map fun zs => PyData.int ((farN zs ys : Nat) : Int))).length := by rw [enumd_map, List.length_map, List.length_zipIdx]; exact hi
      have he := enum_at (List.getElem?_eq_getElem hg)
      rw [List.getElem?_eq_getElem hg, he.2, List.getElem?_map, List.getElem?_range hi]
      rfl
    · rw [List.getElem?_eq_none (by rw [enumd_map, List.length_map, List.length_zipIdx]; omega), List.getElem?_eq_none (by simp; omega)]
  · refine wg_tup rfl (wgs_cons (wg_name (wgs_cons (wg_name (wgs_nil ⟨rfl, ?_⟩)))))
    walk_at "dv"
    refine (hmin ?_).op
    walk_at "dv"
    refine ⟨rfl, ?_, fun _ => ?_⟩
    · by_cases e : farN (pAt pss i) ys = leastL (farsL pss ys)
      · rw [e]
        simp
      · rw [beq_eq_false_iff_ne.mpr e, beq_eq_false_iff_ne.mpr (by omega)]
    · walk_at "dv"
      exact ⟨rfl, rfl⟩
  refine ⟨?_, wra_nil ⟨by simp, q⟩⟩
  rw [nlA_all, List.all_map]
  exact List.all_eq_true.mpr fun i _ => rfl
end

section
variable {P : Program} {w : World} {K : PySem.W.Frag} {mg : Str → Option Value} {base : Heap}

def pre2__law_pick (m : Nat) (xs : List PyData) (φ : Nat → PyData → Prop) : Prop := 0 < xs.length ∧ xs.length < 2 ^ 29 ∧ m < 2 ^ 40 ∧ ∀ x ∈ xs, φ (m + 1) x
theorem ok2__law_pick (T : Txt P K mg) : FnG P w K mg base CX0 2 T.a__law_pick T.d__law_pick ["purse", "things"] (SpZR PZ pre2__law_pick) := by
  refine FnG.ok0 T.F__law_pick sc__law_pick spzr_len (fun cdv A outer s H vs Q E hr hg h => ?_)
  refine ⟨_, (pss_one (ps_ret (pe_ix (k_ix (K := K) rfl) (pv 1) (pe_cg (ok__law_draw (P := P) (w := w) (base := base) T) (by exact hr.mono (by first | decide | omega)) (by exact hg) (by rfl) T.g__law_draw T.F__law_draw.kp (b__law_draw T.F__law_draw) .nil pass0 (pa_cons (pv 0) (pa_cons (pe_callB (k_len (K := K) rfl) (by rfl) T.z_len (by decide +kernel) (pa_cons (pv 1) pa_nil)) pa_nil))) (fun _ _ => rfl)))), fn_zR (by decide) (fun F G0 p a us m xs φ hp => ?_) h⟩
  obtain ⟨h0, h1, h2, q⟩ := hp
  refine q_ret (we_ixV (i := 1) rfl (we_callZ rfl (wa_cons (we_lenV (i := 1) rfl (wa_nil ⟨_, rfl, xs.length, rfl, h0, h1, h2, fun r hr => ?_⟩)))))
  exact ⟨_, _, rfl, rfl, atI_nat hr, _, rfl, rfl, q _ (List.getElem_mem hr)⟩
theorem pic_more {zs : List Str} (p : Pic zs) (h : wideOf zs ≤ 300) : Pic (zs.map fun z => z ++ Str.ofString "..") ∧ wideOf (zs.map fun z => z ++ Str.ofString "..") ≤ wideOf zs + 2 := by
  have := mkPic (zs := zs.map fun z => z ++ Str.ofString "..") (wd := wideOf zs + 2) (by rw [List.length_map]; exact p.high) (by omega) fun y hy => by
    obtain ⟨z, hz, rfl⟩ := List.mem_map.mp hy
    refine ⟨?_, fun c hc => ?_⟩
    · rw [len_tl, tl_append, List.length_append, ← len_tl, p.rows z hz]
      rfl
    · rw [tl_append] at hc
      rcases List.mem_append.mp hc with h | h
      · exact p.dots z hz c h
      · have : ∀ c ∈ tl (Str.ofString ".."), c = 46 ∨ c = 35 := by decide +kernel
        exact this c h
  exact ⟨this.1, this.2.1⟩
def pre__law_list (m : Nat) (ds : List PyData) (φ : Nat → PyData → Prop) : Prop := ∃ most : Nat, ds = [.int most] ∧ 0 < most ∧ most ≤ 60 ∧ m + 4000000 ≤ 2 ^ 40 ∧ ∀ (m' h : Nat) (pss : List (List Str)), m' ≤ m + 4000000 → 0 < h → h ≤ 6 → Pics h pss → φ m' (.list (pss.map picD))
theorem len__law_list : ∀ m ds φ, pre__law_list m ds φ → ds.length = 1 := by rintro m _ φ ⟨b, rfl, _⟩; rfl
theorem ok__law_list (T : Txt P K mg) : FnG P w K mg base CX0 4 T.a__law_list T.d__law_list ["purse", "most"] (SpZ PZ pre__law_list) := by
  refine FnG.ok0 T.F__law_list sc__law_list (spz_len len__law_list) (fun cdv A outer s H vs Q E hr hg h => ?_)
  refine ⟨_, (pss_cons (ps_set (i := 2) sc__law_list.nd rfl (by first | exact Or.inl rfl | exact Or.inr rfl) (pe_op (k_add (K := K) rfl) pe_int (pe_cg (ok__law_draw (P := P) (w := w) (base := base) T) (by exact hr.mono (by first | decide | omega)) (by exact hg) (by rfl) T.g__law_draw T.F__law_draw.kp (b__law_draw T.F__law_draw) .nil pass0 (pa_cons (pv 0) (pa_cons pe_int pa_nil)))))
      (pss_cons (ps_set (i := 3) sc__law_list.nd rfl (by first | exact Or.inl rfl | exact Or.inr rfl) (pe_lst (pa_cons (pe_cg (ok__law_rows (P := P) (w := w) (base := base) T) (by exact hr.mono (by first | decide | omega)) (by exact hg) (by rfl) T.g__law_rows T.F__law_rows.kp (b__law_rows T.F__law_rows) .nil pass0 (pa_cons (pv 0) (pa_cons (pe_op (k_add (K := K) rfl) pe_int (pe_cg (ok__law_draw (P := P) (w := w) (base := base) T) (by exact hr.mono (by first | decide | omega)) (by exact hg) (by rfl) T.g__law_draw T.F__law_draw.kp (b__law_draw T.F__law_draw) .nil pass0 (pa_cons (pv 0) (pa_cons pe_int pa_nil)))) (pa_cons (pv 2) (pa_cons pe_bl pa_nil))))) pa_nil)))
      (pss_cons (ps_for PassesOwn.never rfl (pi_r1 rfl T.z_range (pa_cons (pe_cg (ok__law_draw (P := P) (w := w) (base := base) T) (by exact hr.mono (by first | decide | omega)) (by exact hg) (by rfl) T.g__law_draw T.F__law_draw.kp (b__law_draw T.F__law_draw) .nil pass0 (pa_cons (pv 0) (pa_cons (pv 1) pa_nil))) pa_nil)) (pg_name (i := 4) sc__law_list.nd rfl (by first | exact Or.inl rfl | exact Or.inr rfl)) (pss_cons (ps_par (i := 5) (j := 6) rfl sc__law_list.nd rfl rfl (by decide) rfl rfl (pa_cons (pe_cg (ok__law_draw (P := P) (w := w) (base := base) T) (by exact hr.mono (by first | decide | omega)) (by exact hg) (by rfl) T.g__law_draw T.F__law_draw.kp (b__law_draw T.F__law_draw) .nil pass0 (pa_cons (pv 0) (pa_cons pe_int pa_nil))) (pa_cons (pe_cg (ok2__law_pick (P := P) (w := w) (base := base) T) (by exact hr.mono (by first | decide | omega)) (by exact hg) (by rfl) T.g__law_pick T.F__law_pick.kp (b__law_pick T.F__law_pick) .nil pass0 (pa_cons (pv 0) (pa_cons (pv 3) pa_nil))) pa_nil)) (by rfl))
      (pss_one (ps_if (pt_cmpR op_lt (pv 5) pe_int (nomark _)) (pss_one (ps_expr (k_append (K := K) rfl (pv 3) (pa_cons (pe_cg (ok__law_rows (P := P) (w := w) (base := base) T) (by exact hr.mono (by first | decide | omega)) (by exact hg) (by rfl) T.g__law_rows T.F__law_rows.kp (b__law_rows T.F__law_rows) .nil pass0 (pa_cons (pv 0) (pa_cons (pe_op (k_add (K := K) rfl) pe_int (pe_cg (ok__law_draw (P := P) (w := w) (base := base) T) (by exact hr.mono (by first | decide | omega)) (by exact hg) (by rfl) T.g__law_draw T.F__law_draw.kp (b__law_draw T.F__law_draw) .nil pass0 (pa_cons (pv 0) (pa_cons pe_int pa_nil)))) (pa_cons (pv 2) (pa_cons pe_bl pa_nil))))) pa_nil)))) (pss_one (ps_if (pt_cmpR op_lt (pv 5) pe_int (nomark _)) (pss_one (ps_expr (k_append (K := K) rfl (pv 3) (pa_cons (pe_cg (ok__law_spoilt_rows (P := P) (w := w) (base := base) T) (by exact hr.mono (by first | decide | omega)) (by exact hg) (by rfl) T.g__law_spoilt_rows T.F__law_spoilt_rows.kp (b__law_spoilt_rows T.F__law_spoilt_rows) .nil pass0 (pa_cons (pv 0) (pa_cons (pv 6) (pa_cons (pe_op (k_add (K := K) rfl) pe_int (pe_cg (ok__law_draw (P := P) (w := w) (base := base) T) (by exact hr.mono (by first | decide | omega)) (by exact hg) (by rfl) T.g__law_draw T.F__law_draw.kp (b__law_draw T.F__law_draw) .nil pass0 (pa_cons (pv 0) (pa_cons pe_int pa_nil)))) (pa_cons pe_bl pa_nil))))) pa_nil)))) (pss_one (ps_expr (k_append (K := K) rfl (pv 3) (pa_cons (pe_lc (own := [("row", 7)]) rfl sc__law_list.nd (k_plist (K := K) rfl (pv 6)) (blkOk_by (own := [("row", 7)]) (N := nm__law_list) (by rfl)) (fun _ _ _ _ _ => (pg_name (i := 7) sc__law_list.nd rfl (by first | exact Or.inl rfl | exact Or.inr rfl))) (fun _ _ _ _ _ => pts_nil) (fun _ _ _ _ _ => (pe_op (k_add (K := K) rfl) (pv 7) pe_str))) pa_nil))))))))))
      (pss_one (ps_ret (pv 3)))))), fn_z (by decide) len__law_list (fun F G0 p m ds φ hp => ?_) h⟩
  obtain ⟨most, rfl, hm0, hm1, hm, q⟩ := hp
  refine q_seq (q_set ?_)
  walk_at "dv"
  refine ⟨6, rfl, by decide, by decide, by omega, fun r1 hr1 => op2_addI ?_⟩
  have eh : (1 : Int) + (r1 : Int) = ((1 + r1 : Nat) : Int) := by omega
  rw [eh]
  generalize hH : 1 + r1 = high
  have hh1 : high ≤ 6 := by omega
  have hh0 : 0 < high := by omega
  refine q_seq (q_setN (wn_lst ?_))
  walk_at "dv"
  refine ⟨9, rfl, by decide, by decide, by omega, fun r2 hr2 => ?_⟩
  walk_at "dv"
  refine ⟨1 + r2, high, by rw [Int.natCast_add]; rfl, by omega, by omega, by omega, fun m2 zs hm2 hzl pz hwz => ?_⟩
  refine wa_nil ⟨by simp, fun p2 => ?_⟩
  refine q_seq (q_for (js := [4]) (wi_r1 ?_))
  walk_at "dv"
  refine ⟨most, rfl, by omega, by omega, by omega, fun n hn => ?_⟩
  have en : (n : Int).toNat = n := by simp
  refine wa_nil ⟨n, rfl, fun i ρ => ∃ (m' : Nat) (pss : List (List Str)) (s4 s5 s6 : Slot), m' ≤ m + 40010 + i * 41000 ∧ pss.length = i + 1 ∧ (∀ zs ∈ pss, Pic zs ∧ zs.length = high ∧ wideOf zs ≤ 10 + 2 * i) ∧ ρ = [.res (lstP p (PZ m')), .val (.int most), .val (.int high), .res (lst p2 (pss.map picD)), s4, s5, s6, .any], ⟨m2 + 1, [zs], _, _, _, by omega, rfl, fun ys hy => by rw [List.mem_singleton.mp hy]; exact ⟨pz, hzl, by omega⟩, rfl⟩, ?_, ?_⟩
  · rintro i d _ hd ⟨m', pss, s4, s5, s6, hm', hpl, hps, rfl⟩
    obtain ⟨hi, rfl⟩ := inz_get hd
    rw [en] at hi
    have more : ∀ ys, Pic ys → ys.length = high → wideOf ys ≤ 10 + 2 * (i + 1) → ∀ zs ∈ pss ++ [ys], Pic zs ∧ zs.length = high ∧ wideOf zs ≤ 10 + 2 * (i + 1) := fun ys h1 h2 h3 zs hz => by
      rcases List.mem_append.mp hz with h | h
      · obtain ⟨a, b, c⟩ := hps zs h
        exact ⟨a, b, by omega⟩
      · rw [List.mem_singleton.mp h]
        exact ⟨h1, h2, h3⟩
    refine wg_name ?_
    refine q_seq (q_par ?_)
    walk_at "dv"
    refine ⟨5, rfl, by decide, by decide, by omega, fun r3 hr3 => ?_⟩
    refine wa_cons (we_callZR (i := 0) (j := 3) rfl rfl (by decide) ⟨by rw [List.length_map]; omega, by rw [List.length_map]; omega, by omega, fun x hx => ?_⟩)
    obtain ⟨es, hes, rfl⟩ := List.mem_map.mp hx
    obtain ⟨pe, hel, hew⟩ := hps es hes
    walk_at "dv"
    refine ⟨fun h => ?_, fun h => ?_⟩
    · refine q_app rfl ?_
      walk_at "dv"
      refine ⟨9, rfl, by decide, by decide, by omega, fun r4 hr4 => ?_⟩
      walk_at "dv"
      refine ⟨1 + r4, high, by rw [Int.natCast_add]; rfl, by omega, by omega, by omega, fun m3 ys hm3 hyl py hwy => ?_⟩
      exact ⟨_, rfl, by rw [List.length_map]; omega, m3, pss ++ [ys], _, _, _, by omega, by simp [hpl], more ys py hyl (by omega), by rw [List.map_append]; rfl⟩
    · walk_at "dv"
      refine ⟨fun h2 => ?_, fun h2 => ?_⟩
      · refine q_app rfl ?_
        walk_at "dv"
        refine ⟨6, rfl, by decide, by decide, by omega, fun r4 hr4 => ?_⟩
        walk_at "dv"
        refine ⟨es, 1 + r4, false, by rw [Int.natCast_add]; rfl, pe.blo, by omega, by omega, fun m3 ys hm3 hyl _ py hwy => ?_⟩
        exact ⟨_, rfl, by rw [List.length_map]; omega, m3, pss ++ [ys], _, _, _, by omega, by simp [hpl], more ys (py rfl pe) (by omega) (by omega), by rw [List.map_append]; rfl⟩
      · refine q_app rfl ?_
        walk_at "dv"
        refine we_new (wn_lcM (α := Str) (js := [7]) (by decide) (wi_list ?_))
        walk_at "dv"
        refine ⟨es, .str, rfl, by have := pe.high; omega, rfl, fun y => .str (y ++ Str.ofString ".."), fun y hy => ?_, ?_⟩
        · refine wg_name ⟨rfl, ?_⟩
          walk_at "dv"
          have hyl := pe.blo.len y hy
          have l2 : ((Str.ofString ".." : Str)).length = 2 := rfl
          exact op2_addS (by rw [l2]; exact szl (by omega)) ⟨rfl, rfl⟩
        have pm := pic_more pe (by omega)
        have hpm : picD (es.map fun z => z ++ Str.ofString "..") = PyData.list (es.map fun y => .str (y ++ Str.ofString "..")) := congrArg PyData.list List.map_map
        exact ⟨_, rfl, by rw [List.length_map]; omega, m' + 1 + 1, pss ++ [es.map fun z => z ++ Str.ofString ".."], _, _, _, by omega, by simp [hpl], more _ pm.1 (by rw [List.length_map]; omega) (by omega), by rw [List.map_append, List.map_cons, List.map_nil, hpm]⟩
  · rintro _ ⟨m', pss, s4, s5, s6, hm', hpl, hps, rfl⟩
    rw [inz_len, en] at hm' hpl
    exact q_ret (we_varR rfl ⟨m', rfl, q m' high pss (by omega) hh0 hh1 ⟨by omega, by omega, fun zs hz => (hps zs hz).1, fun zs hz => (hps zs hz).2.1⟩⟩)
def optP : Option (Nat × Nat) → PyData
  | none => .none
  | some (i, j) => .tuple [.int (i : Int), .int (j : Int)]
def pre__law_first (ds : List PyData) (φ : PyData → Prop) : Prop := ∃ (h : Nat) (pss : List (List Str)) (n : Nat), ds = [.list (pss.map picD), .int n] ∧ Pics h pss ∧ ∀ o, FirstOf pss.length (Near pss n) o → φ (optP o)
theorem len__law_first : ∀ ds φ, pre__law_first ds φ → ds.length = 2 := by rintro _ φ ⟨h, pss, n, rfl, _⟩; rfl
theorem ok__law_first (T : Txt P K mg) : FnG P w K mg base CX0 3 T.a__law_first T.d__law_first ["pictures", "budget"] (SpD pre__law_first) := by
  refine FnG.ok0 T.F__law_first sc__law_first (sp_len len__law_first) (fun cdv A outer s H vs Q E hr hg h => ?_)
  refine ⟨_, (pss_cons (ps_for PassesOwn.never rfl (pi_r1 rfl T.z_range (pa_cons (pe_callB (k_len (K := K) rfl) (by rfl) T.z_len (by decide +kernel) (pa_cons (pv 0) pa_nil)) pa_nil)) (pg_name (i := 2) sc__law_first.nd rfl (by first | exact Or.inl rfl | exact Or.inr rfl)) (pss_one (ps_for PassesOwn.never rfl (pi_r2 rfl T.z_range (pa_cons (pe_op (k_add (K := K) rfl) (pv 2) pe_int) (pa_cons (pe_callB (k_len (K := K) rfl) (by rfl) T.z_len (by decide +kernel) (pa_cons (pv 0) pa_nil)) pa_nil))) (pg_name (i := 3) sc__law_first.nd rfl (by first | exact Or.inl rfl | exact Or.inr rfl)) (pss_one (ps_if (pt_chain op_lt op_le pe_int (pe_callB (k_len (K := K) rfl) (by rfl) T.z_len (by decide +kernel) (pa_cons (pe_cg (ok__law_far (P := P) (w := w) (base := base) T) (by exact hr.mono (by first | decide | omega)) (by exact hg) (by rfl) T.g__law_far T.F__law_far.kp (b__law_far T.F__law_far) .nil pass0 (pa_cons (pe_ix (k_ix (K := K) rfl) (pv 0) (pv 2) (fun _ _ => rfl)) (pa_cons (pe_ix (k_ix (K := K) rfl) (pv 0) (pv 3) (fun _ _ => rfl)) pa_nil))) pa_nil)) (pv 1)) (pss_one (ps_ret (pe_tup (pa_cons (pv 2) (pa_cons (pv 3) pa_nil))))) pss_nil)))))
      (pss_one (ps_ret pe_non))), fn_pure (by decide) len__law_first (fun F G0 ds φ hp => ?_) h⟩
  obtain ⟨h, pss, n, rfl, pp, q⟩ := hp
  have hn1 := pp.n1
  refine q_seq (q_for (js := [2]) (wi_r1 ?_))
  walk_at "dv"
  rw [List.length_map]
  have el : (pss.length : Int).toNat = pss.length := by simp
  refine ⟨fun k ρ => (∀ i j, i < k → i < j → j < pss.length → ¬ Near pss n i j) ∧ ∃ s2 s3, ρ = [.val (.list (pss.map picD)), .val (.int n), s2, s3], ⟨fun i j h => absurd h (by omega), _, _, rfl⟩, ?_, ?_⟩
  · rintro i d _ hd ⟨hno, s2, s3, rfl⟩
    obtain ⟨hi, rfl⟩ := inz_get hd
    rw [el] at hi
    rw [Int.zero_add]
    refine wg_name (q_for (js := [3]) (wi_r2 ?_))
    walk_at "dv"
    rw [List.length_map]
    refine ⟨_, _, rfl, ?_⟩
    rw [show ((pss.length : Int) - ((i : Int) + 1)).toNat = pss.length - (i + 1) by omega]
    refine ⟨fun k ρ => (∀ j, i < j → j < i + 1 + k → ¬ Near pss n i j) ∧ ∃ s3, ρ = [.val (.list (pss.map picD)), .val (.int n), .val (.int i), s3], ⟨fun j h1 h2 => absurd h2 (by omega), _, rfl⟩, ?_, ?_⟩
    · rintro k d _ hd ⟨hno2, s3, rfl⟩
      obtain ⟨hk, rfl⟩ := inz_get hd
      have hj : i + 1 + k < pss.length := by omega
      have pi := pp.pic _ (pAt_mem hi)
      have pj := pp.pic _ (pAt_mem hj)
      have li := pp.hi _ (pAt_mem hi)
      have lj := pp.hi _ (pAt_mem hj)
      have ej : (i : Int) + 1 + (k : Int) = ((i + 1 + k : Nat) : Int) := by omega
      rw [ej]
      refine wg_name (q_if (wt_test ?_))
      walk_at "dv"
      refine op2_ixL (pAt_at picD hi) ?_
      walk_at "dv"
      refine op2_ixL (pAt_at picD hj) ?_
      walk_at "dv"
      refine ⟨_, _, rfl, pi.blo, pj.blo, by omega, fun es hes _ => ?_⟩
      walk_at "dv"
      rw [hes]
      have ed : decide ((0 : Int) < ((farN (pAt pss i) (pAt pss (i + 1 + k)) : Nat) : Int)) = decide (0 < farN (pAt pss i) (pAt pss (i + 1 + k))) := decide_eq_decide.mpr (by omega)
      have ed2 : decide (((farN (pAt pss i) (pAt pss (i + 1 + k)) : Nat) : Int) ≤ (n : Int)) = decide (farN (pAt pss i) (pAt pss (i + 1 + k)) ≤ n) := decide_eq_decide.mpr (by omega)
      have other : ¬ Near pss n i (i + 1 + k) → ∀ j, i < j → j < i + 1 + (k + 1) → ¬ Near pss n i j := fun hn j h1 h2 => by
        by_cases h3 : j < i + 1 + k
        · exact hno2 j h1 h3
        · have : j = i + 1 + k := by omega
          rw [this]
          exact hn
      refine ⟨fun h1 => ?_, fun h1 => ?_⟩
      · rw [ed] at h1
        have h1' := of_decide_eq_true h1
        walk_at "dv"
        refine ⟨fun h2 => ?_, fun h2 => ?_⟩
        · rw [ed2] at h2
          have h2' := of_decide_eq_true h2
          walk_at "dv"
          exact q (some (i, i + 1 + k)) ⟨by omega, hj, ⟨h1', h2'⟩, fun i' j' g1 g2 g3 => by
            rcases g3 with g3 | ⟨g3, g4⟩
            · exact hno i' j' g3 g1 g2
            · have g3 : i' = i := g3
              subst g3
              exact hno2 j' g1 g4⟩
        · rw [ed2] at h2
          have h2' := of_decide_eq_false h2
          exact q_nx ⟨other fun z => h2' z.2, _, rfl⟩
      · rw [ed] at h1
        have h1' := of_decide_eq_false h1
        refine ⟨_, rfl, fun z => (nomatch z), fun _ => ?_⟩
        exact q_nx ⟨other fun z => h1' z.1, _, rfl⟩
    · rintro _ ⟨hno2, s3, rfl⟩
      rw [inz_len] at hno2
      refine ⟨fun i' j h1 h2 h3 => ?_, _, _, rfl⟩
      by_cases h4 : i' < i
      · exact hno i' j h4 h2 h3
      · have : i' = i := by omega
        subst this
        exact hno2 j h2 (by omega)
  · rintro _ ⟨hno, s2, s3, rfl⟩
    rw [inz_len, el] at hno
    walk_at "dv"
    exact q none fun i j h1 h2 => hno i j (by omega) h1 h2
def pre__law_nearest (ds : List PyData) (φ : PyData → Prop) : Prop := ∃ (h : Nat) (pss : List (List Str)) (ys : List Str), ds = [.list (pss.map picD), .list (ys.map .str)] ∧ Pics h pss ∧ Blo ys ∧ ys.length = h ∧ φ (nearD pss ys)
theorem len__law_nearest : ∀ ds φ, pre__law_nearest ds φ → ds.length = 2 := by rintro _ φ ⟨h, pss, ys, rfl, _⟩; rfl
theorem ok__law_nearest (T : Txt P K mg) : FnG P w K mg base CX0 3 T.a__law_nearest T.d__law_nearest ["pictures", "blotted"] (SpD pre__law_nearest) := by
  refine FnG.ok0 T.F__law_nearest sc__law_nearest (sp_len len__law_nearest) (fun cdv A outer s H vs Q E hr hg h => ?_)
  refine ⟨_, (pss_cons (ps_set (i := 2) sc__law_nearest.nd rfl (by first | exact Or.inl rfl | exact Or.inr rfl) (pe_lc (own := [("picture", 3)]) rfl sc__law_nearest.nd (k_plist (K := K) rfl (pv 0)) (blkOk_by (own := [("picture", 3)]) (N := nm__law_nearest) (by rfl)) (fun _ _ _ _ _ => (pg_name (i := 3) sc__law_nearest.nd rfl (by first | exact Or.inl rfl | exact Or.inr rfl))) (fun _ _ _ _ _ => pts_nil) (fun _ _ _ _ _ => (pe_callB (k_len (K := K) rfl) (by rfl) T.z_len (by decide +kernel) (pa_cons (pe_cg (ok__law_far (P := P) (w := w) (base := base) T) (by exact hr.mono (by first | decide | omega)) (by exact hg) (by rfl) T.g__law_far T.F__law_far.kp (b__law_far T.F__law_far) .nil pass0 (pa_cons (pv 3) (pa_cons (pv 1) pa_nil))) pa_nil)))))
      (pss_one (ps_ret (pe_tup (pa_cons (pe_callB (k_min (K := K) rfl rfl) (by rfl) T.z_min (by decide +kernel) (pa_cons (pv 2) pa_nil)) (pa_cons (pe_lc (own := [("i", 4)]) rfl sc__law_nearest.nd (pi_r1 rfl T.z_range (pa_cons (pe_callB (k_len (K := K) rfl) (by rfl) T.z_len (by decide +kernel) (pa_cons (pv 2) pa_nil)) pa_nil)) (blkOk_by (own := [("i", 4)]) (N := nm__law_nearest) (by rfl)) (fun _ _ _ _ _ => (pg_name (i := 4) sc__law_nearest.nd rfl (by first | exact Or.inl rfl | exact Or.inr rfl))) (fun _ _ _ _ _ => (pts_one (pt_cmpR (k_eq (K := K) rfl (by exact hr.units)) (pe_ix (k_ix (K := K) rfl) (pv 2) (pv 4) (fun _ _ => rfl)) (pe_callB (k_min (K := K) rfl rfl) (by rfl) T.z_min (by decide +kernel) (pa_cons (pv 2) pa_nil)) (nomark _)))) (fun _ _ _ _ _ => (pv 4))) pa_nil)))))), fn_pure (by decide) len__law_nearest (fun F G0 ds φ hp => ?_) h⟩
  obtain ⟨h, pss, ys, rfl, pp, py, hy, q⟩ := hp
  have hn0 := pp.n0
  have hn1 := pp.n1
  refine q_seq (q_set ?_)
  refine we_new (wn_lcM (α := List Str) (js := [3]) (by decide) (wi_list ?_))
  walk_at "dv"
  refine ⟨pss, picD, rfl, by omega, rfl, fun zs => .int ((farN zs ys : Nat) : Int), fun zs hz => ?_, ?_⟩
  · have pz := pp.pic zs hz
    refine wg_name ⟨rfl, ?_⟩
    walk_at "dv"
    refine ⟨zs, ys, rfl, pz.blo, py, by rw [pp.hi zs hz, hy], fun es hes _ => ?_⟩
    walk_at "dv"
    rw [hes]
    exact ⟨rfl, rfl⟩
  rw [ints_map (fun zs => farN zs ys) pss]
  have hlen : (farsL pss ys).length = pss.length := by unfold farsL; rw [List.length_map]
  have hmin : ∀ {φ : PyData → Prop}, φ (.int ((leastL (farsL pss ys) : Nat) : Int)) → OpFC (rMin K) [.list (((pss.map fun zs => farN zs ys).map fun (n : Nat) => (n : Int)).map .int)] φ := fun {φ} k => opc_min (by rw [List.length_map]; show 0 < (farsL pss ys).length; omega) fun m h1 h2 => by
    rw [least_int h1 h2]
    exact k
  walk_at "dv"
  refine (hmin ?_).op
  walk_at "dv"
  refine we_new (wn_lcT (α := Nat) (js := [4]) (by decide) (wi_r1 ?_))
  walk_at "dv"
  refine ⟨List.range pss.length, fun (i : Nat) => .int (i : Int), ?_, by rw [List.length_range]; omega, rfl, fun i => farN (pAt pss i) ys == leastL (farsL pss ys), fun i => .int (i : Int), fun i hi => ?_, ?_⟩
  · rw [List.length_map, List.length_map, List.length_map]
    simp [inz]
  · have hi := List.mem_range.mp hi
    refine wg_name ⟨rfl, ?_⟩
    walk_at "dv"
    rw [← ints_map (fun zs => farN zs ys) pss]
    refine op2_ixL (pAt_at (fun zs => .int ((farN zs ys : Nat) : Int)) hi) ?_
    rw [ints_map (fun zs => farN zs ys) pss]
    walk_at "dv"
    refine (hmin ?_).op
    walk_at "dv"
    refine ⟨rfl, ?_, fun _ => ?_⟩
    · by_cases e : farN (pAt pss i) ys = leastL (farsL pss ys)
      · rw [e]
        simp
      · rw [beq_eq_false_iff_ne.mpr e, beq_eq_false_iff_ne.mpr (by omega)]
    · walk_at "dv"
      exact ⟨rfl, rfl⟩
  walk_at "dv"
  exact q
def pre__law_blots (m : Nat) (ds : List PyData) (φ : Nat → PyData → Prop) : Prop := ∃ (zs : List Str) (many : Nat), ds = [.list (zs.map .str), .int many] ∧ Blo zs ∧ 0 < zs.length ∧ many ≤ 100 ∧ m + 400 ≤ 2 ^ 40 ∧ ∀ (m' : Nat) (ys : List Str), m' ≤ m + 400 → ys.length = zs.length → Blo ys → φ m' (.list (ys.map .str))
theorem len__law_blots : ∀ m ds φ, pre__law_blots m ds φ → ds.length = 2 := by rintro m _ φ ⟨zs, n, rfl, _⟩; rfl
def gridB (wd n : Nat) (css : List (List Nat)) : Prop := css.length = n ∧ ∀ cs ∈ css, cs.length = wd ∧ ∀ c ∈ cs, Sgn c
theorem ok__law_blots (T : Txt P K mg) : FnG P w K mg base CX0 2 T.a__law_blots T.d__law_blots ["purse", "picture", "many"] (SpZ PZ pre__law_blots) := by
  refine FnG.ok0 T.F__law_blots sc__law_blots (spz_len len__law_blots) (fun cdv A outer s H vs Q E hr hg h => ?_)
  refine ⟨_, (pss_cons (ps_setLc (i := 3) (own := [("row", 5)]) (by rfl) sc__law_blots.nd rfl rfl (sw_true rfl rfl rfl (by decide +kernel)) (k_plist (K := K) rfl (pv 1)) (blkOk_by (own := [("row", 5)]) (N := nm__law_blots) (by rfl)) (fun _ _ _ _ _ => (pg_name (i := 5) sc__law_blots.nd rfl (by first | exact Or.inl rfl | exact Or.inr rfl))) (fun _ _ _ _ _ => pts_nil) (fun _ _ _ _ _ => (pe_callTy (k_lstU (K := K) rfl rfl) (by rfl) T.z_list (by decide +kernel) (pa_cons (pv 5) pa_nil))))
      (pss_cons (ps_for PassesOwn.never rfl (pi_r1 rfl T.z_range (pa_cons (pe_ifExp (pt_cmpR (k_ne (K := K) rfl (by exact hr.units)) (pe_ix (k_ix (K := K) rfl) (pv 3) pe_int (fun _ _ => rfl)) (pe_lst pa_nil) (nomark _)) (pv 2) pe_int) pa_nil)) (pg_name (i := 4) sc__law_blots.nd rfl (by first | exact Or.inl rfl | exact Or.inr rfl)) (pss_cons (ps_set (i := 5) sc__law_blots.nd rfl (by first | exact Or.inl rfl | exact Or.inr rfl) (pe_ix (k_ix (K := K) rfl) (pv 3) (pe_cg (ok__law_draw (P := P) (w := w) (base := base) T) (by exact hr.mono (by first | decide | omega)) (by exact hg) (by rfl) T.g__law_draw T.F__law_draw.kp (b__law_draw T.F__law_draw) .nil pass0 (pa_cons (pv 0) (pa_cons (pe_callB (k_len (K := K) rfl) (by rfl) T.z_len (by decide +kernel) (pa_cons (pv 3) pa_nil)) pa_nil))) (fun _ _ => rfl)))
      (pss_one (ps_asg pe_str (pg_sub (pv 5) (pe_cg (ok__law_draw (P := P) (w := w) (base := base) T) (by exact hr.mono (by first | decide | omega)) (by exact hg) (by rfl) T.g__law_draw T.F__law_draw.kp (b__law_draw T.F__law_draw) .nil pass0 (pa_cons (pv 0) (pa_cons (pe_callB (k_len (K := K) rfl) (by rfl) T.z_len (by decide +kernel) (pa_cons (pv 5) pa_nil)) pa_nil))) set_list)))))
      (pss_one (ps_ret (pe_lc (own := [("row", 5)]) rfl sc__law_blots.nd (k_plist (K := K) rfl (pv 3)) (blkOk_by (own := [("row", 5)]) (N := nm__law_blots) (by rfl)) (fun _ _ _ _ _ => (pg_name (i := 5) sc__law_blots.nd rfl (by first | exact Or.inl rfl | exact Or.inr rfl))) (fun _ _ _ _ _ => pts_nil) (fun _ _ _ _ _ => (pe_m1 PySem.F.slot_str_join PySem.F.type_str_join (k_join (K := K) rfl) pe_str (pv 5)))))))), fn_z (by decide) len__law_blots (fun F G0 p m ds φ hp => ?_) h⟩
  obtain ⟨zs, many, rfl, pz, hz0, hmany, hm, q⟩ := hp
  have hwd := pz.wide
  have hhi := pz.high
  refine q_seq (q_setNest (c := 1) (zs := zs) (by decide) rfl (by omega) (fun z hz => by have := pz.len z hz; omega) rfl (by simp [slotsZ, slots0]) (fun p2 qs hqs => ?_))
  refine q_seq (q_for (js := [4]) (wi_r1 (wa_cons (We.imp (Φ := fun d ρ' => ∃ j : Nat, d = .int j ∧ j ≤ many ∧ ρ' = [.res (lstP p (PZ m)), .val (.list (zs.map .str)), .val (.int many), .res (nest p2 qs (zs.map signs)), .any, .any] ∧ (0 < j → 0 < wideOf zs)) ?_ ?_))))
  · have okz : ∀ z ∈ zs, OkdN 1 (.list (signs z)) := fun z hz => by
      rw [signs_sg]
      refine .list fun d hd => ?_
      obtain ⟨c, hc, rfl⟩ := List.mem_map.mp hd
      refine .str fun c' hc' => ?_
      have : c' = c := by simpa using hc'
      rcases pz.dots z hz c hc with e | e | e <;> omega
    obtain ⟨z0, r0, hzs⟩ : ∃ z0 r0, zs = z0 :: r0 := by
      cases zs with
      | nil => cases hz0
      | cons a r => exact ⟨a, r, rfl⟩
    refine we_if (wt_test (we_opRNI (i := 3) (k := 0) rfl (by rw [hzs]; exact ixN_nat (r := 0) (by simp)) ?_))
    walk_at "dv"
    refine ⟨_, signs z0, rfl, by rw [hzs]; rfl, op2_neNil ((okz z0 (by rw [hzs]; exact List.mem_cons_self)).okd (by decide)) ?_⟩
    refine ⟨_, rfl, ?_⟩
    refine ⟨fun hne => ?_, fun hne => ?_⟩
    · walk_at "dv"
      refine ⟨by omega, rfl, fun _ => ?_⟩
      have e : wideOf zs = z0.length := by rw [hzs]; rfl
      rw [e, len_tl]
      have hs : (signs z0).isEmpty = false := by simpa using hne
      rw [signs_sg] at hs
      cases ht : tl z0 with
      | nil => rw [ht] at hs; cases hs
      | cons a l => simp
    · walk_at "dv"
      exact ⟨by omega, rfl, by omega⟩
  · rintro d _ ⟨j, rfl, hj, rfl, hpos⟩
    have ej : (j : Int).toNat = j := by simp
    refine wa_nil ⟨j, rfl, fun i ρ => ∃ (m2 : Nat) (css : List (List Nat)) (s4 s5 : Slot), m2 ≤ m + 3 * i ∧ gridB (wideOf zs) zs.length css ∧ ρ = [.res (lstP p (PZ m2)), .val (.list (zs.map .str)), .val (.int many), .res (nest p2 qs (css.map fun cs => cs.map sg)), s4, s5], ⟨m, zs.map tl, .any, .any, by omega, ⟨by simp, fun cs hcs => ?_⟩, by rw [List.map_map]; rfl⟩, ?_, ?_⟩
    · obtain ⟨z, hz, rfl⟩ := List.mem_map.mp hcs
      exact ⟨by rw [← len_tl]; exact pz.rows z hz, fun c hc => pz.dots z hz c hc⟩
    · rintro i d _ hd ⟨m2, css, s4, s5, h1, ⟨h2, h3⟩, rfl⟩
      obtain ⟨hi, rfl⟩ := inz_get hd
      rw [ej] at hi
      have hp2 := hpos (by omega)
      refine wg_name ?_
      refine q_seq (q_ptr (i := 3) rfl (we_callZ rfl (wa_cons (we_lenN rfl (wa_nil ⟨_, rfl, css.length, ?_, by omega, ?_, by omega, fun r hr => ?_⟩)))))
      · rw [List.length_map]
      · omega
      have hcr : css[r]? = some css[r] := List.getElem?_eq_getElem hr
      have hmem : css[r] ∈ css := List.getElem_mem hr
      obtain ⟨hw, hdots⟩ := h3 _ hmem
      refine ⟨_, r, r, rfl, rfl, ixN_nat (by rw [List.length_map]; exact hr), fun qq hqq => ?_⟩
      have hdr : (css.map fun cs => cs.map sg)[r]? = some (css[r].map sg) := by rw [List.getElem?_map, hcr]; rfl
      refine q_setQ (i := 3) (k := r) (q := qq) (p := p2) (qs := qs) (we_str ⟨rfl, we_callZ rfl (wa_cons (we_lenP (i := 3) rfl rfl hqq hdr (wa_nil ⟨_, rfl, css[r].length, ?_, by omega, ?_, by omega, fun l hl => ?_⟩)))⟩)
      · rw [List.length_map]
      · omega
      refine ⟨_, _, l, l, rfl, hqq, hdr, rfl, ixN_nat (by rw [List.length_map]; exact hl), ?_⟩
      refine ⟨m2 + 1 + 1, css.set r (css[r].set l 63), .val (.int (0 + (i : Int))), .res (ptrR qq), by omega, ⟨by rw [List.length_set]; exact h2, fun cs hcs => ?_⟩, ?_⟩
      · rcases List.mem_or_eq_of_mem_set hcs with h | rfl
        · exact h3 cs h
        · refine ⟨by rw [List.length_set]; exact hw, fun c hc => ?_⟩
          rcases List.mem_or_eq_of_mem_set hc with h | rfl
          · exact hdots c h
          · exact .inr (.inr rfl)
      · rw [List.map_set, List.map_set]
        rfl
    · rintro _ ⟨m2, css, s4, s5, h1, ⟨h2, h3⟩, rfl⟩
      rw [inz_len, ej] at h1
      refine q_forget 5 (q_ret (we_new (wn_lcM (α := List Nat) (js := [5]) (by decide) (wi_list (we_varN (i := 3) rfl ?_)))))
      refine ⟨_, rfl, css, fun cs => .list (cs.map sg), by rw [List.map_map]; rfl, by omega, rfl, fun cs => .str (joinC cs), fun cs hcs => ?_, ?_⟩
      · obtain ⟨hc1, hc2⟩ := h3 cs hcs
        refine wg_name ⟨rfl, ?_⟩
        walk_at "dv"
        refine opm_joinM (f := fun c => (⟨#[c]⟩ : Str)) ?_ ⟨rfl, rfl⟩
        have e1 : (cs.map fun c => ((⟨#[c]⟩ : Str)).length).sum = cs.length := ones1 cs
        rw [e1]
        show _ + _ * 0 ≤ _
        omega
      · obtain ⟨p1, hw1, hw2⟩ := mkBlo (zs := css.map joinC) (wd := wideOf zs) (by rw [List.length_map]; omega) hwd (fun y hy => by
          obtain ⟨cs, hcs, rfl⟩ := List.mem_map.mp hy
          rw [len_tl, tl_joinC]
          exact ⟨(h3 cs hcs).1, fun c hc => (h3 cs hcs).2 c hc⟩)
        have q1 := q m2 (css.map joinC) (by omega) (by rw [List.length_map]; exact h2) p1
        rw [List.map_map] at q1
        exact ⟨m2, rfl, q1⟩
end

--@passes told_apart nearest_of

section
variable {P : Program} {w : World} {K : PySem.W.Frag} {mg : Str → Option Value} {base : Heap}

/-! what is nearest, where the list is told apart -/
theorem sum_mono {α : Type} {f g : α → Nat} : ∀ {xs : List α}, (∀ x ∈ xs, f x ≤ g x) → (xs.map f).sum ≤ (xs.map g).sum
  | [], _ => Nat.le_refl _
  | x :: xs, h => by
    have h1 := h x (by simp)
    have h2 := sum_mono (xs := xs) fun y hy => h y (by simp [hy])
    rw [List.map_cons, List.map_cons, List.sum_cons, List.sum_cons]
    omega
theorem sum2_mono {w n : Nat} {f g : Nat → Nat → Nat} (h : ∀ k i, k < w → i < n → f k i ≤ g k i) : sum2 w n f ≤ sum2 w n g := by
  unfold sum2
  exact sum_mono fun k hk => sum_mono fun i hi => h k i (List.mem_range.mp hk) (List.mem_range.mp hi)
theorem sum_nil {α : Type} {f : α → Nat} : ∀ {xs : List α}, (xs.map f).sum = 0 → ∀ x ∈ xs, f x = 0
  | [], _, x, h => by cases h
  | y :: xs, h, x, hx => by
    rw [List.map_cons, List.sum_cons] at h
    rcases List.mem_cons.mp hx with rfl | hx
    · omega
    · exact sum_nil (by omega) x hx
theorem sum2_nil {w n : Nat} {f : Nat → Nat → Nat} (h : sum2 w n f = 0) {k i : Nat} (hk : k < w) (hi : i < n) : f k i = 0 := by
  unfold sum2 at h
  exact sum_nil (sum_nil h k (List.mem_range.mpr hk)) i (List.mem_range.mpr hi)
theorem far_tri {zs ws ys : List Str} (pz : Pic zs) (pw : Pic ws) (py : Blo ys) (h1 : ws.length = zs.length) (h2 : ys.length = zs.length) : farN zs ws ≤ farN zs ys + farN ws ys + blotN ys := by
  have a := pz.wide
  have b := pw.wide
  have c := py.wide
  rw [far_w pz.blo pw.blo h1 (W := 400) a b, far_w pz.blo py h2 (W := 400) a c, far_w pw.blo py (by omega) (W := 400) b c, blot_w py (W := 400) c, h1, h2, ← sum2_add, ← sum2_add]
  refine sum2_mono fun k i hk hi => ?_
  rcases pz.two hi k with e1 | e1 <;> rcases pw.two (show i < ws.length by omega) k with e2 | e2 <;> rcases py.sgn k (show i < ys.length by omega) with e3 | e3 | e3 <;> rw [e1, e2, e3] <;> decide
theorem far_zero {zs ws ys : List Str} (pz : Pic zs) (pw : Pic ws) (py : Blo ys) (h1 : ws.length = zs.length) (h2 : ys.length = zs.length) (h : farN zs ws = 0) : farN zs ys = farN ws ys := by
  have a := pz.wide
  have b := pw.wide
  have c := py.wide
  rw [far_w pz.blo pw.blo h1 (W := 400) a b] at h
  rw [far_w pz.blo py h2 (W := 400) a c, far_w pw.blo py (by omega) (W := 400) b c, h1]
  refine sum2_congr fun k i hk hi => ?_
  have h0 := sum2_nil h hk hi
  have e : signC (zAt zs i) k = signC (zAt ws i) k := by
    rcases pz.two hi k with e1 | e1 <;> rcases pw.two (show i < ws.length by omega) k with e2 | e2 <;> rw [e1, e2] at h0 ⊢ <;> first | rfl | exact absurd h0 (by decide)
  rw [e]
theorem far_self {zs : List Str} (pz : Pic zs) : farN zs zs = 0 := by
  have a := pz.wide
  rw [far_w pz.blo pz.blo rfl (W := 400) a a]
  refine (sum2_congr fun k i hk hi => ?_).trans (sum2_zero 400 zs.length)
  rcases pz.two hi k with e1 | e1 <;> rw [e1] <;> rfl
theorem near_zero {h s b : Nat} {pss : List (List Str)} {ys : List Str} (pp : Pics h pss) (py : Blo ys) (hy : ys.length = h) (hno : ∀ i j, i < j → j < pss.length → ¬ Near pss (2 * s + b) i j) {i a : Nat} (hi : i < pss.length) (ha : a < pss.length)
    (c1 : farN (pAt pss a) ys ≤ s) (c2 : blotN ys ≤ b) (hle : farN (pAt pss i) ys ≤ farN (pAt pss a) ys) : farN (pAt pss i) (pAt pss a) = 0 := by
  have pi := pp.pic _ (pAt_mem hi)
  have pa := pp.pic _ (pAt_mem ha)
  have li := pp.hi _ (pAt_mem hi)
  have la := pp.hi _ (pAt_mem ha)
  have ht := far_tri pi pa py (by omega) (by omega)
  refine Classical.byContradiction fun hne => ?_
  rcases Nat.lt_trichotomy i a with e | e | e
  · exact hno i a e ha ⟨by omega, by omega⟩
  · subst e
    exact hne (far_self pi)
  · exact hno a i e hi ⟨by rw [far_comm (by omega)]; omega, by rw [far_comm (by omega)]; omega⟩
theorem at_places {h s b : Nat} {pss : List (List Str)} {ys : List Str} (pp : Pics h pss) (py : Blo ys) (hy : ys.length = h) (hno : ∀ i j, i < j → j < pss.length → ¬ Near pss (2 * s + b) i j) {a : Nat} (ha : a < pss.length)
    (c1 : farN (pAt pss a) ys ≤ s) (c2 : blotN ys ≤ b) : a ∈ placesL pss ys ∧ ∀ i ∈ placesL pss ys, i < pss.length ∧ farN (pAt pss i) (pAt pss a) = 0 := by
  have hn0 := pp.n0
  have pa := pp.pic _ (pAt_mem ha)
  have la := pp.hi _ (pAt_mem ha)
  have hlen : (farsL pss ys).length = pss.length := by unfold farsL; rw [List.length_map]
  have hin : ∀ i, i < pss.length → leastL (farsL pss ys) ≤ farN (pAt pss i) ys := fun i hi => leastL_le (List.mem_map.mpr ⟨_, pAt_mem hi, rfl⟩)
  refine ⟨?_, fun i hi => ?_⟩
  · obtain ⟨zs, hz, e⟩ := List.mem_map.mp (leastL_mem (l := farsL pss ys) (by omega))
    obtain ⟨i, hi, e2⟩ := List.getElem_of_mem hz
    have e3 : pAt pss i = zs := by
      unfold pAt
      rw [List.getD_eq_getElem?_getD, List.getElem?_eq_getElem hi, e2]
      rfl
    have hle : farN (pAt pss i) ys ≤ farN (pAt pss a) ys := by
      rw [e3, e]
      exact hin a ha
    have h0 := near_zero pp py hy hno hi ha c1 c2 hle
    have pi := pp.pic _ (pAt_mem hi)
    have li := pp.hi _ (pAt_mem hi)
    have h1 := far_zero pi pa py (by omega) (by omega) h0
    refine List.mem_filter.mpr ⟨List.mem_range.mpr ha, ?_⟩
    rw [← h1, e3, e]
    simp
  · obtain ⟨h1, h2⟩ := List.mem_filter.mp hi
    have h1 := List.mem_range.mp h1
    have h2 : farN (pAt pss i) ys = leastL (farsL pss ys) := by simpa using h2
    exact ⟨h1, near_zero pp py hy hno h1 ha c1 c2 (by rw [h2]; exact hin a ha)⟩

def toldD (pss : List (List Str)) (b : Nat) : Option (Nat × Nat) → PyData
  | none => .none
  | some (i, j) => .tuple [.int (i : Int), .int (j : Int), .list ((halfR (pAt pss i) (pAt pss j) b).map .str)]
theorem oks_pics {h : Nat} {pss : List (List Str)} (pp : Pics h pss) (hh : h ≤ 6) : Oks (.list (pss.map picD)) := by
  refine (OksN.list (n := 1) (m := 25000) fun d hd => ?_).oks (by decide) ?_
  · obtain ⟨zs, hz, rfl⟩ := List.mem_map.mp hd
    have pz := pp.pic zs hz
    refine (OksN.list (n := 0) (m := 10 * 400 + 2) fun e he => ?_).mono (Nat.le_refl _) ?_
    · obtain ⟨z, hz', rfl⟩ := List.mem_map.mp he
      exact .str (pz.pln z hz') (pz.blo.len z hz')
    · rw [List.length_map, pp.hi zs hz]
      omega
  · have := pp.n1
    rw [List.length_map]
    omega
theorem nearD_okd (pss : List (List Str)) (ys : List Str) : OkdN 2 (nearD pss ys) := by
  refine .tuple fun d hd => ?_
  simp only [List.mem_cons, List.not_mem_nil, or_false] at hd
  rcases hd with rfl | rfl
  · exact .int
  · refine .list fun e he => ?_
    obtain ⟨i, _, rfl⟩ := List.mem_map.mp he
    exact .int
theorem places_len (pss : List (List Str)) (ys : List Str) : (placesL pss ys).length ≤ pss.length := by
  have := List.length_filter_le (fun i => farN (pAt pss i) ys == leastL (farsL pss ys)) (List.range pss.length)
  rw [List.length_range] at this
  exact this
theorem nearD_sml {h : Nat} {pss : List (List Str)} (pp : Pics h pss) (ys : List Str) : SmlD (nearD pss ys) := by
  refine .tuple (by simp) fun d hd => ?_
  simp only [List.mem_cons, List.not_mem_nil, or_false] at hd
  rcases hd with rfl | rfl
  · exact .int
  · refine .list ?_ fun e he => ?_
    · have := places_len pss ys
      have := pp.n1
      rw [List.length_map]
      omega
    · obtain ⟨i, _, rfl⟩ := List.mem_map.mp he
      exact .int
theorem clean_ints (is : List Nat) (h : is.length < 90000) : clean (.list (is.map fun (i : Nat) => .int (i : Int))) = true := by
  simp only [clean, Bool.and_eq_true]
  refine ⟨?_, decide_eq_true (by rw [List.length_map]; exact h), ?_⟩
  · unfold endsSp
    rw [List.getLast?_map]
    cases is.getLast? <;> rfl
  · rw [cleanA_all, List.all_map]
    exact List.all_eq_true.mpr fun i _ => rfl
theorem nearD_clean {h : Nat} {pss : List (List Str)} (pp : Pics h pss) (ys : List Str) : clean (nearD pss ys) = true := by
  have h1 := clean_ints (placesL pss ys) (by have := places_len pss ys; have := pp.n1; omega)
  unfold nearD
  simp only [clean, Bool.and_eq_true, cleanA]
  simp only [clean, Bool.and_eq_true] at h1
  simp only [List.length_cons, List.length_nil]
  refine ⟨decide_eq_true (by omega), trivial, h1, trivial⟩
theorem told_clean {zs : List Str} (p : Blo zs) (i j : Int) : clean (.tuple [.int i, .int j, .list (zs.map .str)]) = true := by
  have h1 := clean_blo p
  simp only [clean, Bool.and_eq_true, cleanA]
  simp only [clean, Bool.and_eq_true] at h1
  simp only [List.length_cons, List.length_nil]
  refine ⟨decide_eq_true (by omega), trivial, trivial, h1, trivial⟩
def pre__law_right (m : Nat) (ds : List PyData) (φ : Nat → PyData → Prop) : Prop := ∃ (h : Nat) (pss : List (List Str)), ds = [.list (pss.map picD)] ∧ 0 < h ∧ h ≤ 6 ∧ Pics h pss ∧ m + 10000 ≤ 2 ^ 40 ∧ ∀ m' : Nat, m' ≤ m + 10000 → φ m' (.bool true)
theorem len__law_right : ∀ m ds φ, pre__law_right m ds φ → ds.length = 1 := by rintro m _ φ ⟨h, pss, rfl, _⟩; rfl
theorem ok__law_right (T : Txt P K mg) : FnG P w K mg base CX0 10 T.a__law_right T.d__law_right ["purse", "pictures"] (SpZ PZ pre__law_right) := by
  refine FnG.ok0 T.F__law_right sc__law_right (spz_len len__law_right) (fun cdv A outer s H vs Q E hr hg h => ?_)
  refine ⟨_, (pss_cons (ps_asg (pe_cg (ok__law_pick (P := P) (w := w) (base := base) T) (by exact hr.mono (by first | decide | omega)) (by exact hg) (by rfl) T.g__law_pick T.F__law_pick.kp (b__law_pick T.F__law_pick) .nil pass0 (pa_cons (pv 0) (pa_cons (pe_lst (pa_cons (pe_tup (pa_cons pe_int (pa_cons pe_int pa_nil))) (pa_cons (pe_tup (pa_cons pe_int (pa_cons pe_int pa_nil))) (pa_cons (pe_tup (pa_cons pe_int (pa_cons pe_int pa_nil))) (pa_cons (pe_tup (pa_cons (pe_cg (ok__law_draw (P := P) (w := w) (base := base) T) (by exact hr.mono (by first | decide | omega)) (by exact hg) (by rfl) T.g__law_draw T.F__law_draw.kp (b__law_draw T.F__law_draw) .nil pass0 (pa_cons (pv 0) (pa_cons pe_int pa_nil))) (pa_cons (pe_cg (ok__law_draw (P := P) (w := w) (base := base) T) (by exact hr.mono (by first | decide | omega)) (by exact hg) (by rfl) T.g__law_draw T.F__law_draw.kp (b__law_draw T.F__law_draw) .nil pass0 (pa_cons (pv 0) (pa_cons pe_int pa_nil))) pa_nil))) (pa_cons (pe_tup (pa_cons pe_int (pa_cons (pe_op op_powW pe_int pe_int) pa_nil))) (pa_cons (pe_tup (pa_cons (pe_op op_powW pe_int pe_int) (pa_cons (pe_op op_powW pe_int pe_int) pa_nil))) pa_nil))))))) pa_nil))) (k_tup (K := K) (n := 2) rfl rfl (pgs_cons (pg_name (i := 2) sc__law_right.nd rfl (by first | exact Or.inl rfl | exact Or.inr rfl)) (pgs_cons (pg_name (i := 3) sc__law_right.nd rfl (by first | exact Or.inl rfl | exact Or.inr rfl)) pgs_nil))))
      (pss_cons (ps_par (i := 4) (j := 5) rfl sc__law_right.nd rfl rfl (by decide) rfl rfl (pa_cons (pe_callB (call_repr (by exact hg) (by exact hr.units)) (by rfl) T.z_repr (by decide +kernel) (pa_cons (pv 1) pa_nil)) (pa_cons (pe_cg (ok__law_first (P := P) (w := w) (base := base) T) (by exact hr.mono (by first | decide | omega)) (by exact hg) (by rfl) T.g__law_first T.F__law_first.kp (b__law_first T.F__law_first) .nil pass0 (pa_cons (pv 1) (pa_cons (pe_op (k_add (K := K) rfl) (pe_op op_mulU pe_int (pv 2)) (pv 3)) pa_nil))) pa_nil)) (by rfl))
      (pss_cons (ps_for PassesOwn.never rfl (pi_r1 rfl T.z_range (pa_cons pe_int pa_nil)) (pg_name (i := 6) sc__law_right.nd rfl (by first | exact Or.inl rfl | exact Or.inr rfl)) (pss_cons (ps_set (i := 7) sc__law_right.nd rfl (by first | exact Or.inl rfl | exact Or.inr rfl) (pe_ifExp (pt_cmpR (k_eq (K := K) rfl (by exact hr.units)) (pv 6) pe_int (nomark _)) (pe_cg (ok_told_apart (P := P) (w := w) (base := base) T) (by exact hr.mono (by first | decide | omega)) (by exact hg) (by rfl) T.g_told_apart T.F_told_apart.kp (b_told_apart T.F_told_apart) .nil passF (pa_cons (pv 1) (pa_cons (pv 2) (pa_cons (pv 3) pa_nil)))) (pe_cgK0 (ok_told_apart (P := P) (w := w) (base := base) T) (by exact hr.mono (by first | decide | omega)) (by exact hg) (by rfl) T.g_told_apart T.F_told_apart.kp (kb_told_apart_blots_spoilt_pictures T.F_told_apart) passF (pk_cons (pv 3) (pk_cons (pv 2) (pk_cons (pv 1) pk_nil))))))
      (pss_one (ps_if (pt_cmpR op_isN' (pv 5) pe_non (nomark _)) (pss_one (ps_if (pt_cmpR op_notN' (pv 7) pe_non (nomark _)) (pss_one (ps_ret pe_bl)) pss_nil)) (pss_one (ps_if (PW.pt (pw_or (pt_not (k_tru (K := K) rfl (pe_callB (k_isi (K := K) rfl) (by rfl) T.z_isinstance (by decide +kernel) (pa_cons (pv 7) (pa_cons (pe_bltn (v := .ty "tuple") (u := .type "tuple") (by rfl) T.z_tuple (by decide +kernel) rfl) pa_nil))) (by intro _; rfl))) (pw_or (pt_cmpR (k_ne (K := K) rfl (by exact hr.units)) (pe_callB (k_len (K := K) rfl) (by rfl) T.z_len (by decide +kernel) (pa_cons (pv 7) pa_nil)) pe_int (nomark _)) (pw_or (pt_cmpR (k_ne (K := K) rfl (by exact hr.units)) (pe_callB (call_repr (by exact hg) (by exact hr.units)) (by rfl) T.z_repr (by decide +kernel) (pa_cons (pe_slice (k_sl (K := K) rfl) (pv 7) po_none (po_some pe_int)) pa_nil)) (pe_callB (call_repr (by exact hg) (by exact hr.units)) (by rfl) T.z_repr (by decide +kernel) (pa_cons (pv 5) pa_nil)) (nomark _)) (pw_or1 (pt_not (k_tru (K := K) rfl (pe_cg (ok__law_is_sheet (P := P) (w := w) (base := base) T) (by exact hr.mono (by first | decide | omega)) (by exact hg) (by rfl) T.g__law_is_sheet T.F__law_is_sheet.kp (b__law_is_sheet T.F__law_is_sheet) .nil pass0 (pa_cons (pe_ix (k_ix (K := K) rfl) (pv 7) pe_int (fun _ _ => rfl)) (pa_cons (pe_callB (k_len (K := K) rfl) (by rfl) T.z_len (by decide +kernel) (pa_cons (pe_ix (k_ix (K := K) rfl) (pv 1) pe_int (fun _ _ => rfl)) pa_nil)) pa_nil))) (by intro _; rfl)))))))) (pss_one (ps_ret pe_bl)) (pss_one (ps_if (PW.pt (pw_or (pt_not (k_tru (K := K) rfl (pe_callB (k_all (K := K) rfl rfl) (by rfl) T.z_all (by decide +kernel) (pa_cons (pe_lc (own := [("place", 11)]) rfl sc__law_right.nd (k_ptup (K := K) rfl (pv 5)) (blkOk_by (own := [("place", 11)]) (N := nm__law_right) (by rfl)) (fun _ _ _ _ _ => (pg_name (i := 11) sc__law_right.nd rfl (by first | exact Or.inl rfl | exact Or.inr rfl))) (fun _ _ _ _ _ => pts_nil) (fun _ _ _ _ _ => (pe_cg (ok__law_could (P := P) (w := w) (base := base) T) (by exact hr.mono (by first | decide | omega)) (by exact hg) (by rfl) T.g__law_could T.F__law_could.kp (b__law_could T.F__law_could) .nil pass0 (pa_cons (pe_ix (k_ix (K := K) rfl) (pv 1) (pv 11) (fun _ _ => rfl)) (pa_cons (pe_ix (k_ix (K := K) rfl) (pv 7) pe_int (fun _ _ => rfl)) (pa_cons (pv 2) (pa_cons (pv 3) pa_nil))))))) pa_nil)) (by intro _; rfl))) (pw_or1 (pt_not (k_tru (K := K) rfl (pe_cg (ok__law_spoilt (P := P) (w := w) (base := base) T) (by exact hr.mono (by first | decide | omega)) (by exact hg) (by rfl) T.g__law_spoilt T.F__law_spoilt.kp (b__law_spoilt T.F__law_spoilt) .nil pass0 (pa_cons (pv 7) pa_nil)) (by intro _; rfl)))))) (pss_one (ps_ret pe_bl)) pss_nil))))))))
      (pss_cons (ps_for PassesOwn.never rfl (pi_r1 rfl T.z_range (pa_cons pe_int pa_nil)) (pg_name (i := 6) sc__law_right.nd rfl (by first | exact Or.inl rfl | exact Or.inr rfl)) (pss_cons (ps_set (i := 8) sc__law_right.nd rfl (by first | exact Or.inl rfl | exact Or.inr rfl) (pe_cg (ok__law_draw (P := P) (w := w) (base := base) T) (by exact hr.mono (by first | decide | omega)) (by exact hg) (by rfl) T.g__law_draw T.F__law_draw.kp (b__law_draw T.F__law_draw) .nil pass0 (pa_cons (pv 0) (pa_cons (pe_callB (k_len (K := K) rfl) (by rfl) T.z_len (by decide +kernel) (pa_cons (pv 1) pa_nil)) pa_nil))))
      (pss_cons (ps_set (i := 9) sc__law_right.nd rfl (by first | exact Or.inl rfl | exact Or.inr rfl) (pe_cg (ok__law_spoilt_rows (P := P) (w := w) (base := base) T) (by exact hr.mono (by first | decide | omega)) (by exact hg) (by rfl) T.g__law_spoilt_rows T.F__law_spoilt_rows.kp (b__law_spoilt_rows T.F__law_spoilt_rows) .nil pass0 (pa_cons (pv 0) (pa_cons (pe_ix (k_ix (K := K) rfl) (pv 1) (pv 8) (fun _ _ => rfl)) (pa_cons (pe_op (k_add (K := K) rfl) (pe_callB (call_min2' rfl) (by rfl) T.z_min (by decide +kernel) (pa_cons (pv 2) (pa_cons pe_int pa_nil))) (pe_cg (ok__law_draw (P := P) (w := w) (base := base) T) (by exact hr.mono (by first | decide | omega)) (by exact hg) (by rfl) T.g__law_draw T.F__law_draw.kp (b__law_draw T.F__law_draw) .nil pass0 (pa_cons (pv 0) (pa_cons pe_int pa_nil)))) (pa_cons pe_bl pa_nil))))))
      (pss_cons (ps_set (i := 9) sc__law_right.nd rfl (by first | exact Or.inl rfl | exact Or.inr rfl) (pe_cg (ok__law_blots (P := P) (w := w) (base := base) T) (by exact hr.mono (by first | decide | omega)) (by exact hg) (by rfl) T.g__law_blots T.F__law_blots.kp (b__law_blots T.F__law_blots) .nil pass0 (pa_cons (pv 0) (pa_cons (pv 9) (pa_cons (pe_callB (call_min2' rfl) (by rfl) T.z_min (by decide +kernel) (pa_cons (pv 3) (pa_cons pe_int pa_nil))) pa_nil)))))
      (pss_cons (ps_set (i := 10) sc__law_right.nd rfl (by first | exact Or.inl rfl | exact Or.inr rfl) (pe_cg (ok_nearest_of (P := P) (w := w) (base := base) T) (by exact hr.mono (by first | decide | omega)) (by exact hg) (by rfl) T.g_nearest_of T.F_nearest_of.kp (b_nearest_of T.F_nearest_of) .nil passF (pa_cons (pv 1) (pa_cons (pv 9) pa_nil))))
      (pss_cons (ps_if (PW.pt (pw_or (pt_not (k_tru (K := K) rfl (pe_cg (ok__law_same (P := P) (w := w) (base := base) T) (by exact hr.mono (by first | decide | omega)) (by exact hg) (by rfl) T.g__law_same T.F__law_same.kp (b__law_same T.F__law_same) .nil pass0 (pa_cons (pv 10) (pa_cons (pe_cg (ok__law_nearest (P := P) (w := w) (base := base) T) (by exact hr.mono (by first | decide | omega)) (by exact hg) (by rfl) T.g__law_nearest T.F__law_nearest.kp (b__law_nearest T.F__law_nearest) .nil pass0 (pa_cons (pv 1) (pa_cons (pv 9) pa_nil))) pa_nil))) (by intro _; rfl))) (pw_or1 (pt_not (k_tru (K := K) rfl (pe_cg (ok__law_spoilt (P := P) (w := w) (base := base) T) (by exact hr.mono (by first | decide | omega)) (by exact hg) (by rfl) T.g__law_spoilt T.F__law_spoilt.kp (b__law_spoilt T.F__law_spoilt) .nil pass0 (pa_cons (pv 10) pa_nil)) (by intro _; rfl)))))) (pss_one (ps_ret pe_bl)) pss_nil)
      (pss_one (ps_if (PW.pt (pw_and (pt_cmpR op_isN' (pv 5) pe_non (nomark _)) (pw_and1 (k_tru (K := K) rfl (pe_cg (ok__law_could (P := P) (w := w) (base := base) T) (by exact hr.mono (by first | decide | omega)) (by exact hg) (by rfl) T.g__law_could T.F__law_could.kp (b__law_could T.F__law_could) .nil pass0 (pa_cons (pe_ix (k_ix (K := K) rfl) (pv 1) (pv 8) (fun _ _ => rfl)) (pa_cons (pv 9) (pa_cons (pv 2) (pa_cons (pv 3) pa_nil))))) (by intro _; rfl))))) (pss_cons (ps_set (i := 10) sc__law_right.nd rfl (by first | exact Or.inl rfl | exact Or.inr rfl) (pe_cgK0 (ok_nearest_of (P := P) (w := w) (base := base) T) (by exact hr.mono (by first | decide | omega)) (by exact hg) (by rfl) T.g_nearest_of T.F_nearest_of.kp (kb_nearest_of_blotted_pictures T.F_nearest_of) passF (pk_cons (pv 9) (pk_cons (pv 1) pk_nil))))
      (pss_one (ps_if (PW.pt (pw_or (pt_cmpR (op_notInD (by have := hr.un; omega)) (pv 8) (pe_ix (k_ix (K := K) rfl) (pv 10) pe_int (fun _ _ => rfl)) (by rfl)) (pw_or1 (pt_cmpR (k_ne (K := K) rfl (by exact hr.units)) (pe_lc (own := [("i", 12)]) rfl sc__law_right.nd (k_plist (K := K) rfl (pe_ix (k_ix (K := K) rfl) (pv 10) pe_int (fun _ _ => rfl))) (blkOk_by (own := [("i", 12)]) (N := nm__law_right) (by rfl)) (fun _ _ _ _ _ => (pg_name (i := 12) sc__law_right.nd rfl (by first | exact Or.inl rfl | exact Or.inr rfl))) (fun _ _ _ _ _ => (pts_one (pt_cmpR (k_ne (K := K) rfl (by exact hr.units)) (pe_cg (ok__law_far (P := P) (w := w) (base := base) T) (by exact hr.mono (by first | decide | omega)) (by exact hg) (by rfl) T.g__law_far T.F__law_far.kp (b__law_far T.F__law_far) .nil pass0 (pa_cons (pe_ix (k_ix (K := K) rfl) (pv 1) (pv 12) (fun _ _ => rfl)) (pa_cons (pe_ix (k_ix (K := K) rfl) (pv 1) (pv 8) (fun _ _ => rfl)) pa_nil))) (pe_lst pa_nil) (nomark _)))) (fun _ _ _ _ _ => (pv 12))) (pe_lst pa_nil) (nomark _))))) (pss_one (ps_ret pe_bl)) pss_nil))) pss_nil))))))))
      (pss_one (ps_ret (pe_cmpR (k_eq (K := K) rfl (by exact hr.units)) (pe_callB (call_repr (by exact hg) (by exact hr.units)) (by rfl) T.z_repr (by decide +kernel) (pa_cons (pv 1) pa_nil)) (pv 4) (nomark _)))))))), fn_z (by decide) len__law_right (fun F G0 p m ds φ hp => ?_) h⟩
  obtain ⟨h, pss, rfl, hh0, hh6, pp, hm, q⟩ := hp
  have hn0 := pp.n0
  have hn1 := pp.n1
  have ok := oks_pics pp hh6
  refine q_seq (q_asg (js := [2, 3]) ?_)
  walk_at "dv"
  refine ⟨6, rfl, by decide, by decide, by omega, fun r1 hr1 => ?_⟩
  walk_at "dv"
  refine ⟨6, rfl, by decide, by decide, by omega, fun r2 hr2 => ?_⟩
  walk_at "dv"
  refine op2_powW (n := 4) (by decide) (by decide) (by decide) ?_
  walk_at "dv"
  refine op2_powW (n := 4) (by decide) (by decide) (by decide) ?_
  walk_at "dv"
  refine op2_powW (n := 4) (by decide) (by decide) (by decide) ?_
  walk_at "dv"
  refine ⟨_, rfl, by simp, by simp, by omega, fun x hx => ?_⟩
  have hx' : ∃ s b : Nat, x = pD (s, b) := by
    simp only [List.mem_cons, List.not_mem_nil, or_false] at hx
    rcases hx with rfl | rfl | rfl | rfl | rfl | rfl
    · exact ⟨0, 0, rfl⟩
    · exact ⟨0, 1, rfl⟩
    · exact ⟨1, 0, rfl⟩
    · exact ⟨r1, r2, rfl⟩
    · exact ⟨0, 10 ^ 30, pd_eq rfl (by decide +kernel)⟩
    · exact ⟨10 ^ 30, 10 ^ 30, pd_eq (by decide +kernel) (by decide +kernel)⟩
  obtain ⟨s, b, rfl⟩ := hx'
  refine wg_tup rfl (wgs_cons (wg_name (wgs_cons (wg_name (wgs_nil ?_)))))
  refine q_seq (q_par ?_)
  walk_at "dv"
  refine (opc_repr ok ?_).op
  walk_at "dv"
  refine ⟨h, pss, 2 * s + b, by rw [Int.natCast_add, Int.natCast_mul]; rfl, pp, fun o ho => ?_⟩
  walk_at "dv"
  have key : ∀ φ : PyData → Prop, φ (toldD pss b o) → pre_told_apart [.list (pss.map picD), .int s, .int b] φ := fun φ k => ⟨h, pss, s, b, rfl, pp, fun hno => by
    have e : o = none := first_unique ho (b := none) hno
    subst e
    exact k, fun i j hf => by
    have e := first_unique ho hf
    subst e
    exact k⟩
  refine q_for (js := [6]) (wi_r1 ?_)
  walk_at "dv"
  refine ⟨fun i ρ => ∃ s6 s7, ρ = [.res (lstP p (PZ (m + 1 + 1 + 1))), .val (.list (pss.map picD)), .val (.int s), .val (.int b), .val (.str (PyData.list (pss.map picD)).shown), .val (optP o), s6, s7, .any, .any, .any, .any, .any], ⟨_, _, rfl⟩, ?_, ?_⟩
  · rintro t d _ hd ⟨s6, s7, rfl⟩
    obtain ⟨_, rfl⟩ := inz_get hd
    refine wg_name ?_
    refine q_seq (q_setO (wr_if ?_))
    walk_at "dv"
    refine ⟨fun _ => ?_, fun _ => ?_⟩
    all_goals
      first | refine wr_call ?_ | refine wr_callK ?_
      walk_at "dv"
      refine key _ fun L => ?_
      try dsimp only [List.set_cons_zero, List.set_cons_succ]
      clear key
      cases o with
      | none =>
        refine q_if (wt_test (we_op (we_var rfl (we_non (op2_isN ⟨_, rfl, fun _ => ?_, fun h => (by cases h)⟩).op))))
        refine q_if (own_isntN (i := 7) rfl ⟨fun h => (by cases h), fun _ => ?_⟩)
        exact q_nx ⟨_, _, rfl⟩
      | some ij =>
        obtain ⟨i, j⟩ := ij
        obtain ⟨hij, hj, hN, _⟩ := ho
        have hi : i < pss.length := by omega
        have pi := pp.pic _ (pAt_mem hi)
        have pj := pp.pic _ (pAt_mem hj)
        have li := pp.hi _ (pAt_mem hi)
        have lj := pp.hi _ (pAt_mem hj)
        have hb := half_facts pi pj (by omega) hN.2
        refine q_if (wt_test (we_op (we_var rfl (we_non (op2_isN ⟨_, rfl, fun h => (by cases h), fun _ => ?_⟩).op))))
        have ok2 : Oks (.tuple [.int (i : Int), .int (j : Int)]) := (OksN.tuple (n := 0) (m := 10) fun d hd => by
          simp only [List.mem_cons, List.not_mem_nil, or_false] at hd
          rcases hd with rfl | rfl <;> exact .nat (by omega)).oks (by decide) (by simp)
        dsimp only [toldD, optP]
        refine q_if (wt_lend (i := 7) rfl ?_)
        walk_at "dv"
        refine (opc_repr ok2 ?_).op
        walk_at "dv"
        refine (opc_repr ok2 ?_).op
        refine (op2_neS ⟨_, rfl, ?_⟩).op
        rw [show (!(PyData.tuple [PyData.int (i : Int), PyData.int (j : Int)]).shown == (PyData.tuple [PyData.int (i : Int), PyData.int (j : Int)]).shown) = false by simp]
        refine ⟨fun h => (by cases h), fun _ => ?_⟩
        walk_at "dv"
        refine op2_ixT (d := .list ((halfR (pAt pss i) (pAt pss j) b).map .str)) rfl ?_
        walk_at "dv"
        refine op2_ixL (pAt_at (i := 0) picD hn0) ?_
        walk_at "dv"
        refine ⟨_, _, rfl, hb.1, by rw [List.length_map, hb.2.1, li, pp.hi _ (pAt_mem hn0)], ?_⟩
        refine tru_b (nb_t ?_)
        refine q_if (wt_or (wt_not (wt_lend (i := 7) rfl ?_)))
        walk_at "dv"
        refine we_new (wn_lcM (α := Nat) (js := [11]) (by decide) (wi_tup ?_))
        walk_at "dv"
        refine ⟨[i, j], fun (n : Nat) => .int (n : Int), rfl, by simp, rfl, fun _ => .bool true, fun n hn => ?_, ?_⟩
        · have hn' : n = i ∨ n = j := by simpa using hn
          have hnl : n < pss.length := by omega
          have pn := pp.pic _ (pAt_mem hnl)
          have ln := pp.hi _ (pAt_mem hnl)
          refine wg_name ⟨rfl, ?_⟩
          walk_at "dv"
          refine op2_ixL (pAt_at picD hnl) ?_
          walk_at "dv"
          refine op2_ixT (d := .list ((halfR (pAt pss i) (pAt pss j) b).map .str)) rfl ?_
          walk_at "dv"
          refine ⟨_, _, s, b, rfl, pn.blo, hb.1, by rw [hb.2.1, li, ln], ?_⟩
          have hfn : farN (pAt pss n) (halfR (pAt pss i) (pAt pss j) b) ≤ s := by
            rcases hn' with rfl | rfl
            · exact hb.2.2.1
            · exact hb.2.2.2.1
          rw [decide_eq_true hfn, decide_eq_true hb.2.2.2.2]
          exact ⟨rfl, rfl⟩
        walk_at "dv"
        refine (opc_allM ?_).op
        rw [show (([i, j] : List Nat).all fun _ => true) = true by simp]
        refine tru_b (nb_t ?_)
        refine wt_not (wt_tru (we_spoilt (i := 7) rfl (told_clean hb.1 _ _) ?_ ?_))
        · have : (PyData.list ((halfR (pAt pss i) (pAt pss j) b).map .str)).depth ≤ 1 := (okd_strsB hb.1).dp
          show _ < 8
          have : (PyData.tuple [.int (i : Int), .int (j : Int), .list ((halfR (pAt pss i) (pAt pss j) b).map .str)]).depth ≤ 2 := (OkdN.tuple (n := 1) fun d hd => by
            simp only [List.mem_cons, List.not_mem_nil, or_false] at hd
            rcases hd with rfl | rfl | rfl
            · exact .int
            · exact .int
            · exact okd_strsB hb.1).dp
          omega
        refine tru_b (nb_t ?_)
        exact q_nx ⟨_, _, rfl⟩
  · rintro _ ⟨s6, s7, rfl⟩
    refine q_seq (q_for (js := [6]) (wi_r1 ?_))
    walk_at "dv"
    refine ⟨fun i ρ => ∃ (m1 : Nat) (s6 s7 s8 s9 s10 : Slot), m1 ≤ m + 3 + i * 1000 ∧ ρ = [.res (lstP p (PZ m1)), .val (.list (pss.map picD)), .val (.int s), .val (.int b), .val (.str (PyData.list (pss.map picD)).shown), .val (optP o), s6, s7, s8, s9, s10, .any, .any], ⟨_, _, _, _, _, _, by omega, rfl⟩, ?_, ?_⟩
    · rintro t d _ hd ⟨m1, s6, s7, s8, s9, s10, hm1, rfl⟩
      obtain ⟨ht, rfl⟩ := inz_get hd
      have ht : t < 4 := ht
      refine wg_name ?_
      refine q_seq (q_set ?_)
      walk_at "dv"
      refine ⟨pss.length, by rw [List.length_map], hn0, by omega, by omega, fun a ha => ?_⟩
      have pa := pp.pic _ (pAt_mem ha)
      have la := pp.hi _ (pAt_mem ha)
      refine q_seq (q_set ?_)
      walk_at "dv"
      refine op2_ixL (pAt_at picD ha) ?_
      walk_at "dv"
      refine ⟨2, rfl, by decide, by decide, by omega, fun r hr => ?_⟩
      walk_at "dv"
      refine ⟨pAt pss a, min s 5 + r, false, ?_, pa.blo, by omega, by omega, fun m2 ys hm2 hyl py _ hyw => ?_⟩
      · rw [show min (s : Int) 5 + (r : Int) = ((min s 5 + r : Nat) : Int) by omega]
      walk_at "dv"
      refine ⟨ys, min b 5, ?_, py, by omega, by omega, by omega, fun m3 bs hm3 hbl pb => ?_⟩
      · rw [show min (b : Int) 5 = ((min b 5 : Nat) : Int) by omega]
      have hbh : bs.length = h := by omega
      refine q_seq (q_setO (wr_call ?_))
      walk_at "dv"
      refine ⟨h, pss, bs, rfl, pp, pb, hbh, fun L => ?_⟩
      try dsimp only [List.set_cons_zero, List.set_cons_succ]
      refine q_seq (q_if (wt_or (wt_not (wt_lend (i := 10) rfl ?_))))
      walk_at "dv"
      refine ⟨h, pss, bs, rfl, pp, pb, hbh, ?_⟩
      walk_at "dv"
      refine same8 (n := 2) (nearD_okd pss bs) (by decide) (nearD_sml pp bs) ?_
      refine tru_b (nb_t ?_)
      refine wt_not (wt_tru (we_spoilt (i := 10) rfl (nearD_clean pp bs) ?_ ?_))
      · have := (nearD_okd pss bs).dp
        show _ < 8
        omega
      refine tru_b (nb_t (q_nx ?_))
      try dsimp only [List.set_cons_zero, List.set_cons_succ]
      cases o with
      | some ij =>
        obtain ⟨i, j⟩ := ij
        refine q_if (wt_and (wt_test (we_op (we_var rfl (we_non (op2_isN ⟨_, rfl, fun h => (by cases h), fun _ => ?_⟩).op)))))
        refine ⟨fun h => (by cases h), fun _ => ?_⟩
        exact q_nx ⟨_, _, _, _, _, _, by omega, rfl⟩
      | none =>
        refine q_if (wt_and (wt_test (we_op (we_var rfl (we_non (op2_isN ⟨_, rfl, fun _ => ?_, fun h => (by cases h)⟩).op)))))
        walk_at "dv"
        refine op2_ixL (pAt_at picD ha) ?_
        walk_at "dv"
        refine ⟨pAt pss a, bs, s, b, rfl, pa.blo, pb, by omega, ?_⟩
        refine tru_b ⟨fun hc => ?_, fun hc => q_nx ⟨_, _, _, _, _, _, by omega, rfl⟩⟩
        rw [Bool.and_eq_true] at hc
        have c1 := of_decide_eq_true hc.1
        have c2 := of_decide_eq_true hc.2
        obtain ⟨g1, g2⟩ := at_places pp pb hbh ho ha c1 c2
        refine q_seq (q_set (we_own (wr_callK ?_)))
        walk_at "dv"
        refine ⟨h, pss, bs, rfl, pp, pb, hbh, ?_⟩
        have okp : Okd (.list ((placesL pss bs).map fun (i : Nat) => .int (i : Int))) := (OkdN.list (n := 0) fun e he => by
          obtain ⟨i, _, rfl⟩ := List.mem_map.mp he
          exact .int).okd (by decide)
        refine q_if (wt_or ?_)
        walk_at "dv"
        refine op2_ixT (d := .list ((placesL pss bs).map fun (i : Nat) => .int (i : Int))) rfl ?_
        refine (op2_notInD (OkdN.okd (OkdN.int (n := 0)) (by decide)) okp ?_).op
        rw [any_ints (fun (i : Nat) => (i : Int)) a]
        have hany : ((placesL pss bs).any fun i => (i : Int) == (a : Int)) = true := List.any_eq_true.mpr ⟨a, g1, by simp⟩
        rw [hany]
        refine ⟨_, rfl, fun h => (by cases h), fun _ => ?_⟩
        walk_at "dv"
        refine we_new (wn_lcT (α := Nat) (js := [12]) (by decide) (wi_list ?_))
        walk_at "dv"
        refine op2_ixT (d := .list ((placesL pss bs).map fun (i : Nat) => .int (i : Int))) rfl ?_
        refine ⟨_, rfl, placesL pss bs, fun (i : Nat) => .int (i : Int), rfl, by have := places_len pss bs; omega, rfl, fun _ => false, fun (i : Nat) => .int (i : Int), fun i hi => ?_, ?_⟩
        · obtain ⟨g3, g4⟩ := g2 i hi
          have pi := pp.pic _ (pAt_mem g3)
          have li := pp.hi _ (pAt_mem g3)
          refine wg_name ⟨rfl, ?_⟩
          walk_at "dv"
          refine op2_ixL (pAt_at picD g3) ?_
          walk_at "dv"
          refine op2_ixL (pAt_at picD ha) ?_
          walk_at "dv"
          refine ⟨_, _, rfl, pi.blo, pa.blo, by omega, fun es hes hok => ?_⟩
          walk_at "dv"
          have he0 : es = [] := List.eq_nil_of_length_eq_zero (by omega)
          subst he0
          refine (op2_neNil ⟨rfl, rfl⟩ ?_).op
          exact ⟨_, rfl, rfl, rfl, fun z => nomatch z⟩
        rw [show ((placesL pss bs).filter fun _ => false).map (fun (i : Nat) => PyData.int (i : Int)) = [] by simp]
        walk_at "dv"
        refine (op2_neNil ⟨rfl, rfl⟩ ?_).op
        refine ⟨_, rfl, fun h => (by cases h), fun _ => ?_⟩
        exact q_nx ⟨_, _, _, _, _, _, by omega, rfl⟩
    · rintro _ ⟨m1, s6, s7, s8, s9, s10, hm1, rfl⟩
      have hm1 : m1 ≤ m + 3 + 4 * 1000 := hm1
      walk_at "dv"
      refine (opc_repr ok ?_).op
      walk_at "dv"
      rw [show ((PyData.list (pss.map picD)).shown == (PyData.list (pss.map picD)).shown) = true by simp]
      exact q m1 (by omega)
end

--@passes told_apart nearest_of

section
variable {P : Program} {w : World} {K : PySem.W.Frag} {mg : Str → Option Value} {base : Heap}

def sp_law (K : PySem.W.Frag) : Sp := fun vs H Q _ => ∃ (a : Addr) (ns : List Int), vs = [.ref a] ∧ SqL K H a (ns.map V.int) ∧ ∀ H' : Hp, Q (.bl true) H'
theorem len_law : ∀ vs H Q E, sp_law K vs H Q E → vs.length = 1 := by rintro _ H Q E ⟨a, ns, rfl, _⟩; rfl
theorem sta_law {n : Nat} {H G' H' : Hp} {a p : Addr} (h1 : Same H G') (h2 : Same H H') (h3 : Same G' H') (h4 : ∀ b o, G' b = some o → H b ≠ none → H b = some o) (hH : H p = none) (hG : G' p = none) (ok : (lstP p (PZ 0)).ok G' H' (.ref p)) :
    Sta H H G' H' (some (.ref a) :: some (.ref p) :: List.replicate n none) (.any :: .res (lstP p (PZ 0)) :: List.replicate n .any) := by
  refine ⟨h2, h3, h1, h4, by simp, fun i x ex => ?_, fun i j x y hij e1 e2 a ha hb => ?_⟩
  · rcases i with _ | _ | i
    · simp at ex
      subst ex
      trivial
    · simp at ex
      subst ex
      refine ⟨.ref p, rfl, ok, fun b hb => ?_⟩
      obtain rfl := List.mem_singleton.mp hb
      obtain ⟨_, xs, ds, e, _⟩ := ok
      exact ⟨hH, hG, by rw [e]; simp⟩
    · have hx : x = .any := by
        simp only [List.getElem?_cons_succ] at ex
        exact List.eq_of_mem_replicate (List.mem_of_getElem? ex)
      subst hx
      trivial
  · rcases j with _ | _ | j
    · omega
    · have : i = 0 := by omega
      subst this
      simp at e1
      subst e1
      cases ha
    · have hy : y = .any := by
        simp only [List.getElem?_cons_succ] at e2
        exact List.eq_of_mem_replicate (List.mem_of_getElem? e2)
      subst hy
      cases hb
def five (z : Str) : Str := cutS z none (some 5)
def five2 (z : Str) : Str := z ++ repS (Str.ofString ".") (5 - z.length)
theorem tl_five (z : Str) : tl (five z) = (tl z).take 5 := tl_cutS z 5
theorem len_five (z : Str) : (five z).length ≤ 5 := by
  rw [len_tl, tl_five, List.length_take]
  omega
theorem tl_five2 (z : Str) : tl (five2 z) = tl z ++ List.replicate (5 - z.length) 46 := by
  have lr : tl (repS (Str.ofString "." : Str) (5 - z.length)) = List.replicate (5 - z.length) 46 := tl_repC 46 _
  unfold five2
  rw [tl_append, lr]
theorem pics_cut {h : Nat} {pss : List (List Str)} (pp : Pics h pss) (h0 : 0 < h) (h6 : h ≤ 6) : ∃ k, 0 < k ∧ k ≤ 6 ∧ Pics k ((pss.map fun zs => (zs.take 2).map five).map fun zs => zs.map five2) := by
  refine ⟨min 2 h, by omega, by omega, by rw [List.length_map, List.length_map]; exact pp.n0, by rw [List.length_map, List.length_map]; exact pp.n1, fun ys hy => ?_, fun ys hy => ?_⟩
  · rw [List.map_map] at hy
    obtain ⟨zs, hz, rfl⟩ := List.mem_map.mp hy
    have pz := pp.pic zs hz
    refine (mkPic (wd := 5) ?_ (by omega) fun y hy => ?_).1
    · show (((zs.take 2).map five).map five2).length ≤ 120
      rw [List.length_map, List.length_map, List.length_take]
      omega
    · have hy : y ∈ ((zs.take 2).map five).map five2 := hy
      rw [List.map_map] at hy
      obtain ⟨z, hz2, rfl⟩ := List.mem_map.mp hy
      have hz3 := List.mem_of_mem_take hz2
      have l5 := len_five z
      show (five2 (five z)).length = 5 ∧ ∀ c ∈ tl (five2 (five z)), c = 46 ∨ c = 35
      rw [len_tl, tl_five2]
      refine ⟨?_, fun c hc => ?_⟩
      · rw [List.length_append, List.length_replicate, ← len_tl]
        omega
      · rcases List.mem_append.mp hc with hc | hc
        · rw [tl_five] at hc
          exact pz.dots z hz3 c (List.mem_of_mem_take hc)
        · exact .inl (List.eq_of_mem_replicate hc)
  · rw [List.map_map] at hy
    obtain ⟨zs, hz, rfl⟩ := List.mem_map.mp hy
    show (((zs.take 2).map five).map five2).length = _
    rw [List.length_map, List.length_map, List.length_take, pp.hi zs hz]
theorem pics_nil {n : Nat} (h0 : 0 < n) (h1 : n ≤ 60) : Pics 0 (List.replicate n []) := by
  refine ⟨by simp; omega, by simp; omega, fun zs hz => ?_, fun zs hz => ?_⟩
  · rw [List.eq_of_mem_replicate hz]
    exact ⟨by simp, by decide, fun z hz => (nomatch hz), fun z hz => (nomatch hz)⟩
  · rw [List.eq_of_mem_replicate hz]
    rfl
theorem pAt_nil (n i : Nat) : pAt (List.replicate n []) i = [] := by
  unfold pAt
  rw [List.getD_eq_getElem?_getD]
  by_cases h : i < n
  · rw [List.getElem?_eq_getElem (by simpa using h), List.getElem_replicate]
    rfl
  · rw [List.getElem?_eq_none (by simp; omega)]
    rfl
theorem near_nil (n b i j : Nat) : ¬ Near (List.replicate n []) b i j := fun h => by
  have h1 := h.1
  rw [pAt_nil, pAt_nil] at h1
  exact absurd h1 (by decide)
theorem ok_law (T : Txt P K mg) : FnG P w K mg base CX0 11 T.a_law T.d_law ["script"] (sp_law K) := by
  refine FnG.ok0 T.F_law sc_law len_law (fun cdv A outer s H vs Q E hr hg h => ?_)
  refine ⟨_, (pss_cons (ps_set (i := 1) sc_law.nd rfl (by first | exact Or.inl rfl | exact Or.inr rfl) (pe_cg (ok__law_purse (P := P) (w := w) (base := base) T) (by exact hr.mono (by first | decide | omega)) (by exact hg) (by rfl) T.g__law_purse T.F__law_purse.kp (b__law_purse T.F__law_purse) .nil pass0 (pa_cons (pv 0) pa_nil)))
      (pss_cons (ps_for PassesOwn.never rfl (k_plist (K := K) rfl (pe_lst (pa_cons pe_int (pa_cons pe_int (pa_cons pe_int (pa_cons pe_int (pa_cons pe_int pa_nil))))))) (pg_name (i := 2) sc_law.nd rfl (by first | exact Or.inl rfl | exact Or.inr rfl)) (pss_cons (ps_set (i := 3) sc_law.nd rfl (by first | exact Or.inl rfl | exact Or.inr rfl) (pe_cg (ok__law_list (P := P) (w := w) (base := base) T) (by exact hr.mono (by first | decide | omega)) (by exact hg) (by rfl) T.g__law_list T.F__law_list.kp (b__law_list T.F__law_list) .nil pass0 (pa_cons (pv 1) (pa_cons (pv 2) pa_nil))))
      (pss_cons (ps_if (pt_cmpR op_gt (pe_callB (k_len (K := K) rfl) (by rfl) T.z_len (by decide +kernel) (pa_cons (pv 3) pa_nil)) pe_int (nomark _)) (pss_cons (ps_setLc (i := 3) (own := [("picture", 4)]) (by rfl) sc_law.nd rfl rfl (sw_true rfl rfl rfl (by decide +kernel)) (k_plist (K := K) rfl (pv 3)) (blkOk_by (own := [("picture", 4)]) (N := nm_law) (by rfl)) (fun _ _ _ _ _ => (pg_name (i := 4) sc_law.nd rfl (by first | exact Or.inl rfl | exact Or.inr rfl))) (fun _ _ _ _ _ => pts_nil) (fun _ _ _ _ _ => (pe_lc (own := [("row", 5)]) rfl sc_law.nd (k_plist (K := K) rfl (pe_slice (k_sl (K := K) rfl) (pv 4) po_none (po_some pe_int))) (blkOk_by (own := [("row", 5)]) (N := nm_law) (by rfl)) (fun _ _ _ _ _ => (pg_name (i := 5) sc_law.nd rfl (by first | exact Or.inl rfl | exact Or.inr rfl))) (fun _ _ _ _ _ => pts_nil) (fun _ _ _ _ _ => (pe_slice (k_sl (K := K) rfl) (pv 5) po_none (po_some pe_int))))))
      (pss_one (ps_setLc (i := 3) (own := [("picture", 4)]) (by rfl) sc_law.nd rfl rfl (sw_true rfl rfl rfl (by decide +kernel)) (k_plist (K := K) rfl (pv 3)) (blkOk_by (own := [("picture", 4)]) (N := nm_law) (by rfl)) (fun _ _ _ _ _ => (pg_name (i := 4) sc_law.nd rfl (by first | exact Or.inl rfl | exact Or.inr rfl))) (fun _ _ _ _ _ => pts_nil) (fun _ _ _ _ _ => (pe_lc (own := [("row", 5)]) rfl sc_law.nd (k_plist (K := K) rfl (pv 4)) (blkOk_by (own := [("row", 5)]) (N := nm_law) (by rfl)) (fun _ _ _ _ _ => (pg_name (i := 5) sc_law.nd rfl (by first | exact Or.inl rfl | exact Or.inr rfl))) (fun _ _ _ _ _ => pts_nil) (fun _ _ _ _ _ => (pe_op (k_add (K := K) rfl) (pv 5) (pe_op op_mulU pe_str (pe_op op_sub pe_int (pe_callB (k_len (K := K) rfl) (by rfl) T.z_len (by decide +kernel) (pa_cons (pv 5) pa_nil))))))))))) pss_nil)
      (pss_one (ps_if (pt_not (k_tru (K := K) rfl (pe_cg (ok__law_right (P := P) (w := w) (base := base) T) (by exact hr.mono (by first | decide | omega)) (by exact hg) (by rfl) T.g__law_right T.F__law_right.kp (b__law_right T.F__law_right) .nil pass0 (pa_cons (pv 1) (pa_cons (pv 3) pa_nil))) (by intro _; rfl))) (pss_one (ps_ret pe_bl)) pss_nil)))))
      (pss_one (ps_ret (k_andT (K := K) rfl (pe_cmpR op_isN' (pe_cg (ok_told_apart (P := P) (w := w) (base := base) T) (by exact hr.mono (by first | decide | omega)) (by exact hg) (by rfl) T.g_told_apart T.F_told_apart.kp (b_told_apart T.F_told_apart) .nil passF (pa_cons (pe_lst (pa_cons (pe_lst pa_nil) (pa_cons (pe_lst pa_nil) pa_nil))) (pa_cons pe_int (pa_cons pe_int pa_nil)))) pe_non (nomark _)) (pe_one (pe_cg (ok__law_same (P := P) (w := w) (base := base) T) (by exact hr.mono (by first | decide | omega)) (by exact hg) (by rfl) T.g__law_same T.F__law_same.kp (b__law_same T.F__law_same) .nil pass0 (pa_cons (pe_cg (ok_nearest_of (P := P) (w := w) (base := base) T) (by exact hr.mono (by first | decide | omega)) (by exact hg) (by rfl) T.g_nearest_of T.F_nearest_of.kp (b_nearest_of T.F_nearest_of) .nil passF (pa_cons (pe_lst (pa_cons (pe_lst pa_nil) pa_nil)) (pa_cons (pe_lst pa_nil) pa_nil))) (pa_cons (pe_tup (pa_cons pe_int (pa_cons (pe_lst (pa_cons pe_int pa_nil)) pa_nil))) pa_nil))))))))), ?_⟩
  obtain ⟨a, ns, rfl, hS, q⟩ := h
  refine ⟨.ref a, rfl, a, ns, rfl, hS, fun p G' H' k1 k2 k3 k4 k5 k6 k7 => ?_⟩
  dsimp only [gName]
  rw [show (L2.start nm_law [V.ref a]).set 1 (some (V.ref p)) = some (.ref a) :: some (.ref p) :: List.replicate 4 none from rfl]
  refine (?_ : Ws H H _ _ ⟨fun _ => False, fun d _ => d = .bool true, fun _ => False, fun _ => False⟩) G' H' _ (sta_law k1 k2 k3 k4 k5 k6 k7) _ (fun _ _ _ _ _ _ z => z.elim) (fun v d _ _ _ H2 _ _ rd hd => ?_) (fun _ _ _ _ _ _ z => z.elim) (fun _ _ _ _ _ _ z => z.elim)
  · show Ws H H _ [.any, .res (lstP p (PZ 0)), .any, .any, .any, .any] _
    refine q_seq (q_for (js := [2]) (wi_list ?_))
    walk_at "dv"
    refine ⟨fun i ρ => ∃ (m : Nat) (s2 s3 : Slot), m ≤ i * 5000000 ∧ ρ = [.any, .res (lstP p (PZ m)), s2, s3, .any, .any], ⟨0, .any, .any, by omega, rfl⟩, ?_, ?_⟩
    · rintro i d _ hd ⟨m, s2, s3, hm, rfl⟩
      have hi : i < 5 := (List.getElem?_eq_some_iff.mp hd).1
      have hd' : ∃ most : Nat, d = .int most ∧ 0 < most ∧ most ≤ 60 := by
        have := List.mem_of_getElem? hd
        simp only [List.mem_cons, List.not_mem_nil, or_false] at this
        rcases this with rfl | rfl | rfl | rfl | rfl
        · exact ⟨9, rfl, by decide, by decide⟩
        · exact ⟨9, rfl, by decide, by decide⟩
        · exact ⟨9, rfl, by decide, by decide⟩
        · exact ⟨9, rfl, by decide, by decide⟩
        · exact ⟨60, rfl, by decide, by decide⟩
      obtain ⟨most, rfl, hm0, hm1⟩ := hd'
      refine wg_name ?_
      walk_at "dv"
      refine ⟨most, rfl, hm0, hm1, by omega, fun m1 h pss hm1 h0 h6 pp => ?_⟩
      refine q_seq (Ws.imp (Ψ := ⟨fun ρ => ∃ (h : Nat) (pss : List (List Str)), 0 < h ∧ h ≤ 6 ∧ Pics h pss ∧ ρ = [.any, .res (lstP p (PZ m1)), .val (.int most), .val (.list (pss.map picD)), .any, .any], fun _ _ => False, fun _ => False, fun _ => False⟩) ?_ ?_ (fun _ _ z => z.elim) (fun _ z => z.elim) (fun _ z => z.elim))
      · walk_at "dv"
        refine ⟨fun _ => ?_, fun _ => ?_⟩
        · have n1 := pp.n1
          refine q_seq (q_set (we_new (wn_lcM (α := List Str) (js := [4]) (by decide) (wi_list ?_))))
          walk_at "dv"
          refine ⟨pss, picD, rfl, by omega, rfl, fun zs => picD ((zs.take 2).map five), fun zs hz => ?_, ?_⟩
          · have pz := pp.pic zs hz
            refine wg_name ⟨rfl, ?_⟩
            refine we_new (wn_lcM (α := Str) (js := [5]) (by decide) (wi_list ?_))
            walk_at "dv"
            refine ⟨zs.take 2, .str, ?_, by rw [List.length_take]; omega, rfl, fun z => .str (five z), fun z hz2 => ?_, ?_⟩
            · rw [show (2 : Int) = ((2 : Nat) : Int) from rfl, cut_upto, List.map_take]
            · have hz3 := List.mem_of_mem_take hz2
              have hl := pz.blo.len z hz3
              refine wg_name ⟨rfl, ?_⟩
              walk_at "dv"
              exact sld_s (by omega) ⟨rfl, rfl⟩
            · refine ⟨rfl, ?_⟩
              rw [picD, List.map_map]
              rfl
          refine q_set (we_new (wn_lcM (α := List Str) (js := [4]) (by decide) (wi_list ?_)))
          walk_at "dv"
          refine ⟨pss.map fun zs => (zs.take 2).map five, picD, by rw [List.map_map]; rfl, by rw [List.length_map]; omega, rfl, fun zs => picD (zs.map five2), fun zs hz => ?_, ?_⟩
          · obtain ⟨ys, hy, rfl⟩ := List.mem_map.mp hz
            refine wg_name ⟨rfl, ?_⟩
            refine we_new (wn_lcM (α := Str) (js := [5]) (by decide) (wi_list ?_))
            walk_at "dv"
            refine ⟨(ys.take 2).map five, .str, rfl, by rw [List.length_map, List.length_take]; omega, rfl, fun z => .str (five2 z), fun z hz2 => ?_, ?_⟩
            · obtain ⟨y, hy2, rfl⟩ := List.mem_map.mp hz2
              have l5 := len_five y
              refine wg_name ⟨rfl, ?_⟩
              walk_at "dv"
              refine (opc_lenS (by omega) ?_).op
              walk_at "dv"
              have l1 : ((Str.ofString "." : Str)).length = 1 := rfl
              refine op2_mulS (by omega) (by omega) (by rw [l1]; omega) ?_
              rw [show ((5 : Int) - ((five y).length : Int)).toNat = 5 - (five y).length by omega]
              have lr : (repS (Str.ofString ".") (5 - (five y).length)).length = 5 - (five y).length := by rw [repS_len, l1]; omega
              refine op2_addS (by rw [lr]; exact szl (by omega)) ⟨rfl, rfl⟩
            · exact ⟨rfl, congrArg PyData.list (List.map_map (g := PyData.str) (f := five2)).symm⟩
          obtain ⟨k, c0, c6, pc⟩ := pics_cut pp h0 h6
          refine ⟨k, _, c0, c6, pc, ?_⟩
          have e : (pss.map fun zs => (zs.take 2).map five).map (fun zs => picD (zs.map five2)) = ((pss.map fun zs => (zs.take 2).map five).map fun zs => zs.map five2).map picD := (List.map_map (g := picD) (f := fun (zs : List Str) => zs.map five2)).symm
          rw [← e]
        · exact q_nx ⟨h, pss, h0, h6, pp, rfl⟩
      rintro _ ⟨h, pss, h0, h6, pp, rfl⟩
      refine q_if ?_
      walk_at "dv"
      refine ⟨h, pss, rfl, h0, h6, pp, by omega, fun m2 hm2 => ?_⟩
      refine tru_b (nb_t (q_nx ?_))
      exact ⟨m2, _, _, by omega, rfl⟩
    · rintro _ ⟨m, s2, s3, hm, rfl⟩
      refine q_ret (we_andT ?_)
      refine we_op (we_own (wr_call ?_))
      walk_at "dv"
      have p2 := pics_nil (n := 2) (by decide) (by decide)
      refine ⟨0, List.replicate 2 [], 0, 0, rfl, p2, fun _ => ?_, fun i j hf => absurd hf.2.2.1 (near_nil 2 _ i j)⟩
      walk_at "dv"
      have p1 := pics_nil (n := 1) (by decide) (by decide)
      refine ⟨0, List.replicate 1 [], [], rfl, p1, ⟨by simp, by decide, fun z hz => (nomatch hz), fun z hz => (nomatch hz)⟩, rfl, ?_⟩
      have e : nearD (List.replicate 1 []) [] = .tuple [.int 0, .list [.int 0]] := rfl
      rw [e]
      walk_at "dv"
      refine same8 (n := 2) ?_ (by decide) ?_ rfl
      · rw [← e]
        exact nearD_okd _ _
      · rw [← e]
        exact nearD_sml p1 _
  · have hd' : d = .bool true := hd
    subst hd'
    cases rd
    exact q H2
end

def cbody : Stmt → List Stmt
  | .ClassDef (body := b) .. => b
  | _ => []
abbrev ini_InvalidBlotted : Stmt := (cbody (topS 2)).getD 0 (.Pass ⟨0, 0, 0, 0⟩)
abbrev ini_InvalidNumber : Stmt := (cbody (topS 3)).getD 0 (.Pass ⟨0, 0, 0, 0⟩)
abbrev ini_InvalidPictures : Stmt := (cbody (topS 4)).getD 0 (.Pass ⟨0, 0, 0, 0⟩)
theorem all_mk {P : Program} {w : World} {K : PySem.W.Frag} {h : Heap} {mg : Str → Option Value} {fa : Addr} (X : K.In h) (G : h.Ns mainGlobals mg) (eP : P = PySem.Challenge.pw_inksays_k04_whole_pictures_told_apart) (hfa : mg "law" = some (.ref fa))
    {A_InkError : Addr}
    {A_InvalidBlotted : Addr}
    {A_InvalidNumber : Addr}
    {A_InvalidPictures : Addr}
    {I_InvalidBlotted cda_InvalidBlotted cc_InvalidBlotted : Addr} {nm_InvalidBlotted qq_InvalidBlotted : Str} {NN_InvalidBlotted : Addr} {bs_InvalidBlotted bm_InvalidBlotted : List Value} {sn_InvalidBlotted : List Str} {su_InvalidBlotted : List Value} {ab_InvalidBlotted : Bool} {co_InvalidBlotted : Option Bool} {dd_InvalidBlotted : Option Addr} {k0_InvalidBlotted k1_InvalidBlotted k2_InvalidBlotted k3_InvalidBlotted k5_InvalidBlotted : Option Value}
    {dT_InvalidBlotted : Addr} {dtc_InvalidBlotted : Value} {dtd_InvalidBlotted : Option Addr} {dtn_InvalidBlotted : Nat} {dts_InvalidBlotted : Array (Option Value)} {oc_InvalidBlotted dc_InvalidBlotted pm_InvalidBlotted ct_InvalidBlotted cl_InvalidBlotted : Value} {od_InvalidBlotted an_InvalidBlotted cld_InvalidBlotted : Option Addr} {sl_InvalidBlotted csl_InvalidBlotted : Array (Option Value)} {ccl_InvalidBlotted : Value} {cdd_InvalidBlotted : Option Addr} {cvs_InvalidBlotted : Array Value} {ccs_InvalidBlotted : Array (Option Value)} {fi_InvalidBlotted : Str} {tf_InvalidBlotted : Tok}
    {I_InvalidNumber cda_InvalidNumber cc_InvalidNumber : Addr} {nm_InvalidNumber qq_InvalidNumber : Str} {NN_InvalidNumber : Addr} {bs_InvalidNumber bm_InvalidNumber : List Value} {sn_InvalidNumber : List Str} {su_InvalidNumber : List Value} {ab_InvalidNumber : Bool} {co_InvalidNumber : Option Bool} {dd_InvalidNumber : Option Addr} {k0_InvalidNumber k1_InvalidNumber k2_InvalidNumber k3_InvalidNumber k5_InvalidNumber : Option Value}
    {dT_InvalidNumber : Addr} {dtc_InvalidNumber : Value} {dtd_InvalidNumber : Option Addr} {dtn_InvalidNumber : Nat} {dts_InvalidNumber : Array (Option Value)} {oc_InvalidNumber dc_InvalidNumber pm_InvalidNumber ct_InvalidNumber cl_InvalidNumber : Value} {od_InvalidNumber an_InvalidNumber cld_InvalidNumber : Option Addr} {sl_InvalidNumber csl_InvalidNumber : Array (Option Value)} {ccl_InvalidNumber : Value} {cdd_InvalidNumber : Option Addr} {cvs_InvalidNumber : Array Value} {ccs_InvalidNumber : Array (Option Value)} {fi_InvalidNumber : Str} {tf_InvalidNumber : Tok}
    {I_InvalidPictures cda_InvalidPictures cc_InvalidPictures : Addr} {nm_InvalidPictures qq_InvalidPictures : Str} {NN_InvalidPictures : Addr} {bs_InvalidPictures bm_InvalidPictures : List Value} {sn_InvalidPictures : List Str} {su_InvalidPictures : List Value} {ab_InvalidPictures : Bool} {co_InvalidPictures : Option Bool} {dd_InvalidPictures : Option Addr} {k0_InvalidPictures k1_InvalidPictures k2_InvalidPictures k3_InvalidPictures k5_InvalidPictures : Option Value}
    {dT_InvalidPictures : Addr} {dtc_InvalidPictures : Value} {dtd_InvalidPictures : Option Addr} {dtn_InvalidPictures : Nat} {dts_InvalidPictures : Array (Option Value)} {oc_InvalidPictures dc_InvalidPictures pm_InvalidPictures ct_InvalidPictures cl_InvalidPictures : Value} {od_InvalidPictures an_InvalidPictures cld_InvalidPictures : Option Addr} {sl_InvalidPictures csl_InvalidPictures : Array (Option Value)} {ccl_InvalidPictures : Value} {cdd_InvalidPictures : Option Addr} {cvs_InvalidPictures : Array Value} {ccs_InvalidPictures : Array (Option Value)} {fi_InvalidPictures : Str} {tf_InvalidPictures : Tok}
    {tk_MOST_HIGH : Tok}
    {tk_MOST_WIDE : Tok}
    {tk_MOST_PICTURES : Tok}
    {f_is_whole : Addr} {oc_is_whole kV_is_whole dc_is_whole pm_is_whole cd_is_whole ct_is_whole : Value} {od_is_whole an_is_whole : Option Addr} {sl_is_whole : Array (Option Value)}
    {dT_is_whole : Addr} {dtc_is_whole : Value} {dtd_is_whole : Option Addr} {dtn_is_whole : Nat} {dts_is_whole : Array (Option Value)}
    {f_are_rows : Addr} {oc_are_rows kV_are_rows dc_are_rows pm_are_rows cd_are_rows ct_are_rows : Value} {od_are_rows an_are_rows : Option Addr} {sl_are_rows : Array (Option Value)}
    {f_is_picture : Addr} {oc_is_picture kV_is_picture dc_is_picture pm_is_picture cd_is_picture ct_is_picture : Value} {od_is_picture an_is_picture : Option Addr} {sl_is_picture : Array (Option Value)}
    {f_is_blotted : Addr} {oc_is_blotted kV_is_blotted dc_is_blotted pm_is_blotted cd_is_blotted ct_is_blotted : Value} {od_is_blotted an_is_blotted : Option Addr} {sl_is_blotted : Array (Option Value)}
    {f_look_at_count : Addr} {oc_look_at_count kV_look_at_count dc_look_at_count pm_look_at_count cd_look_at_count ct_look_at_count : Value} {od_look_at_count an_look_at_count : Option Addr} {sl_look_at_count : Array (Option Value)}
    {dT_look_at_count : Addr} {dtc_look_at_count : Value} {dtd_look_at_count : Option Addr} {dtn_look_at_count : Nat} {dts_look_at_count : Array (Option Value)}
    {f_wide_of : Addr} {oc_wide_of kV_wide_of dc_wide_of pm_wide_of cd_wide_of ct_wide_of : Value} {od_wide_of an_wide_of : Option Addr} {sl_wide_of : Array (Option Value)}
    {f_cut_right : Addr} {oc_cut_right kV_cut_right dc_cut_right pm_cut_right cd_cut_right ct_cut_right : Value} {od_cut_right an_cut_right : Option Addr} {sl_cut_right : Array (Option Value)}
    {f_marks : Addr} {oc_marks kV_marks dc_marks pm_marks cd_marks ct_marks : Value} {od_marks an_marks : Option Addr} {sl_marks : Array (Option Value)}
    {f_masks_of : Addr} {oc_masks_of kV_masks_of dc_masks_of pm_masks_of cd_masks_of ct_masks_of : Value} {od_masks_of an_masks_of : Option Addr} {sl_masks_of : Array (Option Value)}
    {f_unlike_of : Addr} {oc_unlike_of kV_unlike_of dc_unlike_of pm_unlike_of cd_unlike_of ct_unlike_of : Value} {od_unlike_of an_unlike_of : Option Addr} {sl_unlike_of : Array (Option Value)}
    {f_count_of : Addr} {oc_count_of kV_count_of dc_count_of pm_count_of cd_count_of ct_count_of : Value} {od_count_of an_count_of : Option Addr} {sl_count_of : Array (Option Value)}
    {f_look_beside : Addr} {oc_look_beside kV_look_beside dc_look_beside pm_look_beside cd_look_beside ct_look_beside : Value} {od_look_beside an_look_beside : Option Addr} {sl_look_beside : Array (Option Value)}
    {f_distance_of : Addr} {oc_distance_of kV_distance_of dc_distance_of pm_distance_of cd_distance_of ct_distance_of : Value} {od_distance_of an_distance_of : Option Addr} {sl_distance_of : Array (Option Value)}
    {f_halved : Addr} {oc_halved kV_halved dc_halved pm_halved cd_halved ct_halved : Value} {od_halved an_halved : Option Addr} {sl_halved : Array (Option Value)}
    {f_are_pictures : Addr} {oc_are_pictures kV_are_pictures dc_are_pictures pm_are_pictures cd_are_pictures ct_are_pictures : Value} {od_are_pictures an_are_pictures : Option Addr} {sl_are_pictures : Array (Option Value)}
    {f_told_apart : Addr} {oc_told_apart kV_told_apart dc_told_apart pm_told_apart cd_told_apart ct_told_apart : Value} {od_told_apart an_told_apart : Option Addr} {sl_told_apart : Array (Option Value)}
    {f_nearest_of : Addr} {oc_nearest_of kV_nearest_of dc_nearest_of pm_nearest_of cd_nearest_of ct_nearest_of : Value} {od_nearest_of an_nearest_of : Option Addr} {sl_nearest_of : Array (Option Value)}
    {f__law_list : Addr} {oc__law_list kV__law_list dc__law_list pm__law_list cd__law_list ct__law_list : Value} {od__law_list an__law_list : Option Addr} {sl__law_list : Array (Option Value)}
    {f__law_first : Addr} {oc__law_first kV__law_first dc__law_first pm__law_first cd__law_first ct__law_first : Value} {od__law_first an__law_first : Option Addr} {sl__law_first : Array (Option Value)}
    {f__law_nearest : Addr} {oc__law_nearest kV__law_nearest dc__law_nearest pm__law_nearest cd__law_nearest ct__law_nearest : Value} {od__law_nearest an__law_nearest : Option Addr} {sl__law_nearest : Array (Option Value)}
    {f__law_right : Addr} {oc__law_right kV__law_right dc__law_right pm__law_right cd__law_right ct__law_right : Value} {od__law_right an__law_right : Option Addr} {sl__law_right : Array (Option Value)}
    {f__law_blots : Addr} {oc__law_blots kV__law_blots dc__law_blots pm__law_blots cd__law_blots ct__law_blots : Value} {od__law_blots an__law_blots : Option Addr} {sl__law_blots : Array (Option Value)}
    {f__law_purse : Addr} {oc__law_purse kV__law_purse dc__law_purse pm__law_purse cd__law_purse ct__law_purse : Value} {od__law_purse an__law_purse : Option Addr} {sl__law_purse : Array (Option Value)}
    {f__law_draw : Addr} {oc__law_draw kV__law_draw dc__law_draw pm__law_draw cd__law_draw ct__law_draw : Value} {od__law_draw an__law_draw : Option Addr} {sl__law_draw : Array (Option Value)}
    {f__law_pick : Addr} {oc__law_pick kV__law_pick dc__law_pick pm__law_pick cd__law_pick ct__law_pick : Value} {od__law_pick an__law_pick : Option Addr} {sl__law_pick : Array (Option Value)}
    {f__law_same : Addr} {oc__law_same kV__law_same dc__law_same pm__law_same cd__law_same ct__law_same : Value} {od__law_same an__law_same : Option Addr} {sl__law_same : Array (Option Value)}
    {f__law_spoilt : Addr} {oc__law_spoilt kV__law_spoilt dc__law_spoilt pm__law_spoilt cd__law_spoilt ct__law_spoilt : Value} {od__law_spoilt an__law_spoilt : Option Addr} {sl__law_spoilt : Array (Option Value)}
    {f__law_rows : Addr} {oc__law_rows kV__law_rows dc__law_rows pm__law_rows cd__law_rows ct__law_rows : Value} {od__law_rows an__law_rows : Option Addr} {sl__law_rows : Array (Option Value)}
    {f__law_sign : Addr} {oc__law_sign kV__law_sign dc__law_sign pm__law_sign cd__law_sign ct__law_sign : Value} {od__law_sign an__law_sign : Option Addr} {sl__law_sign : Array (Option Value)}
    {f__law_wide : Addr} {oc__law_wide kV__law_wide dc__law_wide pm__law_wide cd__law_wide ct__law_wide : Value} {od__law_wide an__law_wide : Option Addr} {sl__law_wide : Array (Option Value)}
    {f__law_far : Addr} {oc__law_far kV__law_far dc__law_far pm__law_far cd__law_far ct__law_far : Value} {od__law_far an__law_far : Option Addr} {sl__law_far : Array (Option Value)}
    {f__law_could : Addr} {oc__law_could kV__law_could dc__law_could pm__law_could cd__law_could ct__law_could : Value} {od__law_could an__law_could : Option Addr} {sl__law_could : Array (Option Value)}
    {f__law_is_sheet : Addr} {oc__law_is_sheet kV__law_is_sheet dc__law_is_sheet pm__law_is_sheet cd__law_is_sheet ct__law_is_sheet : Value} {od__law_is_sheet an__law_is_sheet : Option Addr} {sl__law_is_sheet : Array (Option Value)}
    {f__law_spoilt_rows : Addr} {oc__law_spoilt_rows kV__law_spoilt_rows dc__law_spoilt_rows pm__law_spoilt_rows cd__law_spoilt_rows ct__law_spoilt_rows : Value} {od__law_spoilt_rows an__law_spoilt_rows : Option Addr} {sl__law_spoilt_rows : Array (Option Value)}
    {f_law : Addr} {oc_law kV_law dc_law pm_law cd_law ct_law : Value} {od_law an_law : Option Addr} {sl_law : Array (Option Value)}
    (ac_InkError : PySem.W.nsIn K mainGlobals "InkError" = some (some (.ref A_InkError)))
    (ac_InvalidBlotted : PySem.W.nsIn K mainGlobals "InvalidBlotted" = some (some (.ref A_InvalidBlotted)))
    (ac_InvalidNumber : PySem.W.nsIn K mainGlobals "InvalidNumber" = some (some (.ref A_InvalidNumber)))
    (ac_InvalidPictures : PySem.W.nsIn K mainGlobals "InvalidPictures" = some (some (.ref A_InvalidPictures)))
    (xl_InvalidBlotted : K.lookup A_InvalidBlotted = some (excClassObj nm_InvalidBlotted qq_InvalidBlotted A_InvalidBlotted NN_InvalidBlotted bs_InvalidBlotted bm_InvalidBlotted true sn_InvalidBlotted su_InvalidBlotted ab_InvalidBlotted co_InvalidBlotted dd_InvalidBlotted k0_InvalidBlotted k1_InvalidBlotted k2_InvalidBlotted k3_InvalidBlotted k5_InvalidBlotted "ValueError.__new__"))
    (xb_InvalidBlotted : PySem.HandSPX.refsVE bm_InvalidBlotted = true)
    (ii_InvalidBlotted : PySem.W.findIn K (.ref A_InvalidBlotted) "__init__" = some (some (.ref I_InvalidBlotted)))
    (ti_InvalidBlotted : PySem.W.typeIn K (.ref I_InvalidBlotted) = some (.type "function"))
    (li_InvalidBlotted : K.lookup I_InvalidBlotted = some ⟨oc_InvalidBlotted, od_InvalidBlotted, .func (PySem.W.ksFn "__init__" "InvalidBlotted.__init__" (defArgs ini_InvalidBlotted) (defBody ini_InvalidBlotted) (defScope ini_InvalidBlotted) (.ref dT_InvalidBlotted) .none dc_InvalidBlotted pm_InvalidBlotted an_InvalidBlotted (.ref cda_InvalidBlotted) ct_InvalidBlotted cc_InvalidBlotted), sl_InvalidBlotted⟩)
    (ld_InvalidBlotted : K.lookup dT_InvalidBlotted = some ⟨dtc_InvalidBlotted, dtd_InvalidBlotted, .seq #[Value.none] dtn_InvalidBlotted, dts_InvalidBlotted⟩)
    (ci_InvalidBlotted : PySem.W.codeIn K (.ref cda_InvalidBlotted) "InvalidBlotted.__init__" = true)
    (lc_InvalidBlotted : K.lookup cda_InvalidBlotted = some ⟨ccl_InvalidBlotted, cdd_InvalidBlotted, .fields cvs_InvalidBlotted, ccs_InvalidBlotted⟩)
    (vs_InvalidBlotted : cvs_InvalidBlotted[2]? = some (.str fi_InvalidBlotted tf_InvalidBlotted))
    (fl_InvalidBlotted : ((P.main.file : Str) == fi_InvalidBlotted) = true)
    (cc_InvalidBlotted_ : K.lookup cc_InvalidBlotted = some ⟨cl_InvalidBlotted, cld_InvalidBlotted, .cell (some (.ref A_InvalidBlotted)), csl_InvalidBlotted⟩)
    (sm_InvalidBlotted : PySem.W.ks_superIn K A_InvalidBlotted A_InvalidBlotted "__init__" = some (some (.builtin "ValueError.__init__")))
    (sB_InvalidBlotted : PySem.W.subIn K (.ref A_InvalidBlotted) (.type "ValueError") = some true)
    (ow_InvalidBlotted : PySem.W.mroIn K A_InvalidBlotted (.ref A_InvalidBlotted) = some true)
    (nv_InvalidBlotted : PySem.W.findIn K (.ref A_InvalidBlotted) "value" = some none)
    (sa_InvalidBlotted : PySem.W.findIn K (.ref A_InvalidBlotted) "__setattr__" = some (some (.builtin "object.__setattr__")))
    (ga_InvalidBlotted : PySem.W.findIn K (.ref A_InvalidBlotted) "__getattribute__" = some (some (.builtin "BaseException.__getattribute__")))
    (gt_InvalidBlotted : PySem.W.findIn K (.ref A_InvalidBlotted) "__getattr__" = some none)
    (eC_InvalidBlotted : PySem.W.subIn K (.ref A_InvalidBlotted) (.type "BaseException") = some true)
    (tC_InvalidBlotted : PySem.W.typeIn K (.ref A_InvalidBlotted) = some (.type "type"))
    (kC_InvalidBlotted : PySem.W.keepIn K (.ref A_InvalidBlotted) = true)
    (iC_InvalidBlotted : PySem.W.isClsIn K A_InvalidBlotted = true)
    (hD_InvalidBlotted : PySem.W.hasDictIn K A_InvalidBlotted = true)
    (ca_InvalidBlotted : PySem.W.findIn K (.ref A_InvalidBlotted) "__class__" = some (some (.builtin "object.__class__")))
    (mo_InvalidBlotted : PySem.W.mroIn K A_InvalidBlotted (.type "object") = some true)
    (xl_InvalidNumber : K.lookup A_InvalidNumber = some (excClassObj nm_InvalidNumber qq_InvalidNumber A_InvalidNumber NN_InvalidNumber bs_InvalidNumber bm_InvalidNumber true sn_InvalidNumber su_InvalidNumber ab_InvalidNumber co_InvalidNumber dd_InvalidNumber k0_InvalidNumber k1_InvalidNumber k2_InvalidNumber k3_InvalidNumber k5_InvalidNumber "ValueError.__new__"))
    (xb_InvalidNumber : PySem.HandSPX.refsVE bm_InvalidNumber = true)
    (ii_InvalidNumber : PySem.W.findIn K (.ref A_InvalidNumber) "__init__" = some (some (.ref I_InvalidNumber)))
    (ti_InvalidNumber : PySem.W.typeIn K (.ref I_InvalidNumber) = some (.type "function"))
    (li_InvalidNumber : K.lookup I_InvalidNumber = some ⟨oc_InvalidNumber, od_InvalidNumber, .func (PySem.W.ksFn "__init__" "InvalidNumber.__init__" (defArgs ini_InvalidNumber) (defBody ini_InvalidNumber) (defScope ini_InvalidNumber) (.ref dT_InvalidNumber) .none dc_InvalidNumber pm_InvalidNumber an_InvalidNumber (.ref cda_InvalidNumber) ct_InvalidNumber cc_InvalidNumber), sl_InvalidNumber⟩)
    (ld_InvalidNumber : K.lookup dT_InvalidNumber = some ⟨dtc_InvalidNumber, dtd_InvalidNumber, .seq #[Value.none] dtn_InvalidNumber, dts_InvalidNumber⟩)
    (ci_InvalidNumber : PySem.W.codeIn K (.ref cda_InvalidNumber) "InvalidNumber.__init__" = true)
    (lc_InvalidNumber : K.lookup cda_InvalidNumber = some ⟨ccl_InvalidNumber, cdd_InvalidNumber, .fields cvs_InvalidNumber, ccs_InvalidNumber⟩)
    (vs_InvalidNumber : cvs_InvalidNumber[2]? = some (.str fi_InvalidNumber tf_InvalidNumber))
    (fl_InvalidNumber : ((P.main.file : Str) == fi_InvalidNumber) = true)
    (cc_InvalidNumber_ : K.lookup cc_InvalidNumber = some ⟨cl_InvalidNumber, cld_InvalidNumber, .cell (some (.ref A_InvalidNumber)), csl_InvalidNumber⟩)
    (sm_InvalidNumber : PySem.W.ks_superIn K A_InvalidNumber A_InvalidNumber "__init__" = some (some (.builtin "ValueError.__init__")))
    (sB_InvalidNumber : PySem.W.subIn K (.ref A_InvalidNumber) (.type "ValueError") = some true)
    (ow_InvalidNumber : PySem.W.mroIn K A_InvalidNumber (.ref A_InvalidNumber) = some true)
    (nv_InvalidNumber : PySem.W.findIn K (.ref A_InvalidNumber) "value" = some none)
    (sa_InvalidNumber : PySem.W.findIn K (.ref A_InvalidNumber) "__setattr__" = some (some (.builtin "object.__setattr__")))
    (ga_InvalidNumber : PySem.W.findIn K (.ref A_InvalidNumber) "__getattribute__" = some (some (.builtin "BaseException.__getattribute__")))
    (gt_InvalidNumber : PySem.W.findIn K (.ref A_InvalidNumber) "__getattr__" = some none)
    (eC_InvalidNumber : PySem.W.subIn K (.ref A_InvalidNumber) (.type "BaseException") = some true)
    (tC_InvalidNumber : PySem.W.typeIn K (.ref A_InvalidNumber) = some (.type "type"))
    (kC_InvalidNumber : PySem.W.keepIn K (.ref A_InvalidNumber) = true)
    (iC_InvalidNumber : PySem.W.isClsIn K A_InvalidNumber = true)
    (hD_InvalidNumber : PySem.W.hasDictIn K A_InvalidNumber = true)
    (ca_InvalidNumber : PySem.W.findIn K (.ref A_InvalidNumber) "__class__" = some (some (.builtin "object.__class__")))
    (mo_InvalidNumber : PySem.W.mroIn K A_InvalidNumber (.type "object") = some true)
    (xl_InvalidPictures : K.lookup A_InvalidPictures = some (excClassObj nm_InvalidPictures qq_InvalidPictures A_InvalidPictures NN_InvalidPictures bs_InvalidPictures bm_InvalidPictures true sn_InvalidPictures su_InvalidPictures ab_InvalidPictures co_InvalidPictures dd_InvalidPictures k0_InvalidPictures k1_InvalidPictures k2_InvalidPictures k3_InvalidPictures k5_InvalidPictures "ValueError.__new__"))
    (xb_InvalidPictures : PySem.HandSPX.refsVE bm_InvalidPictures = true)
    (ii_InvalidPictures : PySem.W.findIn K (.ref A_InvalidPictures) "__init__" = some (some (.ref I_InvalidPictures)))
    (ti_InvalidPictures : PySem.W.typeIn K (.ref I_InvalidPictures) = some (.type "function"))
    (li_InvalidPictures : K.lookup I_InvalidPictures = some ⟨oc_InvalidPictures, od_InvalidPictures, .func (PySem.W.ksFn "__init__" "InvalidPictures.__init__" (defArgs ini_InvalidPictures) (defBody ini_InvalidPictures) (defScope ini_InvalidPictures) (.ref dT_InvalidPictures) .none dc_InvalidPictures pm_InvalidPictures an_InvalidPictures (.ref cda_InvalidPictures) ct_InvalidPictures cc_InvalidPictures), sl_InvalidPictures⟩)
    (ld_InvalidPictures : K.lookup dT_InvalidPictures = some ⟨dtc_InvalidPictures, dtd_InvalidPictures, .seq #[Value.none] dtn_InvalidPictures, dts_InvalidPictures⟩)
    (ci_InvalidPictures : PySem.W.codeIn K (.ref cda_InvalidPictures) "InvalidPictures.__init__" = true)
    (lc_InvalidPictures : K.lookup cda_InvalidPictures = some ⟨ccl_InvalidPictures, cdd_InvalidPictures, .fields cvs_InvalidPictures, ccs_InvalidPictures⟩)
    (vs_InvalidPictures : cvs_InvalidPictures[2]? = some (.str fi_InvalidPictures tf_InvalidPictures))
    (fl_InvalidPictures : ((P.main.file : Str) == fi_InvalidPictures) = true)
    (cc_InvalidPictures_ : K.lookup cc_InvalidPictures = some ⟨cl_InvalidPictures, cld_InvalidPictures, .cell (some (.ref A_InvalidPictures)), csl_InvalidPictures⟩)
    (sm_InvalidPictures : PySem.W.ks_superIn K A_InvalidPictures A_InvalidPictures "__init__" = some (some (.builtin "ValueError.__init__")))
    (sB_InvalidPictures : PySem.W.subIn K (.ref A_InvalidPictures) (.type "ValueError") = some true)
    (ow_InvalidPictures : PySem.W.mroIn K A_InvalidPictures (.ref A_InvalidPictures) = some true)
    (nv_InvalidPictures : PySem.W.findIn K (.ref A_InvalidPictures) "value" = some none)
    (sa_InvalidPictures : PySem.W.findIn K (.ref A_InvalidPictures) "__setattr__" = some (some (.builtin "object.__setattr__")))
    (ga_InvalidPictures : PySem.W.findIn K (.ref A_InvalidPictures) "__getattribute__" = some (some (.builtin "BaseException.__getattribute__")))
    (gt_InvalidPictures : PySem.W.findIn K (.ref A_InvalidPictures) "__getattr__" = some none)
    (eC_InvalidPictures : PySem.W.subIn K (.ref A_InvalidPictures) (.type "BaseException") = some true)
    (tC_InvalidPictures : PySem.W.typeIn K (.ref A_InvalidPictures) = some (.type "type"))
    (kC_InvalidPictures : PySem.W.keepIn K (.ref A_InvalidPictures) = true)
    (iC_InvalidPictures : PySem.W.isClsIn K A_InvalidPictures = true)
    (hD_InvalidPictures : PySem.W.hasDictIn K A_InvalidPictures = true)
    (ca_InvalidPictures : PySem.W.findIn K (.ref A_InvalidPictures) "__class__" = some (some (.builtin "object.__class__")))
    (mo_InvalidPictures : PySem.W.mroIn K A_InvalidPictures (.type "object") = some true)
    (op_ : PySem.W.nsIn K cStatics "thirdparty.any" = some none)
    (zs_ : PySem.W.nsIn K mainGlobals "super" = some none)
    (cg_ : PySem.W.specialIn K (.builtin "object.__class__") "__get__" = some (some (.builtin "getset_descriptor.__get__")))
    (ct_ : PySem.W.takesIn K (.builtin "object.__class__") = some true)
    (cs_MOST_HIGH : PySem.W.nsIn K mainGlobals "MOST_HIGH" = some (some (.int 120 tk_MOST_HIGH)))
    (cs_MOST_WIDE : PySem.W.nsIn K mainGlobals "MOST_WIDE" = some (some (.int 400 tk_MOST_WIDE)))
    (cs_MOST_PICTURES : PySem.W.nsIn K mainGlobals "MOST_PICTURES" = some (some (.int 60 tk_MOST_PICTURES)))
    (a_is_whole : PySem.W.nsIn K mainGlobals "is_whole" = some (some (.ref f_is_whole)))
    (l_is_whole : K.lookup f_is_whole = some ⟨oc_is_whole, od_is_whole, .func (PySem.W.fnOf "is_whole" "is_whole" (defArgs s_is_whole) (defBody s_is_whole) (defScope s_is_whole) (.ref dT_is_whole) kV_is_whole dc_is_whole pm_is_whole an_is_whole cd_is_whole ct_is_whole), sl_is_whole⟩)
    (ld_is_whole : K.lookup dT_is_whole = some ⟨dtc_is_whole, dtd_is_whole, .seq #[Value.none, Value.none] dtn_is_whole, dts_is_whole⟩)
    (c_is_whole : PySem.W.codeIn K cd_is_whole "is_whole" = true)
    (k_is_whole : PySem.W.keepIn K (.ref f_is_whole) = true)
    (a_are_rows : PySem.W.nsIn K mainGlobals "are_rows" = some (some (.ref f_are_rows)))
    (l_are_rows : K.lookup f_are_rows = some ⟨oc_are_rows, od_are_rows, .func (PySem.W.fnOf "are_rows" "are_rows" (defArgs s_are_rows) (defBody s_are_rows) (defScope s_are_rows) .none kV_are_rows dc_are_rows pm_are_rows an_are_rows cd_are_rows ct_are_rows), sl_are_rows⟩)
    (c_are_rows : PySem.W.codeIn K cd_are_rows "are_rows" = true)
    (k_are_rows : PySem.W.keepIn K (.ref f_are_rows) = true)
    (a_is_picture : PySem.W.nsIn K mainGlobals "is_picture" = some (some (.ref f_is_picture)))
    (l_is_picture : K.lookup f_is_picture = some ⟨oc_is_picture, od_is_picture, .func (PySem.W.fnOf "is_picture" "is_picture" (defArgs s_is_picture) (defBody s_is_picture) (defScope s_is_picture) .none kV_is_picture dc_is_picture pm_is_picture an_is_picture cd_is_picture ct_is_picture), sl_is_picture⟩)
    (c_is_picture : PySem.W.codeIn K cd_is_picture "is_picture" = true)
    (k_is_picture : PySem.W.keepIn K (.ref f_is_picture) = true)
    (a_is_blotted : PySem.W.nsIn K mainGlobals "is_blotted" = some (some (.ref f_is_blotted)))
    (l_is_blotted : K.lookup f_is_blotted = some ⟨oc_is_blotted, od_is_blotted, .func (PySem.W.fnOf "is_blotted" "is_blotted" (defArgs s_is_blotted) (defBody s_is_blotted) (defScope s_is_blotted) .none kV_is_blotted dc_is_blotted pm_is_blotted an_is_blotted cd_is_blotted ct_is_blotted), sl_is_blotted⟩)
    (c_is_blotted : PySem.W.codeIn K cd_is_blotted "is_blotted" = true)
    (k_is_blotted : PySem.W.keepIn K (.ref f_is_blotted) = true)
    (a_look_at_count : PySem.W.nsIn K mainGlobals "look_at_count" = some (some (.ref f_look_at_count)))
    (l_look_at_count : K.lookup f_look_at_count = some ⟨oc_look_at_count, od_look_at_count, .func (PySem.W.fnOf "look_at_count" "look_at_count" (defArgs s_look_at_count) (defBody s_look_at_count) (defScope s_look_at_count) (.ref dT_look_at_count) kV_look_at_count dc_look_at_count pm_look_at_count an_look_at_count cd_look_at_count ct_look_at_count), sl_look_at_count⟩)
    (ld_look_at_count : K.lookup dT_look_at_count = some ⟨dtc_look_at_count, dtd_look_at_count, .seq #[Value.none] dtn_look_at_count, dts_look_at_count⟩)
    (c_look_at_count : PySem.W.codeIn K cd_look_at_count "look_at_count" = true)
    (k_look_at_count : PySem.W.keepIn K (.ref f_look_at_count) = true)
    (a_wide_of : PySem.W.nsIn K mainGlobals "wide_of" = some (some (.ref f_wide_of)))
    (l_wide_of : K.lookup f_wide_of = some ⟨oc_wide_of, od_wide_of, .func (PySem.W.fnOf "wide_of" "wide_of" (defArgs s_wide_of) (defBody s_wide_of) (defScope s_wide_of) .none kV_wide_of dc_wide_of pm_wide_of an_wide_of cd_wide_of ct_wide_of), sl_wide_of⟩)
    (c_wide_of : PySem.W.codeIn K cd_wide_of "wide_of" = true)
    (k_wide_of : PySem.W.keepIn K (.ref f_wide_of) = true)
    (a_cut_right : PySem.W.nsIn K mainGlobals "cut_right" = some (some (.ref f_cut_right)))
    (l_cut_right : K.lookup f_cut_right = some ⟨oc_cut_right, od_cut_right, .func (PySem.W.fnOf "cut_right" "cut_right" (defArgs s_cut_right) (defBody s_cut_right) (defScope s_cut_right) .none kV_cut_right dc_cut_right pm_cut_right an_cut_right cd_cut_right ct_cut_right), sl_cut_right⟩)
    (c_cut_right : PySem.W.codeIn K cd_cut_right "cut_right" = true)
    (k_cut_right : PySem.W.keepIn K (.ref f_cut_right) = true)
    (a_marks : PySem.W.nsIn K mainGlobals "marks" = some (some (.ref f_marks)))
    (l_marks : K.lookup f_marks = some ⟨oc_marks, od_marks, .func (PySem.W.fnOf "marks" "marks" (defArgs s_marks) (defBody s_marks) (defScope s_marks) .none kV_marks dc_marks pm_marks an_marks cd_marks ct_marks), sl_marks⟩)
    (c_marks : PySem.W.codeIn K cd_marks "marks" = true)
    (k_marks : PySem.W.keepIn K (.ref f_marks) = true)
    (a_masks_of : PySem.W.nsIn K mainGlobals "masks_of" = some (some (.ref f_masks_of)))
    (l_masks_of : K.lookup f_masks_of = some ⟨oc_masks_of, od_masks_of, .func (PySem.W.fnOf "masks_of" "masks_of" (defArgs s_masks_of) (defBody s_masks_of) (defScope s_masks_of) .none kV_masks_of dc_masks_of pm_masks_of an_masks_of cd_masks_of ct_masks_of), sl_masks_of⟩)
    (c_masks_of : PySem.W.codeIn K cd_masks_of "masks_of" = true)
    (k_masks_of : PySem.W.keepIn K (.ref f_masks_of) = true)
    (a_unlike_of : PySem.W.nsIn K mainGlobals "unlike_of" = some (some (.ref f_unlike_of)))
    (l_unlike_of : K.lookup f_unlike_of = some ⟨oc_unlike_of, od_unlike_of, .func (PySem.W.fnOf "unlike_of" "unlike_of" (defArgs s_unlike_of) (defBody s_unlike_of) (defScope s_unlike_of) .none kV_unlike_of dc_unlike_of pm_unlike_of an_unlike_of cd_unlike_of ct_unlike_of), sl_unlike_of⟩)
    (c_unlike_of : PySem.W.codeIn K cd_unlike_of "unlike_of" = true)
    (k_unlike_of : PySem.W.keepIn K (.ref f_unlike_of) = true)
    (a_count_of : PySem.W.nsIn K mainGlobals "count_of" = some (some (.ref f_count_of)))
    (l_count_of : K.lookup f_count_of = some ⟨oc_count_of, od_count_of, .func (PySem.W.fnOf "count_of" "count_of" (defArgs s_count_of) (defBody s_count_of) (defScope s_count_of) .none kV_count_of dc_count_of pm_count_of an_count_of cd_count_of ct_count_of), sl_count_of⟩)
    (c_count_of : PySem.W.codeIn K cd_count_of "count_of" = true)
    (k_count_of : PySem.W.keepIn K (.ref f_count_of) = true)
    (a_look_beside : PySem.W.nsIn K mainGlobals "look_beside" = some (some (.ref f_look_beside)))
    (l_look_beside : K.lookup f_look_beside = some ⟨oc_look_beside, od_look_beside, .func (PySem.W.fnOf "look_beside" "look_beside" (defArgs s_look_beside) (defBody s_look_beside) (defScope s_look_beside) .none kV_look_beside dc_look_beside pm_look_beside an_look_beside cd_look_beside ct_look_beside), sl_look_beside⟩)
    (c_look_beside : PySem.W.codeIn K cd_look_beside "look_beside" = true)
    (k_look_beside : PySem.W.keepIn K (.ref f_look_beside) = true)
    (a_distance_of : PySem.W.nsIn K mainGlobals "distance_of" = some (some (.ref f_distance_of)))
    (l_distance_of : K.lookup f_distance_of = some ⟨oc_distance_of, od_distance_of, .func (PySem.W.fnOf "distance_of" "distance_of" (defArgs s_distance_of) (defBody s_distance_of) (defScope s_distance_of) .none kV_distance_of dc_distance_of pm_distance_of an_distance_of cd_distance_of ct_distance_of), sl_distance_of⟩)
    (c_distance_of : PySem.W.codeIn K cd_distance_of "distance_of" = true)
    (k_distance_of : PySem.W.keepIn K (.ref f_distance_of) = true)
    (a_halved : PySem.W.nsIn K mainGlobals "halved" = some (some (.ref f_halved)))
    (l_halved : K.lookup f_halved = some ⟨oc_halved, od_halved, .func (PySem.W.fnOf "halved" "halved" (defArgs s_halved) (defBody s_halved) (defScope s_halved) .none kV_halved dc_halved pm_halved an_halved cd_halved ct_halved), sl_halved⟩)
    (c_halved : PySem.W.codeIn K cd_halved "halved" = true)
    (k_halved : PySem.W.keepIn K (.ref f_halved) = true)
    (a_are_pictures : PySem.W.nsIn K mainGlobals "are_pictures" = some (some (.ref f_are_pictures)))
    (l_are_pictures : K.lookup f_are_pictures = some ⟨oc_are_pictures, od_are_pictures, .func (PySem.W.fnOf "are_pictures" "are_pictures" (defArgs s_are_pictures) (defBody s_are_pictures) (defScope s_are_pictures) .none kV_are_pictures dc_are_pictures pm_are_pictures an_are_pictures cd_are_pictures ct_are_pictures), sl_are_pictures⟩)
    (c_are_pictures : PySem.W.codeIn K cd_are_pictures "are_pictures" = true)
    (k_are_pictures : PySem.W.keepIn K (.ref f_are_pictures) = true)
    (a_told_apart : PySem.W.nsIn K mainGlobals "told_apart" = some (some (.ref f_told_apart)))
    (l_told_apart : K.lookup f_told_apart = some ⟨oc_told_apart, od_told_apart, .func (PySem.W.fnOf "told_apart" "told_apart" (defArgs s_told_apart) (defBody s_told_apart) (defScope s_told_apart) .none kV_told_apart dc_told_apart pm_told_apart an_told_apart cd_told_apart ct_told_apart), sl_told_apart⟩)
    (c_told_apart : PySem.W.codeIn K cd_told_apart "told_apart" = true)
    (k_told_apart : PySem.W.keepIn K (.ref f_told_apart) = true)
    (a_nearest_of : PySem.W.nsIn K mainGlobals "nearest_of" = some (some (.ref f_nearest_of)))
    (l_nearest_of : K.lookup f_nearest_of = some ⟨oc_nearest_of, od_nearest_of, .func (PySem.W.fnOf "nearest_of" "nearest_of" (defArgs s_nearest_of) (defBody s_nearest_of) (defScope s_nearest_of) .none kV_nearest_of dc_nearest_of pm_nearest_of an_nearest_of cd_nearest_of ct_nearest_of), sl_nearest_of⟩)
    (c_nearest_of : PySem.W.codeIn K cd_nearest_of "nearest_of" = true)
    (k_nearest_of : PySem.W.keepIn K (.ref f_nearest_of) = true)
    (a__law_list : PySem.W.nsIn K mainGlobals "_law_list" = some (some (.ref f__law_list)))
    (l__law_list : K.lookup f__law_list = some ⟨oc__law_list, od__law_list, .func (PySem.W.fnOf "_law_list" "_law_list" (defArgs s__law_list) (defBody s__law_list) (defScope s__law_list) .none kV__law_list dc__law_list pm__law_list an__law_list cd__law_list ct__law_list), sl__law_list⟩)
    (c__law_list : PySem.W.codeIn K cd__law_list "_law_list" = true)
    (k__law_list : PySem.W.keepIn K (.ref f__law_list) = true)
    (a__law_first : PySem.W.nsIn K mainGlobals "_law_first" = some (some (.ref f__law_first)))
    (l__law_first : K.lookup f__law_first = some ⟨oc__law_first, od__law_first, .func (PySem.W.fnOf "_law_first" "_law_first" (defArgs s__law_first) (defBody s__law_first) (defScope s__law_first) .none kV__law_first dc__law_first pm__law_first an__law_first cd__law_first ct__law_first), sl__law_first⟩)
    (c__law_first : PySem.W.codeIn K cd__law_first "_law_first" = true)
    (k__law_first : PySem.W.keepIn K (.ref f__law_first) = true)
    (a__law_nearest : PySem.W.nsIn K mainGlobals "_law_nearest" = some (some (.ref f__law_nearest)))
    (l__law_nearest : K.lookup f__law_nearest = some ⟨oc__law_nearest, od__law_nearest, .func (PySem.W.fnOf "_law_nearest" "_law_nearest" (defArgs s__law_nearest) (defBody s__law_nearest) (defScope s__law_nearest) .none kV__law_nearest dc__law_nearest pm__law_nearest an__law_nearest cd__law_nearest ct__law_nearest), sl__law_nearest⟩)
    (c__law_nearest : PySem.W.codeIn K cd__law_nearest "_law_nearest" = true)
    (k__law_nearest : PySem.W.keepIn K (.ref f__law_nearest) = true)
    (a__law_right : PySem.W.nsIn K mainGlobals "_law_right" = some (some (.ref f__law_right)))
    (l__law_right : K.lookup f__law_right = some ⟨oc__law_right, od__law_right, .func (PySem.W.fnOf "_law_right" "_law_right" (defArgs s__law_right) (defBody s__law_right) (defScope s__law_right) .none kV__law_right dc__law_right pm__law_right an__law_right cd__law_right ct__law_right), sl__law_right⟩)
    (c__law_right : PySem.W.codeIn K cd__law_right "_law_right" = true)
    (k__law_right : PySem.W.keepIn K (.ref f__law_right) = true)
    (a__law_blots : PySem.W.nsIn K mainGlobals "_law_blots" = some (some (.ref f__law_blots)))
    (l__law_blots : K.lookup f__law_blots = some ⟨oc__law_blots, od__law_blots, .func (PySem.W.fnOf "_law_blots" "_law_blots" (defArgs s__law_blots) (defBody s__law_blots) (defScope s__law_blots) .none kV__law_blots dc__law_blots pm__law_blots an__law_blots cd__law_blots ct__law_blots), sl__law_blots⟩)
    (c__law_blots : PySem.W.codeIn K cd__law_blots "_law_blots" = true)
    (k__law_blots : PySem.W.keepIn K (.ref f__law_blots) = true)
    (a__law_purse : PySem.W.nsIn K mainGlobals "_law_purse" = some (some (.ref f__law_purse)))
    (l__law_purse : K.lookup f__law_purse = some ⟨oc__law_purse, od__law_purse, .func (PySem.W.fnOf "_law_purse" "_law_purse" (defArgs s__law_purse) (defBody s__law_purse) (defScope s__law_purse) .none kV__law_purse dc__law_purse pm__law_purse an__law_purse cd__law_purse ct__law_purse), sl__law_purse⟩)
    (c__law_purse : PySem.W.codeIn K cd__law_purse "_law_purse" = true)
    (k__law_purse : PySem.W.keepIn K (.ref f__law_purse) = true)
    (a__law_draw : PySem.W.nsIn K mainGlobals "_law_draw" = some (some (.ref f__law_draw)))
    (l__law_draw : K.lookup f__law_draw = some ⟨oc__law_draw, od__law_draw, .func (PySem.W.fnOf "_law_draw" "_law_draw" (defArgs s__law_draw) (defBody s__law_draw) (defScope s__law_draw) .none kV__law_draw dc__law_draw pm__law_draw an__law_draw cd__law_draw ct__law_draw), sl__law_draw⟩)
    (c__law_draw : PySem.W.codeIn K cd__law_draw "_law_draw" = true)
    (k__law_draw : PySem.W.keepIn K (.ref f__law_draw) = true)
    (a__law_pick : PySem.W.nsIn K mainGlobals "_law_pick" = some (some (.ref f__law_pick)))
    (l__law_pick : K.lookup f__law_pick = some ⟨oc__law_pick, od__law_pick, .func (PySem.W.fnOf "_law_pick" "_law_pick" (defArgs s__law_pick) (defBody s__law_pick) (defScope s__law_pick) .none kV__law_pick dc__law_pick pm__law_pick an__law_pick cd__law_pick ct__law_pick), sl__law_pick⟩)
    (c__law_pick : PySem.W.codeIn K cd__law_pick "_law_pick" = true)
    (k__law_pick : PySem.W.keepIn K (.ref f__law_pick) = true)
    (a__law_same : PySem.W.nsIn K mainGlobals "_law_same" = some (some (.ref f__law_same)))
    (l__law_same : K.lookup f__law_same = some ⟨oc__law_same, od__law_same, .func (PySem.W.fnOf "_law_same" "_law_same" (defArgs s__law_same) (defBody s__law_same) (defScope s__law_same) .none kV__law_same dc__law_same pm__law_same an__law_same cd__law_same ct__law_same), sl__law_same⟩)
    (c__law_same : PySem.W.codeIn K cd__law_same "_law_same" = true)
    (k__law_same : PySem.W.keepIn K (.ref f__law_same) = true)
    (a__law_spoilt : PySem.W.nsIn K mainGlobals "_law_spoilt" = some (some (.ref f__law_spoilt)))
    (l__law_spoilt : K.lookup f__law_spoilt = some ⟨oc__law_spoilt, od__law_spoilt, .func (PySem.W.fnOf "_law_spoilt" "_law_spoilt" (defArgs s__law_spoilt) (defBody s__law_spoilt) (defScope s__law_spoilt) .none kV__law_spoilt dc__law_spoilt pm__law_spoilt an__law_spoilt cd__law_spoilt ct__law_spoilt), sl__law_spoilt⟩)
    (c__law_spoilt : PySem.W.codeIn K cd__law_spoilt "_law_spoilt" = true)
    (k__law_spoilt : PySem.W.keepIn K (.ref f__law_spoilt) = true)
    (a__law_rows : PySem.W.nsIn K mainGlobals "_law_rows" = some (some (.ref f__law_rows)))
    (l__law_rows : K.lookup f__law_rows = some ⟨oc__law_rows, od__law_rows, .func (PySem.W.fnOf "_law_rows" "_law_rows" (defArgs s__law_rows) (defBody s__law_rows) (defScope s__law_rows) .none kV__law_rows dc__law_rows pm__law_rows an__law_rows cd__law_rows ct__law_rows), sl__law_rows⟩)
    (c__law_rows : PySem.W.codeIn K cd__law_rows "_law_rows" = true)
    (k__law_rows : PySem.W.keepIn K (.ref f__law_rows) = true)
    (a__law_sign : PySem.W.nsIn K mainGlobals "_law_sign" = some (some (.ref f__law_sign)))
    (l__law_sign : K.lookup f__law_sign = some ⟨oc__law_sign, od__law_sign, .func (PySem.W.fnOf "_law_sign" "_law_sign" (defArgs s__law_sign) (defBody s__law_sign) (defScope s__law_sign) .none kV__law_sign dc__law_sign pm__law_sign an__law_sign cd__law_sign ct__law_sign), sl__law_sign⟩)
    (c__law_sign : PySem.W.codeIn K cd__law_sign "_law_sign" = true)
    (k__law_sign : PySem.W.keepIn K (.ref f__law_sign) = true)
    (a__law_wide : PySem.W.nsIn K mainGlobals "_law_wide" = some (some (.ref f__law_wide)))
    (l__law_wide : K.lookup f__law_wide = some ⟨oc__law_wide, od__law_wide, .func (PySem.W.fnOf "_law_wide" "_law_wide" (defArgs s__law_wide) (defBody s__law_wide) (defScope s__law_wide) .none kV__law_wide dc__law_wide pm__law_wide an__law_wide cd__law_wide ct__law_wide), sl__law_wide⟩)
    (c__law_wide : PySem.W.codeIn K cd__law_wide "_law_wide" = true)
    (k__law_wide : PySem.W.keepIn K (.ref f__law_wide) = true)
    (a__law_far : PySem.W.nsIn K mainGlobals "_law_far" = some (some (.ref f__law_far)))
    (l__law_far : K.lookup f__law_far = some ⟨oc__law_far, od__law_far, .func (PySem.W.fnOf "_law_far" "_law_far" (defArgs s__law_far) (defBody s__law_far) (defScope s__law_far) .none kV__law_far dc__law_far pm__law_far an__law_far cd__law_far ct__law_far), sl__law_far⟩)
    (c__law_far : PySem.W.codeIn K cd__law_far "_law_far" = true)
    (k__law_far : PySem.W.keepIn K (.ref f__law_far) = true)
    (a__law_could : PySem.W.nsIn K mainGlobals "_law_could" = some (some (.ref f__law_could)))
    (l__law_could : K.lookup f__law_could = some ⟨oc__law_could, od__law_could, .func (PySem.W.fnOf "_law_could" "_law_could" (defArgs s__law_could) (defBody s__law_could) (defScope s__law_could) .none kV__law_could dc__law_could pm__law_could an__law_could cd__law_could ct__law_could), sl__law_could⟩)
    (c__law_could : PySem.W.codeIn K cd__law_could "_law_could" = true)
    (k__law_could : PySem.W.keepIn K (.ref f__law_could) = true)
    (a__law_is_sheet : PySem.W.nsIn K mainGlobals "_law_is_sheet" = some (some (.ref f__law_is_sheet)))
    (l__law_is_sheet : K.lookup f__law_is_sheet = some ⟨oc__law_is_sheet, od__law_is_sheet, .func (PySem.W.fnOf "_law_is_sheet" "_law_is_sheet" (defArgs s__law_is_sheet) (defBody s__law_is_sheet) (defScope s__law_is_sheet) .none kV__law_is_sheet dc__law_is_sheet pm__law_is_sheet an__law_is_sheet cd__law_is_sheet ct__law_is_sheet), sl__law_is_sheet⟩)
    (c__law_is_sheet : PySem.W.codeIn K cd__law_is_sheet "_law_is_sheet" = true)
    (k__law_is_sheet : PySem.W.keepIn K (.ref f__law_is_sheet) = true)
    (a__law_spoilt_rows : PySem.W.nsIn K mainGlobals "_law_spoilt_rows" = some (some (.ref f__law_spoilt_rows)))
    (l__law_spoilt_rows : K.lookup f__law_spoilt_rows = some ⟨oc__law_spoilt_rows, od__law_spoilt_rows, .func (PySem.W.fnOf "_law_spoilt_rows" "_law_spoilt_rows" (defArgs s__law_spoilt_rows) (defBody s__law_spoilt_rows) (defScope s__law_spoilt_rows) .none kV__law_spoilt_rows dc__law_spoilt_rows pm__law_spoilt_rows an__law_spoilt_rows cd__law_spoilt_rows ct__law_spoilt_rows), sl__law_spoilt_rows⟩)
    (c__law_spoilt_rows : PySem.W.codeIn K cd__law_spoilt_rows "_law_spoilt_rows" = true)
    (k__law_spoilt_rows : PySem.W.keepIn K (.ref f__law_spoilt_rows) = true)
    (a_law : PySem.W.nsIn K mainGlobals "law" = some (some (.ref f_law)))
    (l_law : K.lookup f_law = some ⟨oc_law, od_law, .func (PySem.W.fnOf "law" "law" (defArgs s_law) (defBody s_law) (defScope s_law) .none kV_law dc_law pm_law an_law cd_law ct_law), sl_law⟩)
    (c_law : PySem.W.codeIn K cd_law "law" = true)
    (k_law : PySem.W.keepIn K (.ref f_law) = true)
    (z_all : PySem.W.nsIn K mainGlobals "all" = some none)
    (z_bool : PySem.W.nsIn K mainGlobals "bool" = some none)
    (z_enumerate : PySem.W.nsIn K mainGlobals "enumerate" = some none)
    (z_int : PySem.W.nsIn K mainGlobals "int" = some none)
    (z_isinstance : PySem.W.nsIn K mainGlobals "isinstance" = some none)
    (z_len : PySem.W.nsIn K mainGlobals "len" = some none)
    (z_list : PySem.W.nsIn K mainGlobals "list" = some none)
    (z_max : PySem.W.nsIn K mainGlobals "max" = some none)
    (z_min : PySem.W.nsIn K mainGlobals "min" = some none)
    (z_range : PySem.W.nsIn K mainGlobals "range" = some none)
    (z_repr : PySem.W.nsIn K mainGlobals "repr" = some none)
    (z_reversed : PySem.W.nsIn K mainGlobals "reversed" = some none)
    (z_sorted : PySem.W.nsIn K mainGlobals "sorted" = some none)
    (z_str : PySem.W.nsIn K mainGlobals "str" = some none)
    (z_sum : PySem.W.nsIn K mainGlobals "sum" = some none)
    (z_tuple : PySem.W.nsIn K mainGlobals "tuple" = some none)
    (z_zip : PySem.W.nsIn K mainGlobals "zip" = some none) :
    ∃ fd : FuncData, (∀ (s : Shared) (u : Value), BindsTo s fd ⟨[u], []⟩ [("script", u)]) ∧ ∀ base : Heap, K.In base → base.Ns mainGlobals mg → FnG P w K mg base CX0 11 fa fd ["script"] (sp_law K) := by
  have e := hfa.symm.trans (PySem.W.mg_of X G a_law)
  cases e
  have bd_InvalidBlotted : Binds K (PySem.W.ksFn "__init__" "InvalidBlotted.__init__" (defArgs ini_InvalidBlotted) (defBody ini_InvalidBlotted) (defScope ini_InvalidBlotted) (.ref dT_InvalidBlotted) .none dc_InvalidBlotted pm_InvalidBlotted an_InvalidBlotted (.ref cda_InvalidBlotted) ct_InvalidBlotted cc_InvalidBlotted) ["self", "value"] [] := by
    intro s us X2 hl
    match us, hl with
    | [u1, u2], _ =>
      obtain ⟨k, e1, e2⟩ : ∃ k, bindArgs (PySem.W.ksFn "__init__" "InvalidBlotted.__init__" (defArgs ini_InvalidBlotted) (defBody ini_InvalidBlotted) (defScope ini_InvalidBlotted) (.ref dT_InvalidBlotted) .none dc_InvalidBlotted pm_InvalidBlotted an_InvalidBlotted (.ref cda_InvalidBlotted) ct_InvalidBlotted cc_InvalidBlotted) ⟨[u1, u2], []⟩ = seqItems? (.ref dT_InvalidBlotted) >>= k ∧ k (some #[Value.none]) = pure (((["self", "value"] : List Str)).zip ([u1, u2] ++ [])) := ⟨_, rfl, rfl⟩
      exact BindsTo.of_looks fun M => by rw [e1]; exact looks_items X2 ld_InvalidBlotted rfl (.of_pure e2)
  have xi_InvalidBlotted : XcC P K mg "InvalidBlotted" A_InvalidBlotted I_InvalidBlotted (PySem.W.ksFn "__init__" "InvalidBlotted.__init__" (defArgs ini_InvalidBlotted) (defBody ini_InvalidBlotted) (defScope ini_InvalidBlotted) (.ref dT_InvalidBlotted) .none dc_InvalidBlotted pm_InvalidBlotted an_InvalidBlotted (.ref cda_InvalidBlotted) ct_InvalidBlotted cc_InvalidBlotted) := { xi := { ex := ⟨_, _, _, _, _, _, _, _, _, _, _, _, _, _, _, _, _, _, _, _, _, _, _, _, rfl, li_InvalidBlotted, ci_InvalidBlotted, ⟨_, _, _, _, _, _, lc_InvalidBlotted, vs_InvalidBlotted, fl_InvalidBlotted⟩, ⟨_, _, _, cc_InvalidBlotted_⟩, ⟨rfl, rfl, rfl, rfl, rfl, by decide +kernel, rfl, rfl, rfl⟩, fun env => ⟨_, rfl⟩⟩, top := by rw [eP]; rfl, hm := sm_InvalidBlotted, sB := sB_InvalidBlotted, op := op_, own := ow_InvalidBlotted, hno := nv_InvalidBlotted, T := { cls := ⟨_, _, _, _, _, _, _, _, _, _, _, _, _, _, _, xl_InvalidBlotted, xb_InvalidBlotted⟩, sa := sa_InvalidBlotted, exC := eC_InvalidBlotted, tyC := tC_InvalidBlotted, kC := kC_InvalidBlotted } }, iC := ii_InvalidBlotted, tI := ti_InvalidBlotted, bd := bd_InvalidBlotted, ms := PySem.W.mg_none_of X G zs_, mC := PySem.W.mg_of X G ac_InvalidBlotted }
  have q_InvalidBlotted : XqC K A_InvalidBlotted := { cl := iC_InvalidBlotted, ga := ga_InvalidBlotted, gt := gt_InvalidBlotted, sb := eC_InvalidBlotted, hd := hD_InvalidBlotted, ca := ca_InvalidBlotted, cg := cg_, ct := ct_, mo := mo_InvalidBlotted, nv := nv_InvalidBlotted }
  have bd_InvalidNumber : Binds K (PySem.W.ksFn "__init__" "InvalidNumber.__init__" (defArgs ini_InvalidNumber) (defBody ini_InvalidNumber) (defScope ini_InvalidNumber) (.ref dT_InvalidNumber) .none dc_InvalidNumber pm_InvalidNumber an_InvalidNumber (.ref cda_InvalidNumber) ct_InvalidNumber cc_InvalidNumber) ["self", "value"] [] := by
    intro s us X2 hl
    match us, hl with
    | [u1, u2], _ =>
      obtain ⟨k, e1, e2⟩ : ∃ k, bindArgs (PySem.W.ksFn "__init__" "InvalidNumber.__init__" (defArgs ini_InvalidNumber) (defBody ini_InvalidNumber) (defScope ini_InvalidNumber) (.ref dT_InvalidNumber) .none dc_InvalidNumber pm_InvalidNumber an_InvalidNumber (.ref cda_InvalidNumber) ct_InvalidNumber cc_InvalidNumber) ⟨[u1, u2], []⟩ = seqItems? (.ref dT_InvalidNumber) >>= k ∧ k (some #[Value.none]) = pure (((["self", "value"] : List Str)).zip ([u1, u2] ++ [])) := ⟨_, rfl, rfl⟩
      exact BindsTo.of_looks fun M => by rw [e1]; exact looks_items X2 ld_InvalidNumber rfl (.of_pure e2)
  have xi_InvalidNumber : XcC P K mg "InvalidNumber" A_InvalidNumber I_InvalidNumber (PySem.W.ksFn "__init__" "InvalidNumber.__init__" (defArgs ini_InvalidNumber) (defBody ini_InvalidNumber) (defScope ini_InvalidNumber) (.ref dT_InvalidNumber) .none dc_InvalidNumber pm_InvalidNumber an_InvalidNumber (.ref cda_InvalidNumber) ct_InvalidNumber cc_InvalidNumber) := { xi := { ex := ⟨_, _, _, _, _, _, _, _, _, _, _, _, _, _, _, _, _, _, _, _, _, _, _, _, rfl, li_InvalidNumber, ci_InvalidNumber, ⟨_, _, _, _, _, _, lc_InvalidNumber, vs_InvalidNumber, fl_InvalidNumber⟩, ⟨_, _, _, cc_InvalidNumber_⟩, ⟨rfl, rfl, rfl, rfl, rfl, by decide +kernel, rfl, rfl, rfl⟩, fun env => ⟨_, rfl⟩⟩, top := by rw [eP]; rfl, hm := sm_InvalidNumber, sB := sB_InvalidNumber, op := op_, own := ow_InvalidNumber, hno := nv_InvalidNumber, T := { cls := ⟨_, _, _, _, _, _, _, _, _, _, _, _, _, _, _, xl_InvalidNumber, xb_InvalidNumber⟩, sa := sa_InvalidNumber, exC := eC_InvalidNumber, tyC := tC_InvalidNumber, kC := kC_InvalidNumber } }, iC := ii_InvalidNumber, tI := ti_InvalidNumber, bd := bd_InvalidNumber, ms := PySem.W.mg_none_of X G zs_, mC := PySem.W.mg_of X G ac_InvalidNumber }
  have q_InvalidNumber : XqC K A_InvalidNumber := { cl := iC_InvalidNumber, ga := ga_InvalidNumber, gt := gt_InvalidNumber, sb := eC_InvalidNumber, hd := hD_InvalidNumber, ca := ca_InvalidNumber, cg := cg_, ct := ct_, mo := mo_InvalidNumber, nv := nv_InvalidNumber }
  have bd_InvalidPictures : Binds K (PySem.W.ksFn "__init__" "InvalidPictures.__init__" (defArgs ini_InvalidPictures) (defBody ini_InvalidPictures) (defScope ini_InvalidPictures) (.ref dT_InvalidPictures) .none dc_InvalidPictures pm_InvalidPictures an_InvalidPictures (.ref cda_InvalidPictures) ct_InvalidPictures cc_InvalidPictures) ["self", "value"] [] := by
    intro s us X2 hl
    match us, hl with
    | [u1, u2], _ =>
      obtain ⟨k, e1, e2⟩ : ∃ k, bindArgs (PySem.W.ksFn "__init__" "InvalidPictures.__init__" (defArgs ini_InvalidPictures) (defBody ini_InvalidPictures) (defScope ini_InvalidPictures) (.ref dT_InvalidPictures) .none dc_InvalidPictures pm_InvalidPictures an_InvalidPictures (.ref cda_InvalidPictures) ct_InvalidPictures cc_InvalidPictures) ⟨[u1, u2], []⟩ = seqItems? (.ref dT_InvalidPictures) >>= k ∧ k (some #[Value.none]) = pure (((["self", "value"] : List Str)).zip ([u1, u2] ++ [])) := ⟨_, rfl, rfl⟩
      exact BindsTo.of_looks fun M => by rw [e1]; exact looks_items X2 ld_InvalidPictures rfl (.of_pure e2)
  have xi_InvalidPictures : XcC P K mg "InvalidPictures" A_InvalidPictures I_InvalidPictures (PySem.W.ksFn "__init__" "InvalidPictures.__init__" (defArgs ini_InvalidPictures) (defBody ini_InvalidPictures) (defScope ini_InvalidPictures) (.ref dT_InvalidPictures) .none dc_InvalidPictures pm_InvalidPictures an_InvalidPictures (.ref cda_InvalidPictures) ct_InvalidPictures cc_InvalidPictures) := { xi := { ex := ⟨_, _, _, _, _, _, _, _, _, _, _, _, _, _, _, _, _, _, _, _, _, _, _, _, rfl, li_InvalidPictures, ci_InvalidPictures, ⟨_, _, _, _, _, _, lc_InvalidPictures, vs_InvalidPictures, fl_InvalidPictures⟩, ⟨_, _, _, cc_InvalidPictures_⟩, ⟨rfl, rfl, rfl, rfl, rfl, by decide +kernel, rfl, rfl, rfl⟩, fun env => ⟨_, rfl⟩⟩, top := by rw [eP]; rfl, hm := sm_InvalidPictures, sB := sB_InvalidPictures, op := op_, own := ow_InvalidPictures, hno := nv_InvalidPictures, T := { cls := ⟨_, _, _, _, _, _, _, _, _, _, _, _, _, _, _, xl_InvalidPictures, xb_InvalidPictures⟩, sa := sa_InvalidPictures, exC := eC_InvalidPictures, tyC := tC_InvalidPictures, kC := kC_InvalidPictures } }, iC := ii_InvalidPictures, tI := ti_InvalidPictures, bd := bd_InvalidPictures, ms := PySem.W.mg_none_of X G zs_, mC := PySem.W.mg_of X G ac_InvalidPictures }
  have q_InvalidPictures : XqC K A_InvalidPictures := { cl := iC_InvalidPictures, ga := ga_InvalidPictures, gt := gt_InvalidPictures, sb := eC_InvalidPictures, hd := hD_InvalidPictures, ca := ca_InvalidPictures, cg := cg_, ct := ct_, mo := mo_InvalidPictures, nv := nv_InvalidPictures }
  have F_is_whole : FunT K "is_whole" "is_whole" s_is_whole [.none, .none] _ _ := ⟨⟨_, _, _, _, _, _, _, _, _, _, rfl, l_is_whole, c_is_whole, _, _, ld_is_whole, rfl⟩, k_is_whole⟩
  have F_are_rows := fun_mk (st := s_are_rows) l_are_rows c_are_rows k_are_rows
  have F_is_picture := fun_mk (st := s_is_picture) l_is_picture c_is_picture k_is_picture
  have F_is_blotted := fun_mk (st := s_is_blotted) l_is_blotted c_is_blotted k_is_blotted
  have F_look_at_count : FunT K "look_at_count" "look_at_count" s_look_at_count [.none] _ _ := ⟨⟨_, _, _, _, _, _, _, _, _, _, rfl, l_look_at_count, c_look_at_count, _, _, ld_look_at_count, rfl⟩, k_look_at_count⟩
  have F_wide_of := fun_mk (st := s_wide_of) l_wide_of c_wide_of k_wide_of
  have F_cut_right := fun_mk (st := s_cut_right) l_cut_right c_cut_right k_cut_right
  have F_marks := fun_mk (st := s_marks) l_marks c_marks k_marks
  have F_masks_of := fun_mk (st := s_masks_of) l_masks_of c_masks_of k_masks_of
  have F_unlike_of := fun_mk (st := s_unlike_of) l_unlike_of c_unlike_of k_unlike_of
  have F_count_of := fun_mk (st := s_count_of) l_count_of c_count_of k_count_of
  have F_look_beside := fun_mk (st := s_look_beside) l_look_beside c_look_beside k_look_beside
  have F_distance_of := fun_mk (st := s_distance_of) l_distance_of c_distance_of k_distance_of
  have F_halved := fun_mk (st := s_halved) l_halved c_halved k_halved
  have F_are_pictures := fun_mk (st := s_are_pictures) l_are_pictures c_are_pictures k_are_pictures
  have F_told_apart := fun_mk (st := s_told_apart) l_told_apart c_told_apart k_told_apart
  have F_nearest_of := fun_mk (st := s_nearest_of) l_nearest_of c_nearest_of k_nearest_of
  have F__law_list := fun_mk (st := s__law_list) l__law_list c__law_list k__law_list
  have F__law_first := fun_mk (st := s__law_first) l__law_first c__law_first k__law_first
  have F__law_nearest := fun_mk (st := s__law_nearest) l__law_nearest c__law_nearest k__law_nearest
  have F__law_right := fun_mk (st := s__law_right) l__law_right c__law_right k__law_right
  have F__law_blots := fun_mk (st := s__law_blots) l__law_blots c__law_blots k__law_blots
  have F__law_purse := fun_mk (st := s__law_purse) l__law_purse c__law_purse k__law_purse
  have F__law_draw := fun_mk (st := s__law_draw) l__law_draw c__law_draw k__law_draw
  have F__law_pick := fun_mk (st := s__law_pick) l__law_pick c__law_pick k__law_pick
  have F__law_same := fun_mk (st := s__law_same) l__law_same c__law_same k__law_same
  have F__law_spoilt := fun_mk (st := s__law_spoilt) l__law_spoilt c__law_spoilt k__law_spoilt
  have F__law_rows := fun_mk (st := s__law_rows) l__law_rows c__law_rows k__law_rows
  have F__law_sign := fun_mk (st := s__law_sign) l__law_sign c__law_sign k__law_sign
  have F__law_wide := fun_mk (st := s__law_wide) l__law_wide c__law_wide k__law_wide
  have F__law_far := fun_mk (st := s__law_far) l__law_far c__law_far k__law_far
  have F__law_could := fun_mk (st := s__law_could) l__law_could c__law_could k__law_could
  have F__law_is_sheet := fun_mk (st := s__law_is_sheet) l__law_is_sheet c__law_is_sheet k__law_is_sheet
  have F__law_spoilt_rows := fun_mk (st := s__law_spoilt_rows) l__law_spoilt_rows c__law_spoilt_rows k__law_spoilt_rows
  have F_law := fun_mk (st := s_law) l_law c_law k_law
  let T : Txt P K mg := { a_is_whole := f_is_whole, d_is_whole := _, F_is_whole := F_is_whole, g_is_whole := PySem.W.mg_of X G a_is_whole, a_are_rows := f_are_rows, d_are_rows := _, F_are_rows := F_are_rows, g_are_rows := PySem.W.mg_of X G a_are_rows, a_is_picture := f_is_picture, d_is_picture := _, F_is_picture := F_is_picture, g_is_picture := PySem.W.mg_of X G a_is_picture, a_is_blotted := f_is_blotted, d_is_blotted := _, F_is_blotted := F_is_blotted, g_is_blotted := PySem.W.mg_of X G a_is_blotted, a_look_at_count := f_look_at_count, d_look_at_count := _, F_look_at_count := F_look_at_count, g_look_at_count := PySem.W.mg_of X G a_look_at_count, a_wide_of := f_wide_of, d_wide_of := _, F_wide_of := F_wide_of, g_wide_of := PySem.W.mg_of X G a_wide_of, a_cut_right := f_cut_right, d_cut_right := _, F_cut_right := F_cut_right, g_cut_right := PySem.W.mg_of X G a_cut_right, a_marks := f_marks, d_marks := _, F_marks := F_marks, g_marks := PySem.W.mg_of X G a_marks, a_masks_of := f_masks_of, d_masks_of := _, F_masks_of := F_masks_of, g_masks_of := PySem.W.mg_of X G a_masks_of, a_unlike_of := f_unlike_of, d_unlike_of := _, F_unlike_of := F_unlike_of, g_unlike_of := PySem.W.mg_of X G a_unlike_of, a_count_of := f_count_of, d_count_of := _, F_count_of := F_count_of, g_count_of := PySem.W.mg_of X G a_count_of, a_look_beside := f_look_beside, d_look_beside := _, F_look_beside := F_look_beside, g_look_beside := PySem.W.mg_of X G a_look_beside, a_distance_of := f_distance_of, d_distance_of := _, F_distance_of := F_distance_of, g_distance_of := PySem.W.mg_of X G a_distance_of, a_halved := f_halved, d_halved := _, F_halved := F_halved, g_halved := PySem.W.mg_of X G a_halved, a_are_pictures := f_are_pictures, d_are_pictures := _, F_are_pictures := F_are_pictures, g_are_pictures := PySem.W.mg_of X G a_are_pictures, a_told_apart := f_told_apart, d_told_apart := _, F_told_apart := F_told_apart, g_told_apart := PySem.W.mg_of X G a_told_apart, a_nearest_of := f_nearest_of, d_nearest_of := _, F_nearest_of := F_nearest_of, g_nearest_of := PySem.W.mg_of X G a_nearest_of, a__law_list := f__law_list, d__law_list := _, F__law_list := F__law_list, g__law_list := PySem.W.mg_of X G a__law_list, a__law_first := f__law_first, d__law_first := _, F__law_first := F__law_first, g__law_first := PySem.W.mg_of X G a__law_first, a__law_nearest := f__law_nearest, d__law_nearest := _, F__law_nearest := F__law_nearest, g__law_nearest := PySem.W.mg_of X G a__law_nearest, a__law_right := f__law_right, d__law_right := _, F__law_right := F__law_right, g__law_right := PySem.W.mg_of X G a__law_right, a__law_blots := f__law_blots, d__law_blots := _, F__law_blots := F__law_blots, g__law_blots := PySem.W.mg_of X G a__law_blots, a__law_purse := f__law_purse, d__law_purse := _, F__law_purse := F__law_purse, g__law_purse := PySem.W.mg_of X G a__law_purse, a__law_draw := f__law_draw, d__law_draw := _, F__law_draw := F__law_draw, g__law_draw := PySem.W.mg_of X G a__law_draw, a__law_pick := f__law_pick, d__law_pick := _, F__law_pick := F__law_pick, g__law_pick := PySem.W.mg_of X G a__law_pick, a__law_same := f__law_same, d__law_same := _, F__law_same := F__law_same, g__law_same := PySem.W.mg_of X G a__law_same, a__law_spoilt := f__law_spoilt, d__law_spoilt := _, F__law_spoilt := F__law_spoilt, g__law_spoilt := PySem.W.mg_of X G a__law_spoilt, a__law_rows := f__law_rows, d__law_rows := _, F__law_rows := F__law_rows, g__law_rows := PySem.W.mg_of X G a__law_rows, a__law_sign := f__law_sign, d__law_sign := _, F__law_sign := F__law_sign, g__law_sign := PySem.W.mg_of X G a__law_sign, a__law_wide := f__law_wide, d__law_wide := _, F__law_wide := F__law_wide, g__law_wide := PySem.W.mg_of X G a__law_wide, a__law_far := f__law_far, d__law_far := _, F__law_far := F__law_far, g__law_far := PySem.W.mg_of X G a__law_far, a__law_could := f__law_could, d__law_could := _, F__law_could := F__law_could, g__law_could := PySem.W.mg_of X G a__law_could, a__law_is_sheet := f__law_is_sheet, d__law_is_sheet := _, F__law_is_sheet := F__law_is_sheet, g__law_is_sheet := PySem.W.mg_of X G a__law_is_sheet, a__law_spoilt_rows := f__law_spoilt_rows, d__law_spoilt_rows := _, F__law_spoilt_rows := F__law_spoilt_rows, g__law_spoilt_rows := PySem.W.mg_of X G a__law_spoilt_rows, a_law := _, d_law := _, F_law := F_law, g_law := PySem.W.mg_of X G a_law, a_InkError := A_InkError, g_InkError := PySem.W.mg_of X G ac_InkError, a_InvalidBlotted := A_InvalidBlotted, g_InvalidBlotted := PySem.W.mg_of X G ac_InvalidBlotted, a_InvalidNumber := A_InvalidNumber, g_InvalidNumber := PySem.W.mg_of X G ac_InvalidNumber, a_InvalidPictures := A_InvalidPictures, g_InvalidPictures := PySem.W.mg_of X G ac_InvalidPictures, i_InvalidBlotted := I_InvalidBlotted, di_InvalidBlotted := _, X_InvalidBlotted := xi_InvalidBlotted, q_InvalidBlotted := q_InvalidBlotted, i_InvalidNumber := I_InvalidNumber, di_InvalidNumber := _, X_InvalidNumber := xi_InvalidNumber, q_InvalidNumber := q_InvalidNumber, i_InvalidPictures := I_InvalidPictures, di_InvalidPictures := _, X_InvalidPictures := xi_InvalidPictures, q_InvalidPictures := q_InvalidPictures, t_MOST_HIGH := tk_MOST_HIGH, c_MOST_HIGH := PySem.W.mg_of X G cs_MOST_HIGH, t_MOST_WIDE := tk_MOST_WIDE, c_MOST_WIDE := PySem.W.mg_of X G cs_MOST_WIDE, t_MOST_PICTURES := tk_MOST_PICTURES, c_MOST_PICTURES := PySem.W.mg_of X G cs_MOST_PICTURES, z_all := PySem.W.mg_none_of X G z_all, z_bool := PySem.W.mg_none_of X G z_bool, z_enumerate := PySem.W.mg_none_of X G z_enumerate, z_int := PySem.W.mg_none_of X G z_int, z_isinstance := PySem.W.mg_none_of X G z_isinstance, z_len := PySem.W.mg_none_of X G z_len, z_list := PySem.W.mg_none_of X G z_list, z_max := PySem.W.mg_none_of X G z_max, z_min := PySem.W.mg_none_of X G z_min, z_range := PySem.W.mg_none_of X G z_range, z_repr := PySem.W.mg_none_of X G z_repr, z_reversed := PySem.W.mg_none_of X G z_reversed, z_sorted := PySem.W.mg_none_of X G z_sorted, z_str := PySem.W.mg_none_of X G z_str, z_sum := PySem.W.mg_none_of X G z_sum, z_tuple := PySem.W.mg_none_of X G z_tuple, z_zip := PySem.W.mg_none_of X G z_zip }
  exact ⟨_, fun s u => .of_eq rfl, fun base _ _ => ok_law T⟩
end K04
open PySem PySem.W PyProof.Rows
set_option maxHeartbeats 0 in
theorem PySem.Challenge.cw_inksays_k04_whole_pictures_told_apart_holds : PySem.Challenge.rw_inksays_k04_whole_pictures_told_apart.Holds := by
  w_on; o_law; k_head; (case hw => w_witness2)
  k_fill
  refine Dv.walk_ofG (l := PySem.Challenge.rw_inksays_k04_whole_pictures_told_apart) (n := 63) (k := 11) (x := "script") (cx := fun _ => L2.CX0) (sp := fun w => K04.sp_law _) rfl (by decide) rfl ⟨rfl, by decide, by decide⟩ (fun w h Y => PySem.W.kIn_of Y) ?F (fun _ H a ns hl _ hS => ⟨a, ns, rfl, hS, fun _ => rfl⟩) (fun _ _ _ _ _ z => z)
  case F =>
    intro w mg fa h KX G hmg
    refine' K04.all_mk KX G rfl hmg ?ac_InkError ?ac_InvalidBlotted ?ac_InvalidNumber ?ac_InvalidPictures ?xl_InvalidBlotted ?xb_InvalidBlotted ?ii_InvalidBlotted ?ti_InvalidBlotted ?li_InvalidBlotted ?ld_InvalidBlotted ?ci_InvalidBlotted ?lc_InvalidBlotted ?vs_InvalidBlotted ?fl_InvalidBlotted ?cc_InvalidBlotted_ ?sm_InvalidBlotted ?sB_InvalidBlotted ?ow_InvalidBlotted ?nv_InvalidBlotted ?sa_InvalidBlotted ?ga_InvalidBlotted ?gt_InvalidBlotted ?eC_InvalidBlotted ?tC_InvalidBlotted ?kC_InvalidBlotted ?iC_InvalidBlotted ?hD_InvalidBlotted ?ca_InvalidBlotted ?mo_InvalidBlotted ?xl_InvalidNumber ?xb_InvalidNumber ?ii_InvalidNumber ?ti_InvalidNumber ?li_InvalidNumber ?ld_InvalidNumber ?ci_InvalidNumber ?lc_InvalidNumber ?vs_InvalidNumber ?fl_InvalidNumber ?cc_InvalidNumber_ ?sm_InvalidNumber ?sB_InvalidNumber ?ow_InvalidNumber ?nv_InvalidNumber ?sa_InvalidNumber ?ga_InvalidNumber ?gt_InvalidNumber ?eC_InvalidNumber ?tC_InvalidNumber ?kC_InvalidNumber ?iC_InvalidNumber ?hD_InvalidNumber ?ca_InvalidNumber ?mo_InvalidNumber ?xl_InvalidPictures ?xb_InvalidPictures ?ii_InvalidPictures ?ti_InvalidPictures ?li_InvalidPictures ?ld_InvalidPictures ?ci_InvalidPictures ?lc_InvalidPictures ?vs_InvalidPictures ?fl_InvalidPictures ?cc_InvalidPictures_ ?sm_InvalidPictures ?sB_InvalidPictures ?ow_InvalidPictures ?nv_InvalidPictures ?sa_InvalidPictures ?ga_InvalidPictures ?gt_InvalidPictures ?eC_InvalidPictures ?tC_InvalidPictures ?kC_InvalidPictures ?iC_InvalidPictures ?hD_InvalidPictures ?ca_InvalidPictures ?mo_InvalidPictures ?op_ ?zs_ ?cg_ ?ct_ ?cs_MOST_HIGH ?cs_MOST_WIDE ?cs_MOST_PICTURES ?a_is_whole ?l_is_whole ?ld_is_whole ?c_is_whole ?k_is_whole ?a_are_rows ?l_are_rows ?c_are_rows ?k_are_rows ?a_is_picture ?l_is_picture ?c_is_picture ?k_is_picture ?a_is_blotted ?l_is_blotted ?c_is_blotted ?k_is_blotted ?a_look_at_count ?l_look_at_count ?ld_look_at_count ?c_look_at_count ?k_look_at_count ?a_wide_of ?l_wide_of ?c_wide_of ?k_wide_of ?a_cut_right ?l_cut_right ?c_cut_right ?k_cut_right ?a_marks ?l_marks ?c_marks ?k_marks ?a_masks_of ?l_masks_of ?c_masks_of ?k_masks_of ?a_unlike_of ?l_unlike_of ?c_unlike_of ?k_unlike_of ?a_count_of ?l_count_of ?c_count_of ?k_count_of ?a_look_beside ?l_look_beside ?c_look_beside ?k_look_beside ?a_distance_of ?l_distance_of ?c_distance_of ?k_distance_of ?a_halved ?l_halved ?c_halved ?k_halved ?a_are_pictures ?l_are_pictures ?c_are_pictures ?k_are_pictures ?a_told_apart ?l_told_apart ?c_told_apart ?k_told_apart ?a_nearest_of ?l_nearest_of ?c_nearest_of ?k_nearest_of ?a__law_list ?l__law_list ?c__law_list ?k__law_list ?a__law_first ?l__law_first ?c__law_first ?k__law_first ?a__law_nearest ?l__law_nearest ?c__law_nearest ?k__law_nearest ?a__law_right ?l__law_right ?c__law_right ?k__law_right ?a__law_blots ?l__law_blots ?c__law_blots ?k__law_blots ?a__law_purse ?l__law_purse ?c__law_purse ?k__law_purse ?a__law_draw ?l__law_draw ?c__law_draw ?k__law_draw ?a__law_pick ?l__law_pick ?c__law_pick ?k__law_pick ?a__law_same ?l__law_same ?c__law_same ?k__law_same ?a__law_spoilt ?l__law_spoilt ?c__law_spoilt ?k__law_spoilt ?a__law_rows ?l__law_rows ?c__law_rows ?k__law_rows ?a__law_sign ?l__law_sign ?c__law_sign ?k__law_sign ?a__law_wide ?l__law_wide ?c__law_wide ?k__law_wide ?a__law_far ?l__law_far ?c__law_far ?k__law_far ?a__law_could ?l__law_could ?c__law_could ?k__law_could ?a__law_is_sheet ?l__law_is_sheet ?c__law_is_sheet ?k__law_is_sheet ?a__law_spoilt_rows ?l__law_spoilt_rows ?c__law_spoilt_rows ?k__law_spoilt_rows ?a_law ?l_law ?c_law ?k_law ?z_all ?z_bool ?z_enumerate ?z_int ?z_isinstance ?z_len ?z_list ?z_max ?z_min ?z_range ?z_repr ?z_reversed ?z_sorted ?z_str ?z_sum ?z_tuple ?z_zip
    (case ac_InkError => k_is)
    (case ac_InvalidBlotted => k_is)
    (case ac_InvalidNumber => k_is)
    (case ac_InvalidPictures => k_is)
    (case xl_InvalidBlotted => k_is)
    (case xb_InvalidBlotted => decide +kernel)
    (case ii_InvalidBlotted => k_is)
    (case ti_InvalidBlotted => k_is)
    (case li_InvalidBlotted => k_is)
    (case ld_InvalidBlotted => k_is)
    (case ci_InvalidBlotted => k_is)
    (case lc_InvalidBlotted => k_is)
    (case vs_InvalidBlotted => rfl)
    (case fl_InvalidBlotted => first | rfl | decide +kernel)
    (case cc_InvalidBlotted_ => k_is)
    (case sm_InvalidBlotted => ks_is)
    (case sB_InvalidBlotted => k_is)
    (case ow_InvalidBlotted => k_is)
    (case nv_InvalidBlotted => k_is)
    (case sa_InvalidBlotted => k_is)
    (case ga_InvalidBlotted => k_is)
    (case gt_InvalidBlotted => k_is)
    (case eC_InvalidBlotted => k_is)
    (case tC_InvalidBlotted => k_is)
    (case kC_InvalidBlotted => k_is)
    (case iC_InvalidBlotted => k_is)
    (case hD_InvalidBlotted => k_is)
    (case ca_InvalidBlotted => k_is)
    (case mo_InvalidBlotted => k_is)
    (case xl_InvalidNumber => k_is)
    (case xb_InvalidNumber => decide +kernel)
    (case ii_InvalidNumber => k_is)
    (case ti_InvalidNumber => k_is)
    (case li_InvalidNumber => k_is)
    (case ld_InvalidNumber => k_is)
    (case ci_InvalidNumber => k_is)
    (case lc_InvalidNumber => k_is)
    (case vs_InvalidNumber => rfl)
    (case fl_InvalidNumber => first | rfl | decide +kernel)
    (case cc_InvalidNumber_ => k_is)
    (case sm_InvalidNumber => ks_is)
    (case sB_InvalidNumber => k_is)
    (case ow_InvalidNumber => k_is)
    (case nv_InvalidNumber => k_is)
    (case sa_InvalidNumber => k_is)
    (case ga_InvalidNumber => k_is)
    (case gt_InvalidNumber => k_is)
    (case eC_InvalidNumber => k_is)
    (case tC_InvalidNumber => k_is)
    (case kC_InvalidNumber => k_is)
    (case iC_InvalidNumber => k_is)
    (case hD_InvalidNumber => k_is)
    (case ca_InvalidNumber => k_is)
    (case mo_InvalidNumber => k_is)
    (case xl_InvalidPictures => k_is)
    (case xb_InvalidPictures => decide +kernel)
    (case ii_InvalidPictures => k_is)
    (case ti_InvalidPictures => k_is)
    (case li_InvalidPictures => k_is)
    (case ld_InvalidPictures => k_is)
    (case ci_InvalidPictures => k_is)
    (case lc_InvalidPictures => k_is)
    (case vs_InvalidPictures => rfl)
    (case fl_InvalidPictures => first | rfl | decide +kernel)
    (case cc_InvalidPictures_ => k_is)
    (case sm_InvalidPictures => ks_is)
    (case sB_InvalidPictures => k_is)
    (case ow_InvalidPictures => k_is)
    (case nv_InvalidPictures => k_is)
    (case sa_InvalidPictures => k_is)
    (case ga_InvalidPictures => k_is)
    (case gt_InvalidPictures => k_is)
    (case eC_InvalidPictures => k_is)
    (case tC_InvalidPictures => k_is)
    (case kC_InvalidPictures => k_is)
    (case iC_InvalidPictures => k_is)
    (case hD_InvalidPictures => k_is)
    (case ca_InvalidPictures => k_is)
    (case mo_InvalidPictures => k_is)
    (case op_ => k_is)
    (case zs_ => k_is)
    (case cg_ => k_is)
    (case ct_ => k_is)
    (case cs_MOST_HIGH => k_is)
    (case cs_MOST_WIDE => k_is)
    (case cs_MOST_PICTURES => k_is)
    (case a_is_whole => k_is)
    (case l_is_whole => k_is)
    (case ld_is_whole => k_is)
    (case c_is_whole => k_is)
    (case k_is_whole => k_is)
    (case a_are_rows => k_is)
    (case l_are_rows => k_is)
    (case c_are_rows => k_is)
    (case k_are_rows => k_is)
    (case a_is_picture => k_is)
    (case l_is_picture => k_is)
    (case c_is_picture => k_is)
    (case k_is_picture => k_is)
    (case a_is_blotted => k_is)
    (case l_is_blotted => k_is)
    (case c_is_blotted => k_is)
    (case k_is_blotted => k_is)
    (case a_look_at_count => k_is)
    (case l_look_at_count => k_is)
    (case ld_look_at_count => k_is)
    (case c_look_at_count => k_is)
    (case k_look_at_count => k_is)
    (case a_wide_of => k_is)
    (case l_wide_of => k_is)
    (case c_wide_of => k_is)
    (case k_wide_of => k_is)
    (case a_cut_right => k_is)
    (case l_cut_right => k_is)
    (case c_cut_right => k_is)
    (case k_cut_right => k_is)
    (case a_marks => k_is)
    (case l_marks => k_is)
    (case c_marks => k_is)
    (case k_marks => k_is)
    (case a_masks_of => k_is)
    (case l_masks_of => k_is)
    (case c_masks_of => k_is)
    (case k_masks_of => k_is)
    (case a_unlike_of => k_is)
    (case l_unlike_of => k_is)
    (case c_unlike_of => k_is)
    (case k_unlike_of => k_is)
    (case a_count_of => k_is)
    (case l_count_of => k_is)
    (case c_count_of => k_is)
    (case k_count_of => k_is)
    (case a_look_beside => k_is)
    (case l_look_beside => k_is)
    (case c_look_beside => k_is)
    (case k_look_beside => k_is)
    (case a_distance_of => k_is)
    (case l_distance_of => k_is)
    (case c_distance_of => k_is)
    (case k_distance_of => k_is)
    (case a_halved => k_is)
    (case l_halved => k_is)
    (case c_halved => k_is)
    (case k_halved => k_is)
    (case a_are_pictures => k_is)
    (case l_are_pictures => k_is)
    (case c_are_pictures => k_is)
    (case k_are_pictures => k_is)
    (case a_told_apart => k_is)
    (case l_told_apart => k_is)
    (case c_told_apart => k_is)
    (case k_told_apart => k_is)
    (case a_nearest_of => k_is)
    (case l_nearest_of => k_is)
    (case c_nearest_of => k_is)
    (case k_nearest_of => k_is)
    (case a__law_list => k_is)
    (case l__law_list => k_is)
    (case c__law_list => k_is)
    (case k__law_list => k_is)
    (case a__law_first => k_is)
    (case l__law_first => k_is)
    (case c__law_first => k_is)
    (case k__law_first => k_is)
    (case a__law_nearest => k_is)
    (case l__law_nearest => k_is)
    (case c__law_nearest => k_is)
    (case k__law_nearest => k_is)
    (case a__law_right => k_is)
    (case l__law_right => k_is)
    (case c__law_right => k_is)
    (case k__law_right => k_is)
    (case a__law_blots => k_is)
    (case l__law_blots => k_is)
    (case c__law_blots => k_is)
    (case k__law_blots => k_is)
    (case a__law_purse => k_is)
    (case l__law_purse => k_is)
    (case c__law_purse => k_is)
    (case k__law_purse => k_is)
    (case a__law_draw => k_is)
    (case l__law_draw => k_is)
    (case c__law_draw => k_is)
    (case k__law_draw => k_is)
    (case a__law_pick => k_is)
    (case l__law_pick => k_is)
    (case c__law_pick => k_is)
    (case k__law_pick => k_is)
    (case a__law_same => k_is)
    (case l__law_same => k_is)
    (case c__law_same => k_is)
    (case k__law_same => k_is)
    (case a__law_spoilt => k_is)
    (case l__law_spoilt => k_is)
    (case c__law_spoilt => k_is)
    (case k__law_spoilt => k_is)
    (case a__law_rows => k_is)
    (case l__law_rows => k_is)
    (case c__law_rows => k_is)
    (case k__law_rows => k_is)
    (case a__law_sign => k_is)
    (case l__law_sign => k_is)
    (case c__law_sign => k_is)
    (case k__law_sign => k_is)
    (case a__law_wide => k_is)
    (case l__law_wide => k_is)
    (case c__law_wide => k_is)
    (case k__law_wide => k_is)
    (case a__law_far => k_is)
    (case l__law_far => k_is)
    (case c__law_far => k_is)
    (case k__law_far => k_is)
    (case a__law_could => k_is)
    (case l__law_could => k_is)
    (case c__law_could => k_is)
    (case k__law_could => k_is)
    (case a__law_is_sheet => k_is)
    (case l__law_is_sheet => k_is)
    (case c__law_is_sheet => k_is)
    (case k__law_is_sheet => k_is)
    (case a__law_spoilt_rows => k_is)
    (case l__law_spoilt_rows => k_is)
    (case c__law_spoilt_rows => k_is)
    (case k__law_spoilt_rows => k_is)
    (case a_law => k_is)
    (case l_law => k_is)
    (case c_law => k_is)
    (case k_law => k_is)
    (case z_all => k_is)
    (case z_bool => k_is)
    (case z_enumerate => k_is)
    (case z_int => k_is)
    (case z_isinstance => k_is)
    (case z_len => k_is)
    (case z_list => k_is)
    (case z_max => k_is)
    (case z_min => k_is)
    (case z_range => k_is)
    (case z_repr => k_is)
    (case z_reversed => k_is)
    (case z_sorted => k_is)
    (case z_str => k_is)
    (case z_sum => k_is)
    (case z_tuple => k_is)
    (case z_zip => k_is)
