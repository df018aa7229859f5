/- The program and the reference return the same splittings of cocycles, for all arguments (FnExactSplittingOf). This file is a part of the proof. -/
import Derived.Test.YtkifphhpbcgieaaGreatAbC
noncomputable section
namespace Go.Wk
open Go Go.Ab
structure SPr where
 zA:List Int
 zW:List (List Int)
 zC:List (List (List Int))
abbrev xU (x:SPr):T:=.agg [(L 1 I) x.zA,(L 1 (L 1 I)) x.zW,(L 1 (L 1 (L 1 I))) x.zC]
instance:Enc xU:=.of fun _ => zP6 ⟨Enc.t (f:=(L 1 I)) inferInstance _,Enc.t (f:=(L 1 (L 1 I))) inferInstance _,Enc.t (f:=(L 1 (L 1 (L 1 I)))) inferInstance _,trivial⟩
structure zD where
 Prime:Int
 Dim:Int
 zK:List (List (List Int))
abbrev yC (x:zD):T:=.agg [I x.Prime,I x.Dim,(L 1 (L 1 (L 1 I))) x.zK]
instance:Enc yC:=.of fun _ => zP6 ⟨Enc.t (f:=I) inferInstance _,Enc.t (f:=I) inferInstance _,Enc.t (f:=(L 1 (L 1 (L 1 I)))) inferInstance _,trivial⟩
structure yU where
 Kind:Int
 zUq:Int
 zUr:Int
 zSq:Int
abbrev zFt (x:yU):T:=.agg [I x.Kind,I x.zUq,I x.zUr,I x.zSq]
instance:Enc zFt:=.of fun _ => zP6 ⟨Enc.t (f:=I) inferInstance _,Enc.t (f:=I) inferInstance _,Enc.t (f:=I) inferInstance _,Enc.t (f:=I) inferInstance _,trivial⟩
structure zV where
 Prime:Int
 xJ:Int
 Rows:List (List Int)
abbrev zAe (x:zV):T:=.agg [I x.Prime,I x.xJ,(L 1 (L 1 I)) x.Rows]
instance:Enc zAe:=.of fun _ => zP6 ⟨Enc.t (f:=I) inferInstance _,Enc.t (f:=I) inferInstance _,Enc.t (f:=(L 1 (L 1 I))) inferInstance _,trivial⟩
structure zS where
 p:SPr
 m:zD
 wP:List (List Int)
structure zJ where
 x:List Int
 v:List Int
abbrev yQ (x:zJ):T:=.agg [(L 1 I) x.x,(L 1 I) x.v]
instance:Enc yQ:=.of fun _ => zP6 ⟨Enc.t (f:=(L 1 I)) inferInstance _,Enc.t (f:=(L 1 I)) inferInstance _,trivial⟩
def zQL (x0:List Int) (x1:Int):Option Int :=
 (rng (x1 - (x0.length:Int))).bind fun v1 =>
 cond (decide (v1 < 0)) (
  some (-1)) (
  some v1)
def zUm (x0:List (List Int)) (s1:Int × Int):Option ((Int × Int) ⊕ (Int ⊕ Int)) :=
 cond (decide (s1.2 < (x0.length:Int))) (
  (ixO x0 s1.2).bind fun v2 =>
  (zQL v2 s1.1).bind fun r3 =>
  cond (decide (r3 < 0)) (
   some (.inr (.inr (-1)))) (
   (rng (s1.2 + 1)).bind fun v4 =>
   some (.inl (r3,v4)))) (
  some (.inr (.inl s1.1)))
def zQM (x0:List (List Int)) (x1:Int):Option Int :=
 (rng (x1 - (x0.length:Int))).bind fun v1 =>
 cond (decide (v1 < 0)) (
  some (-1)) (
  (zI (zUm x0) (v1,0)).bind fun r5 =>
  match r5 with
  | (.inl r5) =>
   some r5
  | (.inr r5) =>
   some r5)
def zUn (x0:List (List (List Int))) (s1:Int × Int):Option ((Int × Int) ⊕ (Int ⊕ Int)) :=
 cond (decide (s1.2 < (x0.length:Int))) (
  (ixO x0 s1.2).bind fun v2 =>
  (zQM v2 s1.1).bind fun r3 =>
  cond (decide (r3 < 0)) (
   some (.inr (.inr (-1)))) (
   (rng (s1.2 + 1)).bind fun v4 =>
   some (.inl (r3,v4)))) (
  some (.inr (.inl s1.1)))
def zTb (x0:List (List (List Int))) (x1:Int):Option Int :=
 (rng (x1 - (x0.length:Int))).bind fun v1 =>
 cond (decide (v1 < 0)) (
  some (-1)) (
  (zI (zUn x0) (v1,0)).bind fun r5 =>
  match r5 with
  | (.inl r5) =>
   some r5
  | (.inr r5) =>
   some r5)
def zTc (x0:SPr) (x1:Int):Option Int :=
 (zQL x0.zA x1).bind fun r1 =>
 cond (decide (r1 < 0)) (
  some (-1)) (
  (zQM x0.zW r1).bind fun r2 =>
  cond (decide (r2 < 0)) (
   some (-1)) (
   (zTb x0.zC r2).bind fun r3 =>
   cond (decide (r3 < 0)) (
    some (-1)) (
    some r3)))
def zTd (x0:zD) (x1:Int):Option Int :=
 (zTb x0.zK x1).bind fun r1 =>
 cond (decide (r1 < 0)) (
  some (-1)) (
  some r1)
def zQN (x0:List Int) (s1:(List Int) × Int):Option (((List Int) × Int) ⊕ (List Int)) :=
 cond (decide (s1.2 < (x0.length:Int))) (
  (ixO x0 s1.2).bind fun v2 =>
  (ixO s1.1 s1.2).bind fun _ =>
  (rng (s1.2 + 1)).bind fun v4 =>
  some (.inl (s1.1.set s1.2.toNat v2,v4))) (
  some (.inr s1.1))
def zOs (x0:List Int):Option (List Int) :=
 (yS (x0.length:Int)).bind fun m1 =>
 (zI (zQN x0) (List.replicate m1 (0:Int),0)).bind fun r5 =>
 some r5
def zVq (x0:List (List Int)) (s1:(List (List Int)) × Int):Option (((List (List Int)) × Int) ⊕ (List (List Int))) :=
 cond (decide (s1.2 < (x0.length:Int))) (
  (ixO x0 s1.2).bind fun v2 =>
  (zOs v2).bind fun r3 =>
  (ixO s1.1 s1.2).bind fun _ =>
  (rng (s1.2 + 1)).bind fun v5 =>
  some (.inl (s1.1.set s1.2.toNat r3,v5))) (
  some (.inr s1.1))
def f_E (x0:List (List Int)):Option (List (List Int)) :=
 (yS (x0.length:Int)).bind fun m1 =>
 (zI (zVq x0) (List.replicate m1 ([]:List Int),0)).bind fun r6 =>
 some r6
def zQO (x0:List (List (List Int))) (s1:(List (List (List Int))) × Int):Option (((List (List (List Int))) × Int) ⊕ (List (List (List Int)))) :=
 cond (decide (s1.2 < (x0.length:Int))) (
  (ixO x0 s1.2).bind fun v2 =>
  (f_E v2).bind fun r3 =>
  (ixO s1.1 s1.2).bind fun _ =>
  (rng (s1.2 + 1)).bind fun v5 =>
  some (.inl (s1.1.set s1.2.toNat r3,v5))) (
  some (.inr s1.1))
def zQP (x0:List (List (List Int))):Option (List (List (List Int))) :=
 (yS (x0.length:Int)).bind fun m1 =>
 (zI (zQO x0) (List.replicate m1 ([]:List (List Int)),0)).bind fun r6 =>
 some r6
def zLY (x0:SPr):Option SPr :=
 (zOs x0.zA).bind fun r1 =>
 (f_E x0.zW).bind fun r2 =>
 (zQP x0.zC).bind fun r3 =>
 some (SPr.mk r1 r2 r3)
def zLZ (x0:zD):Option zD :=
 (zQP x0.zK).bind fun r1 =>
 some (zD.mk x0.Prime x0.Dim r1)
def zTe (x0:Int):Option Bool :=
 cond (x0 == 2) (
  some true) (
  cond (x0 == 3) (
   some true) (
   cond (x0 == 5) (
    some true) (
    some (x0 == 7))))
def zK1 (x0:List Int) (s1:Int × Int):Option ((Int × Int) ⊕ Int) :=
 cond (decide (s1.2 < (x0.length:Int))) (
  cond (decide (s1.1 ≤ 729)) (
   (ixO x0 s1.2).bind fun v1 =>
   (rng (s1.1 * v1)).bind fun v2 =>
   (rng (s1.2 + 1)).bind fun v3 =>
   some (.inl (v2,v3))) (
   (rng (s1.2 + 1)).bind fun v4 =>
   some (.inl (s1.1,v4)))) (
  some (.inr s1.1))
def zTf (x0:List Int):Option Int :=
 (zI (zK1 x0) (1,0)).bind fun r5 =>
 some r5
def zQQ (x0:Int) (x1:Int) (x2:Int):Option Bool :=
 cond (decide (x0 ≥ x1)) (
  some (decide (x0 ≤ x2))) (
  some false)
def zN0 (x0:List Int) (x1:List Int) (x2:Int) (s1:Int):Option (Int ⊕ (Unit ⊕ Bool)) :=
 cond (decide (s1 < (x1.length:Int))) (
  (ixO x1 s1).bind fun v1 =>
  (ixO x0 s1).bind fun v2 =>
  (rng (v2 - 1)).bind fun v3 =>
  (zQQ v1 0 v3).bind fun r4 =>
  cond (!r4) (
   some (.inr (.inr false))) (
   cond (decide (s1 ≤ x2)) (
    (ixO x1 s1).bind fun v5 =>
    cond (v5 != 0) (
     some (.inr (.inr false))) (
     (rng (s1 + 1)).bind fun v6 =>
     some (.inl v6))) (
    (rng (s1 + 1)).bind fun v5 =>
    some (.inl v5)))) (
  some (.inr (.inl ())))
def zQR (x0:List Int) (x1:List Int) (x2:Int):Option Bool :=
 cond ((x1.length:Int) != (x0.length:Int)) (
  some false) (
  (zI (zN0 x0 x1 x2) 0).bind fun r6 =>
  match r6 with
  | (.inl r6) =>
   some true
  | (.inr r6) =>
   some r6)
def zQS (x0:SPr) (s1:Int):Option (Int ⊕ (Unit ⊕ Bool)) :=
 cond (decide (s1 < (x0.zA.length:Int))) (
  (ixO x0.zA s1).bind fun v1 =>
  (zTe v1).bind fun r2 =>
  cond (!r2) (
   some (.inr (.inr false))) (
   (rng (s1 + 1)).bind fun v3 =>
   some (.inl v3))) (
  some (.inr (.inl ())))
def zQT (x0:SPr) (s7:Int) (s8:Int):Option (Int ⊕ (Unit ⊕ Bool)) :=
 (ixO x0.zC s7).bind fun v11 =>
 cond (decide (s8 < (v11.length:Int))) (
  (ixO x0.zC s7).bind fun v12 =>
  (ixO v12 s8).bind fun v13 =>
  (zQR x0.zA v13 s7).bind fun r14 =>
  cond (!r14) (
   some (.inr (.inr false))) (
   (rng (s8 + 1)).bind fun v15 =>
   some (.inl v15))) (
  some (.inr (.inl ())))
def zMa (x0:SPr) (s7:Int):Option (Int ⊕ (Unit ⊕ Bool)) :=
 cond (decide (s7 < (x0.zA.length:Int))) (
  (ixO x0.zW s7).bind fun v6 =>
  (zQR x0.zA v6 s7).bind fun r7 =>
  cond (!r7) (
   some (.inr (.inr false))) (
   (ixO x0.zC s7).bind fun v8 =>
   (rng ((x0.zA.length:Int) - 1)).bind fun v9 =>
   (rng (v9 - s7)).bind fun v10 =>
   cond ((v8.length:Int) != v10) (
    some (.inr (.inr false))) (
    (zI (zQT x0 s7) 0).bind fun r16 =>
    match r16 with
    | (.inl r16) =>
     (rng (s7 + 1)).bind fun v17 =>
     some (.inl v17)
    | (.inr r16) =>
     some (.inr (.inr r16))))) (
  some (.inr (.inl ())))
def f_v (x0:SPr):Option Bool :=
 cond (decide ((x0.zA.length:Int) > 6)) (
  some false) (
  cond ((x0.zW.length:Int) != (x0.zA.length:Int)) (
   some false) (
   cond ((x0.zC.length:Int) != (x0.zA.length:Int)) (
    some false) (
    (zI (zQS x0) 0).bind fun r4 =>
    match r4 with
    | (.inl r4) =>
     (zTf x0.zA).bind fun r5 =>
     cond (decide (r5 > 729)) (
      some false) (
      (zI (zMa x0) 0).bind fun r18 =>
      match r18 with
      | (.inl r18) =>
       some true
      | (.inr r18) =>
       some r18)
    | (.inr r4) =>
     some r4)))
def f_r (x0:List Int):Option (List Int) :=
 (xP [] x0).bind fun v1 =>
 some v1
def zQU (g_a:SPr → Int → (List Int) → (List Int) → Option (List Int)) (x0:SPr) (x1:Int) (x2:List Int) (s5:(List Int) × Int) (s6:(List Int) × Int):Option (((List Int) × Int) ⊕ (List Int)) :=
 (ixO x2 s5.2).bind fun v3 =>
 cond (decide (s6.2 < v3)) (
  (rng (x1 + 1)).bind fun v4 =>
  (ixO x0.zC x1).bind fun v5 =>
  (rng (s5.2 - x1)).bind fun v6 =>
  (rng (v6 - 1)).bind fun v7 =>
  (ixO v5 v7).bind fun v8 =>
  (g_a x0 v4 s6.1 v8).bind fun r9 =>
  (rng (s6.2 + 1)).bind fun v10 =>
  some (.inl (r9,v10))) (
  some (.inr s6.1))
def zQV (g_a:SPr → Int → (List Int) → (List Int) → Option (List Int)) (x0:SPr) (x1:Int) (x2:List Int) (s5:(List Int) × Int):Option (((List Int) × Int) ⊕ (List Int)) :=
 cond (decide (s5.2 < (x0.zA.length:Int))) (
  (zI (zQU g_a x0 x1 x2 s5) (s5.1,0)).bind fun r11 =>
  (rng (s5.2 + 1)).bind fun v12 =>
  some (.inl (r11,v12))) (
  some (.inr s5.1))
def b_e (g_a:SPr → Int → (List Int) → (List Int) → Option (List Int)) (x0:SPr) (x1:Int) (x2:List Int):Option (List Int) :=
 (yS (x0.zA.length:Int)).bind fun m1 =>
 (rng (x1 + 1)).bind fun v2 =>
 (zI (zQV g_a x0 x1 x2) (List.replicate m1 (0:Int),v2)).bind fun r13 =>
 some r13
def zTg (g_e:SPr → Int → (List Int) → Option (List Int)) (x0:SPr) (x1:Int) (x3:List Int) (s1:(List Int) × Int):Option (((List Int) × Int) ⊕ (List Int)) :=
 (ixO x3 x1).bind fun v6 =>
 cond (decide (s1.2 < v6)) (
  (g_e x0 x1 s1.1).bind fun r7 =>
  (rng (s1.2 + 1)).bind fun v8 =>
  some (.inl (r7,v8))) (
  some (.inr s1.1))
def b_a (g_e:SPr → Int → (List Int) → Option (List Int)) (g_a:SPr → Int → (List Int) → (List Int) → Option (List Int)) (x0:SPr) (x1:Int) (x2:List Int) (x3:List Int):Option (List Int) :=
 cond (decide (x1 ≥ (x0.zA.length:Int))) (
  (yS (x0.zA.length:Int)).bind fun m1 =>
  some (List.replicate m1 (0:Int))) (
  (f_r x2).bind fun r2 =>
  (f_r x3).bind fun r3 =>
  (ixO r2 x1).bind fun _ =>
  (ixO r3 x1).bind fun _ =>
  (zI (zTg g_e x0 x1 x3) (r2.set x1.toNat 0,0)).bind fun r9 =>
  (rng (x1 + 1)).bind fun v10 =>
  (g_a x0 v10 r9 (r3.set x1.toNat 0)).bind fun r11 =>
  (ixO x2 x1).bind fun v12 =>
  (ixO x3 x1).bind fun v13 =>
  (rng (v12 + v13)).bind fun v14 =>
  (ixO x0.zA x1).bind fun v15 =>
  cond (decide (v14 ≥ v15)) (
   (ixO x0.zA x1).bind fun v16 =>
   (rng (v14 - v16)).bind fun v17 =>
   (rng (x1 + 1)).bind fun v18 =>
   (ixO x0.zW x1).bind fun v19 =>
   (g_a x0 v18 v19 r11).bind fun r20 =>
   (f_r r20).bind fun r21 =>
   (ixO r21 x1).bind fun _ =>
   some (r21.set x1.toNat v17)) (
   (f_r r11).bind fun r23 =>
   (ixO r23 x1).bind fun _ =>
   some (r23.set x1.toNat v14)))
mutual
def zMb:Nat → SPr → Int → (List Int) → Option (List Int)
 | 0 => fun _ _ _ => none
 | n + 1 => b_e (zMc n)
def zMc:Nat → SPr → Int → (List Int) → (List Int) → Option (List Int)
 | 0 => fun _ _ _ _ => none
 | n + 1 => b_a (zMb n) (zMc n)
end
def f_e (x0:SPr) (x1:Int) (x2:List Int):Option (List Int):=zCG fun n => zMb n x0 x1 x2
def f_a (x0:SPr) (x1:Int) (x2:List Int) (x3:List Int):Option (List Int):=zCG fun n => zMc n x0 x1 x2 x3
def zN1 (x0:SPr) (x1:Int) (s1:Int × (List Int) × (List Int)):Option ((Int × (List Int) × (List Int)) ⊕ (List Int)) :=
 cond (decide (s1.1 > 0)) (
  (uA s1.1 2).bind fun v2 =>
  cond (v2 == 1) (
   (f_a x0 x1 s1.2.1 s1.2.2).bind fun r3 =>
   (f_a x0 x1 s1.2.2 s1.2.2).bind fun r4 =>
   (uZ s1.1 2).bind fun v5 =>
   some (.inl (v5,r3,r4))) (
   (f_a x0 x1 s1.2.2 s1.2.2).bind fun r6 =>
   (uZ s1.1 2).bind fun v7 =>
   some (.inl (v7,s1.2.1,r6)))) (
  some (.inr s1.2.1))
def zTh (x0:SPr) (x1:Int) (x2:List Int) (x3:Int):Option (List Int) :=
 (yS (x0.zA.length:Int)).bind fun m1 =>
 (zI (zN1 x0 x1) (x3,List.replicate m1 (0:Int),x2)).bind fun r8 =>
 some r8
def zUo (x0:List Int) (x1:List Int) (s1:Int):Option (Int ⊕ (Unit ⊕ Bool)) :=
 cond (decide (s1 < (x0.length:Int))) (
  (ixO x0 s1).bind fun v1 =>
  (ixO x1 s1).bind fun v2 =>
  cond (v1 != v2) (
   some (.inr (.inr false))) (
   (rng (s1 + 1)).bind fun v3 =>
   some (.inl v3))) (
  some (.inr (.inl ())))
def zIN (x0:List Int) (x1:List Int):Option Bool :=
 cond ((x0.length:Int) != (x1.length:Int)) (
  some false) (
  (zI (zUo x0 x1) 0).bind fun r4 =>
  match r4 with
  | (.inl r4) =>
   some true
  | (.inr r4) =>
   some r4)
def zVr (x0:Int) (x1:Int):Option (List Int) :=
 (yS x0).bind fun m1 =>
 (ixO (List.replicate m1 (0:Int)) x1).bind fun _ =>
 some ((List.replicate m1 (0:Int)).set x1.toNat 1)
def zQW (x0:SPr) (x1:Int) (s1:Int):Option (Int ⊕ (Unit ⊕ yU)) :=
 cond (decide (s1 < (x0.zA.length:Int))) (
  (rng (x1 + 1)).bind fun v2 =>
  (ixO x0.zC x1).bind fun v3 =>
  (rng (s1 - x1)).bind fun v4 =>
  (rng (v4 - 1)).bind fun v5 =>
  (ixO v3 v5).bind fun v6 =>
  (ixO x0.zA s1).bind fun v7 =>
  (zTh x0 v2 v6 v7).bind fun r8 =>
  (ixO x0.zW s1).bind fun v9 =>
  (f_e x0 x1 v9).bind fun r10 =>
  (zIN r8 r10).bind fun r11 =>
  cond (!r11) (
   some (.inr (.inr (yU.mk 1 x1 s1 0)))) (
   (rng (s1 + 1)).bind fun v12 =>
   some (.inl v12))) (
  some (.inr (.inl ())))
def zQX (x0:SPr) (x1:Int) (s7:Int) (s8:Int):Option (Int ⊕ (Unit ⊕ yU)) :=
 cond (decide (s8 < (x0.zA.length:Int))) (
  (ixO x0.zC x1).bind fun v16 =>
  (rng (s7 - x1)).bind fun v17 =>
  (rng (v17 - 1)).bind fun v18 =>
  (ixO v16 v18).bind fun v19 =>
  (ixO x0.zC x1).bind fun v20 =>
  (rng (s8 - x1)).bind fun v21 =>
  (rng (v21 - 1)).bind fun v22 =>
  (ixO v20 v22).bind fun v23 =>
  (ixO x0.zC s7).bind fun v24 =>
  (rng (s8 - s7)).bind fun v25 =>
  (rng (v25 - 1)).bind fun v26 =>
  (ixO v24 v26).bind fun v27 =>
  (f_e x0 x1 v27).bind fun r28 =>
  (rng (x1 + 1)).bind fun v29 =>
  (f_a x0 v29 v23 v19).bind fun r30 =>
  (rng (x1 + 1)).bind fun v31 =>
  (f_a x0 v31 v19 r28).bind fun r32 =>
  (zIN r30 r32).bind fun r33 =>
  cond (!r33) (
   some (.inr (.inr (yU.mk 2 x1 s7 s8)))) (
   (rng (s8 + 1)).bind fun v34 =>
   some (.inl v34))) (
  some (.inr (.inl ())))
def zQY (x0:SPr) (x1:Int) (s7:Int):Option (Int ⊕ (Unit ⊕ yU)) :=
 cond (decide (s7 < (x0.zA.length:Int))) (
  (rng (s7 + 1)).bind fun v15 =>
  (zI (zQX x0 x1 s7) v15).bind fun r35 =>
  match r35 with
  | (.inl r35) =>
   (rng (s7 + 1)).bind fun v36 =>
   some (.inl v36)
  | (.inr r35) =>
   some (.inr (.inr r35))) (
  some (.inr (.inl ())))
def zQZ (x0:SPr) (x1:Int) (s16:(List Int) × Int):Option (((List Int) × Int) ⊕ (List Int)) :=
 (ixO x0.zA x1).bind fun v43 =>
 cond (decide (s16.2 < v43)) (
  (f_e x0 x1 s16.1).bind fun r44 =>
  (rng (s16.2 + 1)).bind fun v45 =>
  some (.inl (r44,v45))) (
  some (.inr s16.1))
def zRa (x0:SPr) (x1:Int) (v38:List Int) (s15:Int):Option (Int ⊕ (Unit ⊕ yU)) :=
 cond (decide (s15 < (x0.zA.length:Int))) (
  (zVr (x0.zA.length:Int) s15).bind fun r42 =>
  (zI (zQZ x0 x1) (r42,0)).bind fun r46 =>
  (rng (x1 + 1)).bind fun v47 =>
  (f_a x0 v47 v38 r46).bind fun r48 =>
  (rng (x1 + 1)).bind fun v49 =>
  (f_a x0 v49 r42 v38).bind fun r50 =>
  (zIN r48 r50).bind fun r51 =>
  cond (!r51) (
   some (.inr (.inr (yU.mk 4 x1 s15 0)))) (
   (rng (s15 + 1)).bind fun v52 =>
   some (.inl v52))) (
  some (.inr (.inl ())))
def f_l (x0:SPr) (x1:Int):Option yU :=
 (rng (x1 + 1)).bind fun v1 =>
 (zI (zQW x0 x1) v1).bind fun r13 =>
 match r13 with
 | (.inl r13) =>
  (rng (x1 + 1)).bind fun v14 =>
  (zI (zQY x0 x1) v14).bind fun r37 =>
  match r37 with
  | (.inl r37) =>
   (ixO x0.zW x1).bind fun v38 =>
   (f_e x0 x1 v38).bind fun r39 =>
   (zIN r39 v38).bind fun r40 =>
   cond (!r40) (
    some (yU.mk 3 x1 0 0)) (
    (rng (x1 + 1)).bind fun v41 =>
    (zI (zRa x0 x1 v38) v41).bind fun r53 =>
    match r53 with
    | (.inl r53) =>
     some (yU.mk 0 0 0 0)
    | (.inr r53) =>
     some r53)
  | (.inr r37) =>
   some r37
 | (.inr r13) =>
  some r13
def zK2 (x0:SPr) (s1:Int):Option (Int ⊕ (Unit ⊕ yU)) :=
 cond (decide (s1 ≥ 0)) (
  (f_l x0 s1).bind fun r2 =>
  cond (r2.Kind != 0) (
   some (.inr (.inr r2))) (
   (rng (s1 - 1)).bind fun v3 =>
   some (.inl v3))) (
  some (.inr (.inl ())))
def zVs (x0:SPr):Option yU :=
 (rng ((x0.zA.length:Int) - 1)).bind fun v1 =>
 (zI (zK2 x0) v1).bind fun r4 =>
 match r4 with
 | (.inl r4) =>
  some (yU.mk 0 0 0 0)
 | (.inr r4) =>
  some r4
def zVt (x0:SPr):Option Bool :=
 (zVs x0).bind fun r1 =>
 some (r1.Kind == 0)
def zTi (x0:SPr):Option Bool :=
 (f_v x0).bind fun r1 =>
 cond r1 (
  (zVt x0).bind fun r2 =>
  some r2) (
  some false)
def zN2 (x0:Int) (x2:List Int) (s1:Int):Option (Int ⊕ (Unit ⊕ Bool)) :=
 cond (decide (s1 < (x2.length:Int))) (
  (ixO x2 s1).bind fun v1 =>
  (rng (x0 - 1)).bind fun v2 =>
  (zQQ v1 0 v2).bind fun r3 =>
  cond (!r3) (
   some (.inr (.inr false))) (
   (rng (s1 + 1)).bind fun v4 =>
   some (.inl v4))) (
  some (.inr (.inl ())))
def zRb (x0:Int) (x1:Int) (x2:List Int):Option Bool :=
 cond ((x2.length:Int) != x1) (
  some false) (
  (zI (zN2 x0 x2) 0).bind fun r5 =>
  match r5 with
  | (.inl r5) =>
   some true
  | (.inr r5) =>
   some r5)
def zN3 (x0:Int) (x1:Int) (x2:List (List Int)) (s1:Int):Option (Int ⊕ (Unit ⊕ Bool)) :=
 cond (decide (s1 < (x2.length:Int))) (
  (ixO x2 s1).bind fun v1 =>
  (zRb x0 x1 v1).bind fun r2 =>
  cond (!r2) (
   some (.inr (.inr false))) (
   (rng (s1 + 1)).bind fun v3 =>
   some (.inl v3))) (
  some (.inr (.inl ())))
def zTj (x0:Int) (x1:Int) (x2:List (List Int)):Option Bool :=
 cond ((x2.length:Int) != x1) (
  some false) (
  (zI (zN3 x0 x1 x2) 0).bind fun r4 =>
  match r4 with
  | (.inl r4) =>
   some true
  | (.inr r4) =>
   some r4)
def zK3 (x0:Int) (s1:(List (List Int)) × Int):Option (((List (List Int)) × Int) ⊕ (List (List Int))) :=
 cond (decide (s1.2 < x0)) (
  (yS x0).bind fun m1 =>
  (ixO (List.replicate m1 (0:Int)) s1.2).bind fun _ =>
  (xP s1.1 [(List.replicate m1 (0:Int)).set s1.2.toNat 1]).bind fun v3 =>
  (rng (s1.2 + 1)).bind fun v4 =>
  some (.inl (v3,v4))) (
  some (.inr s1.1))
def f_G (x0:Int):Option (List (List Int)) :=
 (zI (zK3 x0) ([],0)).bind fun r5 =>
 some r5
def zRc (x0:Int) (x1:List Int) (x2:List (List Int)) (s5:(List Int) × Int) (s6:(List Int) × Int):Option (((List Int) × Int) ⊕ (List Int)) :=
 cond (decide (s6.2 < (s6.1.length:Int))) (
  (ixO x2 s5.2).bind fun v2 =>
  cond (decide (s6.2 < (v2.length:Int))) (
   (ixO s6.1 s6.2).bind fun v3 =>
   (ixO x1 s5.2).bind fun v4 =>
   (ixO x2 s5.2).bind fun v5 =>
   (ixO v5 s6.2).bind fun v6 =>
   (rng (v4 * v6)).bind fun v7 =>
   (rng (v3 + v7)).bind fun v8 =>
   (uA v8 x0).bind fun v9 =>
   (ixO s6.1 s6.2).bind fun _ =>
   (rng (s6.2 + 1)).bind fun v11 =>
   some (.inl (s6.1.set s6.2.toNat v9,v11))) (
   some (.inr s6.1))) (
  some (.inr s6.1))
def zRd (x0:Int) (x1:List Int) (x2:List (List Int)) (s5:(List Int) × Int):Option (((List Int) × Int) ⊕ (List Int)) :=
 cond (decide (s5.2 < (x1.length:Int))) (
  cond (decide (s5.2 < (x2.length:Int))) (
   (zI (zRc x0 x1 x2 s5) (s5.1,0)).bind fun r12 =>
   (rng (s5.2 + 1)).bind fun v13 =>
   some (.inl (r12,v13))) (
   some (.inr s5.1))) (
  some (.inr s5.1))
def f_F (x0:Int) (x1:List Int) (x2:List (List Int)) (x3:Int):Option (List Int) :=
 (yS x3).bind fun m1 =>
 (zI (zRd x0 x1 x2) (List.replicate m1 (0:Int),0)).bind fun r14 =>
 some r14
def zRe (x0:Int) (x1:List (List Int)) (x2:List (List Int)) (x3:Int) (s1:(List (List Int)) × Int):Option (((List (List Int)) × Int) ⊕ (List (List Int))) :=
 cond (decide (s1.2 < (x1.length:Int))) (
  (ixO x1 s1.2).bind fun v1 =>
  (f_F x0 v1 x2 x3).bind fun r2 =>
  (xP s1.1 [r2]).bind fun v3 =>
  (rng (s1.2 + 1)).bind fun v4 =>
  some (.inl (v3,v4))) (
  some (.inr s1.1))
def f_X (x0:Int) (x1:List (List Int)) (x2:List (List Int)) (x3:Int):Option (List (List Int)) :=
 (zI (zRe x0 x1 x2 x3) ([],0)).bind fun r5 =>
 some r5
def zRf (x0:zD) (x1:List Int) (s5:(List (List Int)) × Int) (s6:(List (List Int)) × Int):Option (((List (List Int)) × Int) ⊕ (List (List Int))) :=
 (ixO x1 s5.2).bind fun v2 =>
 cond (decide (s6.2 < v2)) (
  (ixO x0.zK s5.2).bind fun v3 =>
  (f_X x0.Prime s6.1 v3 x0.Dim).bind fun r4 =>
  (rng (s6.2 + 1)).bind fun v5 =>
  some (.inl (r4,v5))) (
  some (.inr s6.1))
def zRg (x0:zD) (x1:List Int) (s5:(List (List Int)) × Int):Option (((List (List Int)) × Int) ⊕ (List (List Int))) :=
 cond (decide (s5.2 < (x1.length:Int))) (
  (zI (zRf x0 x1 s5) (s5.1,0)).bind fun r6 =>
  (rng (s5.2 + 1)).bind fun v7 =>
  some (.inl (r6,v7))) (
  some (.inr s5.1))
def f_J (x0:zD) (x1:List Int):Option (List (List Int)) :=
 (f_G x0.Dim).bind fun r1 =>
 (zI (zRg x0 x1) (r1,0)).bind fun r8 =>
 some r8
def zRh (x0:List (List Int)) (x1:List (List Int)) (s1:Int):Option (Int ⊕ (Unit ⊕ Bool)) :=
 cond (decide (s1 < (x0.length:Int))) (
  (ixO x0 s1).bind fun v1 =>
  (ixO x1 s1).bind fun v2 =>
  (zIN v1 v2).bind fun r3 =>
  cond (!r3) (
   some (.inr (.inr false))) (
   (rng (s1 + 1)).bind fun v4 =>
   some (.inl v4))) (
  some (.inr (.inl ())))
def zTk (x0:List (List Int)) (x1:List (List Int)):Option Bool :=
 cond ((x0.length:Int) != (x1.length:Int)) (
  some false) (
  (zI (zRh x0 x1) 0).bind fun r5 =>
  match r5 with
  | (.inl r5) =>
   some true
  | (.inr r5) =>
   some r5)
def zRi (x0:SPr) (x1:zD) (s1:Int):Option (Int ⊕ (Unit ⊕ Bool)) :=
 cond (decide (s1 < (x0.zA.length:Int))) (
  (ixO x1.zK s1).bind fun v3 =>
  (zTj x1.Prime x1.Dim v3).bind fun r4 =>
  cond (!r4) (
   some (.inr (.inr false))) (
   (rng (s1 + 1)).bind fun v5 =>
   some (.inl v5))) (
  some (.inr (.inl ())))
def zRj (x0:SPr) (x1:zD) (s11:Int) (s12:(List (List Int)) × Int):Option (((List (List Int)) × Int) ⊕ (List (List Int))) :=
 (ixO x0.zA s11).bind fun v8 =>
 cond (decide (s12.2 < v8)) (
  (ixO x1.zK s11).bind fun v9 =>
  (f_X x1.Prime s12.1 v9 x1.Dim).bind fun r10 =>
  (rng (s12.2 + 1)).bind fun v11 =>
  some (.inl (r10,v11))) (
  some (.inr s12.1))
def zRk (x0:SPr) (x1:zD) (s11:Int) (s14:Int):Option (Int ⊕ (Unit ⊕ Bool)) :=
 cond (decide (s14 < (x0.zA.length:Int))) (
  (ixO x1.zK s14).bind fun v17 =>
  (ixO x1.zK s11).bind fun v18 =>
  (f_X x1.Prime v17 v18 x1.Dim).bind fun r19 =>
  (ixO x1.zK s11).bind fun v20 =>
  (ixO x0.zC s11).bind fun v21 =>
  (rng (s14 - s11)).bind fun v22 =>
  (rng (v22 - 1)).bind fun v23 =>
  (ixO v21 v23).bind fun v24 =>
  (f_J x1 v24).bind fun r25 =>
  (f_X x1.Prime v20 r25 x1.Dim).bind fun r26 =>
  (zTk r19 r26).bind fun r27 =>
  cond (!r27) (
   some (.inr (.inr false))) (
   (rng (s14 + 1)).bind fun v28 =>
   some (.inl v28))) (
  some (.inr (.inl ())))
def zRl (x0:SPr) (x1:zD) (s11:Int):Option (Int ⊕ (Unit ⊕ Bool)) :=
 cond (decide (s11 < (x0.zA.length:Int))) (
  (f_G x1.Dim).bind fun r7 =>
  (zI (zRj x0 x1 s11) (r7,0)).bind fun r12 =>
  (ixO x0.zW s11).bind fun v13 =>
  (f_J x1 v13).bind fun r14 =>
  (zTk r12 r14).bind fun r15 =>
  cond (!r15) (
   some (.inr (.inr false))) (
   (rng (s11 + 1)).bind fun v16 =>
   (zI (zRk x0 x1 s11) v16).bind fun r29 =>
   match r29 with
   | (.inl r29) =>
    (rng (s11 + 1)).bind fun v30 =>
    some (.inl v30)
   | (.inr r29) =>
    some (.inr (.inr r29)))) (
  some (.inr (.inl ())))
def f_p (x0:SPr) (x1:zD):Option Bool :=
 (zTe x1.Prime).bind fun r1 =>
 cond (!r1) (
  some false) (
  (zQQ x1.Dim 1 3).bind fun r2 =>
  cond (!r2) (
   some false) (
   cond ((x1.zK.length:Int) != (x0.zA.length:Int)) (
    some false) (
    (zI (zRi x0 x1) 0).bind fun r6 =>
    match r6 with
    | (.inl r6) =>
     (zI (zRl x0 x1) 0).bind fun r31 =>
     match r31 with
     | (.inl r31) =>
      some true
     | (.inr r31) =>
      some r31
    | (.inr r6) =>
     some r6)))
def zTl (x0:SPr) (x1:zD):Option Bool :=
 (zTi x0).bind fun r1 =>
 cond r1 (
  (f_p x0 x1).bind fun r2 =>
  some r2) (
  some false)
def zOt (x0:Int):Option Bool :=
 cond (x0 == 2) (
  some true) (
  cond (x0 == 3) (
   some true) (
   cond (x0 == 5) (
    some true) (
    some (x0 == 7))))
def zMd (x0:Int) (x1:Int) (x2:Int):Option Bool :=
 cond (decide (x0 ≥ x1)) (
  some (decide (x0 ≤ x2))) (
  some false)
def zN4 (x0:SPr) (x1:List Int) (s1:Int):Option (Int ⊕ (Unit ⊕ Bool)) :=
 cond (decide (s1 < (x1.length:Int))) (
  (ixO x1 s1).bind fun v1 =>
  (ixO x0.zA s1).bind fun v2 =>
  (rng (v2 - 1)).bind fun v3 =>
  (zMd v1 0 v3).bind fun r4 =>
  cond (!r4) (
   some (.inr (.inr false))) (
   (rng (s1 + 1)).bind fun v5 =>
   some (.inl v5))) (
  some (.inr (.inl ())))
def zTm (x0:SPr) (x1:List Int):Option Bool :=
 cond ((x1.length:Int) != (x0.zA.length:Int)) (
  some false) (
  (zI (zN4 x0 x1) 0).bind fun r6 =>
  match r6 with
  | (.inl r6) =>
   some true
  | (.inr r6) =>
   some r6)
def zK4 (x0:List Int) (s1:Int):Option (Int ⊕ (Unit ⊕ Bool)) :=
 cond (decide (s1 < (x0.length:Int))) (
  (ixO x0 s1).bind fun v1 =>
  cond (v1 != 0) (
   some (.inr (.inr false))) (
   (rng (s1 + 1)).bind fun v2 =>
   some (.inl v2))) (
  some (.inr (.inl ())))
def f_A (x0:List Int):Option Bool :=
 (zI (zK4 x0) 0).bind fun r3 =>
 match r3 with
 | (.inl r3) =>
  some true
 | (.inr r3) =>
  some r3
def zRm (x0:SPr) (x1:Int) (x2:List Int):Option Bool :=
 (zTm x0 x2).bind fun r1 =>
 cond r1 (
  (rng (x1 + 1)).bind fun v2 =>
  (zT x2 0 v2).bind fun v3 =>
  (f_A v3).bind fun r4 =>
  some r4) (
  some false)
def zMe (x0:SPr) (s1:Int × Int):Option ((Int × Int) ⊕ (Unit ⊕ Bool)) :=
 cond (decide (s1.2 < (x0.zA.length:Int))) (
  (ixO x0.zA s1.2).bind fun v1 =>
  (zOt v1).bind fun r2 =>
  cond (!r2) (
   some (.inr (.inr false))) (
   (rng (s1.1 * v1)).bind fun v3 =>
   cond (decide (v3 > 729)) (
    some (.inr (.inr false))) (
    (rng (s1.1 * v1)).bind fun v4 =>
    (rng (s1.2 + 1)).bind fun v5 =>
    some (.inl (v4,v5))))) (
  some (.inr (.inl ())))
def zRn (x0:SPr) (s7:Int) (v12:List (List Int)) (s8:Int):Option (Int ⊕ (Unit ⊕ Bool)) :=
 cond (decide (s8 < (v12.length:Int))) (
  (ixO v12 s8).bind fun v13 =>
  (zRm x0 s7 v13).bind fun r14 =>
  cond (!r14) (
   some (.inr (.inr false))) (
   (rng (s8 + 1)).bind fun v15 =>
   some (.inl v15))) (
  some (.inr (.inl ())))
def zMf (x0:SPr) (s7:Int):Option (Int ⊕ (Unit ⊕ Bool)) :=
 cond (decide (s7 < (x0.zA.length:Int))) (
  (ixO x0.zW s7).bind fun v7 =>
  (zRm x0 s7 v7).bind fun r8 =>
  cond (!r8) (
   some (.inr (.inr false))) (
   (ixO x0.zC s7).bind fun v9 =>
   (rng ((x0.zA.length:Int) - 1)).bind fun v10 =>
   (rng (v10 - s7)).bind fun v11 =>
   cond ((v9.length:Int) != v11) (
    some (.inr (.inr false))) (
    (ixO x0.zC s7).bind fun v12 =>
    (zI (zRn x0 s7 v12) 0).bind fun r16 =>
    match r16 with
    | (.inl r16) =>
     (rng (s7 + 1)).bind fun v17 =>
     some (.inl v17)
    | (.inr r16) =>
     some (.inr (.inr r16))))) (
  some (.inr (.inl ())))
def f_q (x0:SPr):Option Bool :=
 cond (decide ((x0.zA.length:Int) > 6)) (
  some false) (
  cond ((x0.zW.length:Int) != (x0.zA.length:Int)) (
   some false) (
   cond ((x0.zC.length:Int) != (x0.zA.length:Int)) (
    some false) (
    (zI (zMe x0) (1,0)).bind fun r6 =>
    match r6 with
    | (.inl r6) =>
     (zI (zMf x0) 0).bind fun r18 =>
     match r18 with
     | (.inl r18) =>
      some true
     | (.inr r18) =>
      some r18
    | (.inr r6) =>
     some r6)))
def f_w (x0:List Int):Option (List Int) :=
 (xP [] x0).bind fun v2 =>
 some v2
def zRo (x2:Int) (r3:(List Int)) (s1:(List Int) × Int):Option (((List Int) × Int) ⊕ (List Int)) :=
 cond (decide (s1.2 < (r3.length:Int))) (
  (rng (x2 + 1)).bind fun v4 =>
  (rng (v4 + s1.2)).bind fun v5 =>
  (ixO s1.1 v5).bind fun _ =>
  (rng (s1.2 + 1)).bind fun v7 =>
  some (.inl (s1.1.set v5.toNat 0,v7))) (
  some (.inr s1.1))
def zVu (g_c:SPr → (List Int) → (List Int) → Option (List Int)) (x0:SPr) (x2:Int) (s7:(List Int) × Int) (v17:Int) (s8:(List Int) × Int):Option (((List Int) × Int) ⊕ (List Int)) :=
 cond (decide (s8.2 < v17)) (
  (ixO x0.zC x2).bind fun v18 =>
  (ixO v18 s7.2).bind fun v19 =>
  (g_c x0 s8.1 v19).bind fun r20 =>
  (rng (s8.2 + 1)).bind fun v21 =>
  some (.inl (r20,v21))) (
  some (.inr s8.1))
def zVv (g_c:SPr → (List Int) → (List Int) → Option (List Int)) (x0:SPr) (x2:Int) (r3:(List Int)) (s7:(List Int) × Int):Option (((List Int) × Int) ⊕ (List Int)) :=
 cond (decide (s7.2 < (r3.length:Int))) (
  (ixO r3 s7.2).bind fun v17 =>
  (zI (zVu g_c x0 x2 s7 v17) (s7.1,0)).bind fun r22 =>
  (rng (s7.2 + 1)).bind fun v23 =>
  some (.inl (r22,v23))) (
  some (.inr s7.1))
def zVw (g_c:SPr → (List Int) → (List Int) → Option (List Int)) (x0:SPr) (x2:Int) (s15:(List Int) × Int) (v25:Int) (s16:(List Int) × Int):Option (((List Int) × Int) ⊕ (List Int)) :=
 cond (decide (s16.2 < v25)) (
  (ixO x0.zC x2).bind fun v26 =>
  (ixO v26 s15.2).bind fun v27 =>
  (g_c x0 s16.1 v27).bind fun r28 =>
  (rng (s16.2 + 1)).bind fun v29 =>
  some (.inl (r28,v29))) (
  some (.inr s16.1))
def zVx (g_c:SPr → (List Int) → (List Int) → Option (List Int)) (x0:SPr) (x2:Int) (r3:(List Int)) (s15:(List Int) × Int):Option (((List Int) × Int) ⊕ (List Int)) :=
 cond (decide (s15.2 < (r3.length:Int))) (
  (ixO r3 s15.2).bind fun v25 =>
  (zI (zVw g_c x0 x2 s15 v25) (s15.1,0)).bind fun r30 =>
  (rng (s15.2 + 1)).bind fun v31 =>
  some (.inl (r30,v31))) (
  some (.inr s15.1))
def b_b (g_c:SPr → (List Int) → (List Int) → Option (List Int)) (x0:SPr) (x1:List Int) (x2:Int):Option (List Int) :=
 (rng (x2 + 1)).bind fun v1 =>
 (zT x1 v1 x1.length).bind fun v2 =>
 (f_w v2).bind fun r3 =>
 (zI (zRo x2 r3) (x1,0)).bind fun r8 =>
 (ixO r8 x2).bind fun v9 =>
 (rng (v9 + 1)).bind fun v10 =>
 (ixO r8 x2).bind fun _ =>
 (ixO (r8.set x2.toNat v10) x2).bind fun v12 =>
 (ixO x0.zA x2).bind fun v13 =>
 cond (v12 == v13) (
  (ixO (r8.set x2.toNat v10) x2).bind fun _ =>
  (ixO x0.zW x2).bind fun v15 =>
  (g_c x0 ((r8.set x2.toNat v10).set x2.toNat 0) v15).bind fun r16 =>
  (zI (zVv g_c x0 x2 r3) (r16,0)).bind fun r24 =>
  some r24) (
  (zI (zVx g_c x0 x2 r3) (r8.set x2.toNat v10,0)).bind fun r32 =>
  some r32)
def zRp (g_b:SPr → (List Int) → Int → Option (List Int)) (x0:SPr) (s5:(List Int) × Int) (v1:Int) (s6:(List Int) × Int):Option (((List Int) × Int) ⊕ (List Int)) :=
 cond (decide (s6.2 < v1)) (
  (g_b x0 s6.1 s5.2).bind fun r2 =>
  (rng (s6.2 + 1)).bind fun v3 =>
  some (.inl (r2,v3))) (
  some (.inr s6.1))
def zRq (g_b:SPr → (List Int) → Int → Option (List Int)) (x0:SPr) (x2:List Int) (s5:(List Int) × Int):Option (((List Int) × Int) ⊕ (List Int)) :=
 cond (decide (s5.2 < (x2.length:Int))) (
  (ixO x2 s5.2).bind fun v1 =>
  (zI (zRp g_b x0 s5 v1) (s5.1,0)).bind fun r4 =>
  (rng (s5.2 + 1)).bind fun v5 =>
  some (.inl (r4,v5))) (
  some (.inr s5.1))
def b_c (g_b:SPr → (List Int) → Int → Option (List Int)) (x0:SPr) (x1:List Int) (x2:List Int):Option (List Int) :=
 (zI (zRq g_b x0 x2) (x1,0)).bind fun r6 =>
 some r6
mutual
def zRr:Nat → SPr → (List Int) → Int → Option (List Int)
 | 0 => fun _ _ _ => none
 | n + 1 => b_b (zOu n)
def zOu:Nat → SPr → (List Int) → (List Int) → Option (List Int)
 | 0 => fun _ _ _ => none
 | n + 1 => b_c (zRr n)
end
def f_b (x0:SPr) (x1:List Int) (x2:Int):Option (List Int):=zCG fun n => zRr n x0 x1 x2
def f_c (x0:SPr) (x1:List Int) (x2:List Int):Option (List Int):=zCG fun n => zOu n x0 x1 x2
def zK5 (x0:SPr) (x1:List Int) (x2:Int) (s1:(List Int) × Int):Option (((List Int) × Int) ⊕ (List Int)) :=
 cond (decide (s1.2 < x2)) (
  (f_c x0 s1.1 x1).bind fun r2 =>
  (rng (s1.2 + 1)).bind fun v3 =>
  some (.inl (r2,v3))) (
  some (.inr s1.1))
def zTn (x0:SPr) (x1:List Int) (x2:Int):Option (List Int) :=
 (yS (x1.length:Int)).bind fun m1 =>
 (zI (zK5 x0 x1 x2) (List.replicate m1 (0:Int),0)).bind fun r4 =>
 some r4
def zRs (x0:SPr) (v3:List Int) (v6:Int) (s6:(List Int) × Int):Option (((List Int) × Int) ⊕ (List Int)) :=
 cond (decide (s6.2 < v6)) (
  (f_c x0 s6.1 v3).bind fun r7 =>
  (rng (s6.2 + 1)).bind fun v8 =>
  some (.inl (r7,v8))) (
  some (.inr s6.1))
def zRt (x0:SPr) (x1:Int) (x2:List Int) (v2:List (List Int)) (s5:(List Int) × Int):Option (((List Int) × Int) ⊕ (List Int)) :=
 cond (decide (s5.2 < (v2.length:Int))) (
  (ixO v2 s5.2).bind fun v3 =>
  (rng (x1 + 1)).bind fun v4 =>
  (rng (v4 + s5.2)).bind fun v5 =>
  (ixO x2 v5).bind fun v6 =>
  (zI (zRs x0 v3 v6) (s5.1,0)).bind fun r9 =>
  (rng (s5.2 + 1)).bind fun v10 =>
  some (.inl (r9,v10))) (
  some (.inr s5.1))
def f_B (x0:SPr) (x1:Int) (x2:List Int):Option (List Int) :=
 (yS (x2.length:Int)).bind fun m1 =>
 (ixO x0.zC x1).bind fun v2 =>
 (zI (zRt x0 x1 x2 v2) (List.replicate m1 (0:Int),0)).bind fun r11 =>
 some r11
def zVy (x0:List Int) (x1:List Int) (s1:Int):Option (Int ⊕ (Unit ⊕ Bool)) :=
 cond (decide (s1 < (x0.length:Int))) (
  (ixO x0 s1).bind fun v1 =>
  (ixO x1 s1).bind fun v2 =>
  cond (v1 != v2) (
   some (.inr (.inr false))) (
   (rng (s1 + 1)).bind fun v3 =>
   some (.inl v3))) (
  some (.inr (.inl ())))
def f_W (x0:List Int) (x1:List Int):Option Bool :=
 cond ((x0.length:Int) != (x1.length:Int)) (
  some false) (
  (zI (zVy x0 x1) 0).bind fun r4 =>
  match r4 with
  | (.inl r4) =>
   some true
  | (.inr r4) =>
   some r4)
def zOv (x0:SPr) (s5:(List Int) × (List Int) × Int) (s6:(List Int) × (List Int)):Option (((List Int) × (List Int)) ⊕ ((List Int) × (List Int))) :=
 (ixO s6.1 s5.2.2).bind fun v3 =>
 cond (v3 != 0) (
  (f_b x0 s6.1 s5.2.2).bind fun r4 =>
  (f_b x0 s6.2 s5.2.2).bind fun r5 =>
  some (.inl (r4,r5))) (
  some (.inr (s6.1,s6.2)))
def zRu (x0:SPr) (r1:(List Int)) (s5:(List Int) × (List Int) × Int):Option (((List Int) × (List Int) × Int) ⊕ (List Int)) :=
 cond (decide (s5.2.2 < (r1.length:Int))) (
  (zI (zOv x0 s5) (s5.1,s5.2.1)).bind fun r6 =>
  (rng (s5.2.2 + 1)).bind fun v7 =>
  some (.inl (r6.1,r6.2,v7))) (
  some (.inr s5.2.1))
def f_I (x0:SPr) (x1:List Int):Option (List Int) :=
 (f_w x1).bind fun r1 =>
 (yS (x1.length:Int)).bind fun m2 =>
 (zI (zRu x0 r1) (r1,List.replicate m2 (0:Int),0)).bind fun r8 =>
 some r8
def zRv (x0:SPr) (x1:List Int) (x2:List Int):Option (List Int) :=
 (f_w x1).bind fun r1 =>
 (f_c x0 r1 x2).bind fun r2 =>
 some r2
def zRw (x0:SPr) (x1:List Int) (x2:List Int):Option (List Int) :=
 (f_I x0 x2).bind fun r1 =>
 (zRv x0 x1 x2).bind fun r2 =>
 (zRv x0 r1 r2).bind fun r3 =>
 some r3
def zIO (x0:Int) (x1:Int):Option (List Int) :=
 (yS x0).bind fun m1 =>
 (ixO (List.replicate m1 (0:Int)) x1).bind fun _ =>
 some ((List.replicate m1 (0:Int)).set x1.toNat 1)
def zRx (x0:SPr) (x1:Int) (s1:Int):Option (Int ⊕ (Unit ⊕ yU)) :=
 cond (decide (s1 < (x0.zA.length:Int))) (
  (ixO x0.zC x1).bind fun v2 =>
  (rng (s1 - x1)).bind fun v3 =>
  (rng (v3 - 1)).bind fun v4 =>
  (ixO v2 v4).bind fun v5 =>
  (ixO x0.zA s1).bind fun v6 =>
  (zTn x0 v5 v6).bind fun r7 =>
  (ixO x0.zW s1).bind fun v8 =>
  (f_B x0 x1 v8).bind fun r9 =>
  (f_W r7 r9).bind fun r10 =>
  cond (!r10) (
   some (.inr (.inr (yU.mk 1 x1 s1 0)))) (
   (rng (s1 + 1)).bind fun v11 =>
   some (.inl v11))) (
  some (.inr (.inl ())))
def zRy (x0:SPr) (x1:Int) (s7:Int) (s8:Int):Option (Int ⊕ (Unit ⊕ yU)) :=
 cond (decide (s8 < (x0.zA.length:Int))) (
  (ixO x0.zC x1).bind fun v15 =>
  (rng (s8 - x1)).bind fun v16 =>
  (rng (v16 - 1)).bind fun v17 =>
  (ixO v15 v17).bind fun v18 =>
  (ixO x0.zC x1).bind fun v19 =>
  (rng (s7 - x1)).bind fun v20 =>
  (rng (v20 - 1)).bind fun v21 =>
  (ixO v19 v21).bind fun v22 =>
  (zRw x0 v18 v22).bind fun r23 =>
  (ixO x0.zC s7).bind fun v24 =>
  (rng (s8 - s7)).bind fun v25 =>
  (rng (v25 - 1)).bind fun v26 =>
  (ixO v24 v26).bind fun v27 =>
  (f_B x0 x1 v27).bind fun r28 =>
  (f_W r23 r28).bind fun r29 =>
  cond (!r29) (
   some (.inr (.inr (yU.mk 2 x1 s7 s8)))) (
   (rng (s8 + 1)).bind fun v30 =>
   some (.inl v30))) (
  some (.inr (.inl ())))
def zRz (x0:SPr) (x1:Int) (s7:Int):Option (Int ⊕ (Unit ⊕ yU)) :=
 cond (decide (s7 < (x0.zA.length:Int))) (
  (rng (s7 + 1)).bind fun v14 =>
  (zI (zRy x0 x1 s7) v14).bind fun r31 =>
  match r31 with
  | (.inl r31) =>
   (rng (s7 + 1)).bind fun v32 =>
   some (.inl v32)
  | (.inr r31) =>
   some (.inr (.inr r31))) (
  some (.inr (.inl ())))
def zR0 (x0:SPr) (x1:Int) (v39:Int) (s16:(List Int) × Int):Option (((List Int) × Int) ⊕ (List Int)) :=
 cond (decide (s16.2 < v39)) (
  (f_B x0 x1 s16.1).bind fun r40 =>
  (rng (s16.2 + 1)).bind fun v41 =>
  some (.inl (r40,v41))) (
  some (.inr s16.1))
def zR1 (x0:SPr) (x1:Int) (v34:List Int) (s15:Int):Option (Int ⊕ (Unit ⊕ yU)) :=
 cond (decide (s15 < (x0.zA.length:Int))) (
  (zIO (x0.zA.length:Int) s15).bind fun r38 =>
  (ixO x0.zA x1).bind fun v39 =>
  (zI (zR0 x0 x1 v39) (r38,0)).bind fun r42 =>
  (zIO (x0.zA.length:Int) s15).bind fun r43 =>
  (zRw x0 r43 v34).bind fun r44 =>
  (f_W r42 r44).bind fun r45 =>
  cond (!r45) (
   some (.inr (.inr (yU.mk 4 x1 s15 0)))) (
   (rng (s15 + 1)).bind fun v46 =>
   some (.inl v46))) (
  some (.inr (.inl ())))
def f_k (x0:SPr) (x1:Int):Option yU :=
 (rng (x1 + 1)).bind fun v1 =>
 (zI (zRx x0 x1) v1).bind fun r12 =>
 match r12 with
 | (.inl r12) =>
  (rng (x1 + 1)).bind fun v13 =>
  (zI (zRz x0 x1) v13).bind fun r33 =>
  match r33 with
  | (.inl r33) =>
   (ixO x0.zW x1).bind fun v34 =>
   (f_B x0 x1 v34).bind fun r35 =>
   (f_W r35 v34).bind fun r36 =>
   cond (!r36) (
    some (yU.mk 3 x1 0 0)) (
    (rng (x1 + 1)).bind fun v37 =>
    (zI (zR1 x0 x1 v34) v37).bind fun r47 =>
    match r47 with
    | (.inl r47) =>
     some (yU.mk 0 0 0 0)
    | (.inr r47) =>
     some r47)
  | (.inr r33) =>
   some r33
 | (.inr r12) =>
  some r12
def zK6 (x0:SPr) (s1:Int):Option (Int ⊕ Int) :=
 cond (decide (s1 > 0)) (
  (rng (s1 - 1)).bind fun v1 =>
  (f_k x0 v1).bind fun r2 =>
  cond (r2.Kind == 0 && (r2.zUq == 0 && (r2.zUr == 0 && r2.zSq == 0))) (
   (rng (s1 - 1)).bind fun v3 =>
   some (.inl v3)) (
   some (.inr s1))) (
  some (.inr s1))
def f_O (x0:SPr):Option Int :=
 (zI (zK6 x0) (x0.zA.length:Int)).bind fun r4 =>
 some r4
def zTo (x0:SPr):Option Bool :=
 (f_q x0).bind fun r1 =>
 cond r1 (
  (f_O x0).bind fun r2 =>
  some (r2 == 0)) (
  some false)
def zMg (x0:zD) (x1:Int):Option zV :=
 (ixO x0.zK x1).bind fun v1 =>
 some (zV.mk x0.Prime x0.Dim v1)
def zN5 (x0:List Int) (x1:Int) (s1:Int):Option (Int ⊕ (Unit ⊕ Bool)) :=
 cond (decide (s1 < (x0.length:Int))) (
  (ixO x0 s1).bind fun v1 =>
  (rng (x1 - 1)).bind fun v2 =>
  (zMd v1 0 v2).bind fun r3 =>
  cond (!r3) (
   some (.inr (.inr false))) (
   (rng (s1 + 1)).bind fun v4 =>
   some (.inl v4))) (
  some (.inr (.inl ())))
def zR2 (x0:List Int) (x1:Int) (x2:Int):Option Bool :=
 cond ((x0.length:Int) != x2) (
  some false) (
  (zI (zN5 x0 x1) 0).bind fun r5 =>
  match r5 with
  | (.inl r5) =>
   some true
  | (.inr r5) =>
   some r5)
def zK7 (x0:zV) (s1:Int):Option (Int ⊕ (Unit ⊕ Bool)) :=
 cond (decide (s1 < (x0.Rows.length:Int))) (
  (ixO x0.Rows s1).bind fun v3 =>
  (zR2 v3 x0.Prime x0.xJ).bind fun r4 =>
  cond (!r4) (
   some (.inr (.inr false))) (
   (rng (s1 + 1)).bind fun v5 =>
   some (.inl v5))) (
  some (.inr (.inl ())))
def zTp (x0:zV):Option Bool :=
 (zOt x0.Prime).bind fun r1 =>
 cond (!r1) (
  some false) (
  (zMd x0.xJ 0 8).bind fun r2 =>
  cond (!r2) (
   some false) (
   cond (decide ((x0.Rows.length:Int) > 8)) (
    some false) (
    (zI (zK7 x0) 0).bind fun r6 =>
    match r6 with
    | (.inl r6) =>
     some true
    | (.inr r6) =>
     some r6)))
def zXk (x0:Int) (x1:Int):Option (Int × Int) :=
 some ((IntKind.wrap .u64 ((IntKind.wrap .u64 ((IntKind.wrap .u64 ((Int.fdiv x0 (2 ^ (min (32:Int).toNat (IntKind.bits .u64)))) * (Int.fdiv x1 (2 ^ (min (32:Int).toNat (IntKind.bits .u64)))))) + (Int.fdiv (IntKind.wrap .u64 ((IntKind.wrap .u64 ((Int.fdiv x0 (2 ^ (min (32:Int).toNat (IntKind.bits .u64)))) * (zEY .u64 x1 4294967295))) + (Int.fdiv (IntKind.wrap .u64 ((zEY .u64 x0 4294967295) * (zEY .u64 x1 4294967295))) (2 ^ (min (32:Int).toNat (IntKind.bits .u64)))))) (2 ^ (min (32:Int).toNat (IntKind.bits .u64)))))) + (Int.fdiv (IntKind.wrap .u64 ((zEY .u64 (IntKind.wrap .u64 ((IntKind.wrap .u64 ((Int.fdiv x0 (2 ^ (min (32:Int).toNat (IntKind.bits .u64)))) * (zEY .u64 x1 4294967295))) + (Int.fdiv (IntKind.wrap .u64 ((zEY .u64 x0 4294967295) * (zEY .u64 x1 4294967295))) (2 ^ (min (32:Int).toNat (IntKind.bits .u64)))))) 4294967295) + (IntKind.wrap .u64 ((zEY .u64 x0 4294967295) * (Int.fdiv x1 (2 ^ (min (32:Int).toNat (IntKind.bits .u64)))))))) (2 ^ (min (32:Int).toNat (IntKind.bits .u64)))))),(IntKind.wrap .u64 (x0 * x1)))
def zTq (x0:Int) (x1:Int):Option (Int × Int) :=
 (zXk x0 x1).bind fun r1 =>
 some (r1.1,r1.2)
def jS  (s1:(List Int) × Int):Option (((List Int) × Int) ⊕ (List Int)) :=
 cond (decide (s1.2 < (s1.1.length:Int))) (
  (zT s1.1 s1.2 s1.1.length).bind fun _ =>
  (zT s1.1 0 s1.2).bind fun v4 =>
  (rng (s1.2 + ((min v4.length (((s1.1.length:Int).toNat) - ((s1.2:Int).toNat)):Nat):Int))).bind fun v5 =>
  some (.inl (wA s1.1 ((s1.2:Int).toNat) (v4.take (((s1.1.length:Int).toNat) - ((s1.2:Int).toNat))),v5))) (
  some (.inr s1.1))
def f_i (x0:List Int) (x1:Int):Option (List Int) :=
 cond (decide (x1 < 0)) (
  none) (
  (zTq (IntKind.wrap .u64 (x0.length:Int)) (IntKind.wrap .u64 x1)).bind fun r1 =>
  cond (decide (r1.1 > 0)) (
   none) (
   cond (decide (r1.2 > 9223372036854775807)) (
    none) (
    (yS (IntKind.wrap .i64 r1.2)).bind fun m2 =>
    (zI jS (wA (List.replicate m2 (0:Int)) 0 (x0.take (((List.replicate m2 (0:Int)).length) - 0)),((min x0.length (((List.replicate m2 (0:Int)).length) - 0):Nat):Int))).bind fun r6 =>
    some r6)))
def zR3 (s5:(List Int) × Int) (v1:Int) (s6:(List Int) × Int):Option (((List Int) × Int) ⊕ (List Int)) :=
 cond (decide (s6.2 < v1)) (
  (rng (s5.2 + 1)).bind fun v2 =>
  (xP s6.1 [v2]).bind fun v3 =>
  (rng (s6.2 + 1)).bind fun v4 =>
  some (.inl (v3,v4))) (
  some (.inr s6.1))
def zR4 (x0:List Int) (s5:(List Int) × Int):Option (((List Int) × Int) ⊕ (List Int)) :=
 cond (decide (s5.2 < (x0.length:Int))) (
  (ixO x0 s5.2).bind fun v1 =>
  (zI (zR3 s5 v1) (s5.1,0)).bind fun r5 =>
  (rng (s5.2 + 1)).bind fun v6 =>
  some (.inl (r5,v6))) (
  some (.inr s5.1))
def f_K (x0:List Int):Option (List Int) :=
 (zI (zR4 x0) ([],0)).bind fun r7 =>
 some r7
def zR5 (x0:SPr) (s1:(List ((List Int) × (List Int))) × Int):Option (((List ((List Int) × (List Int))) × Int) ⊕ (List ((List Int) × (List Int)))) :=
 cond (decide (s1.2 < (x0.zA.length:Int))) (
  (ixO x0.zA s1.2).bind fun v1 =>
  (rng (s1.2 + 1)).bind fun v2 =>
  (f_i [v2] v1).bind fun r3 =>
  (ixO x0.zW s1.2).bind fun v4 =>
  (f_K v4).bind fun r5 =>
  (xP s1.1 [(r3,r5)]).bind fun v6 =>
  (rng (s1.2 + 1)).bind fun v7 =>
  some (.inl (v6,v7))) (
  some (.inr s1.1))
def zR6 (s7:(List ((List Int) × (List Int))) × Int) (v9:List (List Int)) (s8:(List ((List Int) × (List Int))) × Int):Option (((List ((List Int) × (List Int))) × Int) ⊕ (List ((List Int) × (List Int)))) :=
 cond (decide (s8.2 < (v9.length:Int))) (
  (ixO v9 s8.2).bind fun v10 =>
  (rng (s7.2 + 1)).bind fun v11 =>
  (rng (s7.2 + s8.2)).bind fun v12 =>
  (rng (v12 + 2)).bind fun v13 =>
  (f_K v10).bind fun r14 =>
  (xP [v11] r14).bind fun v15 =>
  (xP s8.1 [([v13,v11],v15)]).bind fun v16 =>
  (rng (s8.2 + 1)).bind fun v17 =>
  some (.inl (v16,v17))) (
  some (.inr s8.1))
def zR7 (x0:SPr) (s7:(List ((List Int) × (List Int))) × Int):Option (((List ((List Int) × (List Int))) × Int) ⊕ (List ((List Int) × (List Int)))) :=
 cond (decide (s7.2 < (x0.zA.length:Int))) (
  (ixO x0.zC s7.2).bind fun v9 =>
  (zI (zR6 s7 v9) (s7.1,0)).bind fun r18 =>
  (rng (s7.2 + 1)).bind fun v19 =>
  some (.inl (r18,v19))) (
  some (.inr s7.1))
def f_t (x0:SPr):Option (List ((List Int) × (List Int))) :=
 (zI (zR5 x0) ([],0)).bind fun r8 =>
 (zI (zR7 x0) (r8,0)).bind fun r20 =>
 some r20
def zR8 (x1:Int) (s1:(List (List Int)) × Int):Option (((List (List Int)) × Int) ⊕ (List (List Int))) :=
 cond (decide (s1.2 < x1)) (
  (yS x1).bind fun m1 =>
  (ixO (List.replicate m1 (0:Int)) s1.2).bind fun _ =>
  (xP s1.1 [(List.replicate m1 (0:Int)).set s1.2.toNat 1]).bind fun v3 =>
  (rng (s1.2 + 1)).bind fun v4 =>
  some (.inl (v3,v4))) (
  some (.inr s1.1))
def f_Z (x0:Int) (x1:Int):Option zV :=
 (zI (zR8 x1) ([],0)).bind fun r5 =>
 some (zV.mk x0 x1 r5)
def zHf (x0:Int) (x1:Int):Option Int :=
 (uA x0 x1).bind fun v1 =>
 (rng (v1 + x1)).bind fun v2 =>
 (uA v2 x1).bind fun v3 =>
 some v3
def zK8 (x0:List Int) (x1:List Int) (x2:Int) (x3:Int) (s1:(List Int) × Int):Option (((List Int) × Int) ⊕ (List Int)) :=
 cond (decide (s1.2 < (x0.length:Int))) (
  (ixO s1.1 s1.2).bind fun v1 =>
  (ixO x1 s1.2).bind fun v2 =>
  (rng (x2 * v2)).bind fun v3 =>
  (rng (v1 + v3)).bind fun v4 =>
  (zHf v4 x3).bind fun r5 =>
  (ixO s1.1 s1.2).bind fun _ =>
  (rng (s1.2 + 1)).bind fun v7 =>
  some (.inl (s1.1.set s1.2.toNat r5,v7))) (
  some (.inr s1.1))
def f_s (x0:List Int) (x1:List Int) (x2:Int) (x3:Int):Option (List Int) :=
 (zI (zK8 x0 x1 x2 x3) (x0,0)).bind fun r8 =>
 some r8
def zK9 (x0:List Int) (x1:zV) (s1:(List Int) × Int):Option (((List Int) × Int) ⊕ (List Int)) :=
 cond (decide (s1.2 < (x0.length:Int))) (
  (ixO x0 s1.2).bind fun v2 =>
  (ixO x1.Rows s1.2).bind fun v3 =>
  (f_s s1.1 v3 v2 x1.Prime).bind fun r4 =>
  (rng (s1.2 + 1)).bind fun v5 =>
  some (.inl (r4,v5))) (
  some (.inr s1.1))
def zR9 (x0:List Int) (x1:zV):Option (List Int) :=
 (yS x1.xJ).bind fun m1 =>
 (zI (zK9 x0 x1) (List.replicate m1 (0:Int),0)).bind fun r6 =>
 some r6
def zRA (x0:zV) (x1:zV) (s1:(List (List Int)) × Int):Option (((List (List Int)) × Int) ⊕ (List (List Int))) :=
 cond (decide (s1.2 < (x0.Rows.length:Int))) (
  (ixO x0.Rows s1.2).bind fun v1 =>
  (zR9 v1 x1).bind fun r2 =>
  (xP s1.1 [r2]).bind fun v3 =>
  (rng (s1.2 + 1)).bind fun v4 =>
  some (.inl (v3,v4))) (
  some (.inr s1.1))
def f_Y (x0:zV) (x1:zV):Option zV :=
 (zI (zRA x0 x1) ([],0)).bind fun r5 =>
 some (zV.mk x0.Prime x1.xJ r5)
def zKA (x0:zD) (x1:List Int) (s1:Int × Int × (List (List Int)) × Int):Option ((Int × Int × (List (List Int)) × Int) ⊕ (Int × Int × (List (List Int)))) :=
 cond (decide (s1.2.2.2 < (x1.length:Int))) (
  (ixO x1 s1.2.2.2).bind fun v2 =>
  (rng (v2 - 1)).bind fun v3 =>
  (zMg x0 v3).bind fun r4 =>
  (f_Y (zV.mk s1.1 s1.2.1 s1.2.2.1) r4).bind fun r5 =>
  (rng (s1.2.2.2 + 1)).bind fun v6 =>
  some (.inl (r5.Prime,r5.xJ,r5.Rows,v6))) (
  some (.inr (s1.1,s1.2.1,s1.2.2.1)))
def zRB (x0:zD) (x1:List Int):Option zV :=
 (f_Z x0.Prime x0.Dim).bind fun r1 =>
 (zI (zKA x0 x1) (r1.Prime,r1.xJ,r1.Rows,0)).bind fun r7 =>
 some (zV.mk r7.1 r7.2.1 r7.2.2)
def zRC (x0:List (List Int)) (x1:List (List Int)) (s1:Int):Option (Int ⊕ (Unit ⊕ Bool)) :=
 cond (decide (s1 < (x0.length:Int))) (
  (ixO x0 s1).bind fun v1 =>
  (ixO x1 s1).bind fun v2 =>
  (f_W v1 v2).bind fun r3 =>
  cond (!r3) (
   some (.inr (.inr false))) (
   (rng (s1 + 1)).bind fun v4 =>
   some (.inl v4))) (
  some (.inr (.inl ())))
def zVz (x0:List (List Int)) (x1:List (List Int)):Option Bool :=
 cond ((x0.length:Int) != (x1.length:Int)) (
  some false) (
  (zI (zRC x0 x1) 0).bind fun r5 =>
  match r5 with
  | (.inl r5) =>
   some true
  | (.inr r5) =>
   some r5)
def zTr (x0:List (List Int)) (x1:List (List Int)):Option Bool :=
 (zVz x0 x1).bind fun r1 =>
 some r1
def zRD (x1:zD) (s1:Int):Option (Int ⊕ (Unit ⊕ Bool)) :=
 cond (decide (s1 < (x1.zK.length:Int))) (
  (ixO x1.zK s1).bind fun v4 =>
  cond ((v4.length:Int) != x1.Dim) (
   some (.inr (.inr false))) (
   (zMg x1 s1).bind fun r5 =>
   (zTp r5).bind fun r6 =>
   cond (!r6) (
    some (.inr (.inr false))) (
    (rng (s1 + 1)).bind fun v7 =>
    some (.inl v7)))) (
  some (.inr (.inl ())))
def zRE (x1:zD) (r9:(List ((List Int) × (List Int)))) (s3:Int):Option (Int ⊕ (Unit ⊕ Bool)) :=
 cond (decide (s3 < (r9.length:Int))) (
  (ixO r9 s3).bind fun v10 =>
  (zRB x1 v10.1).bind fun r11 =>
  (zRB x1 v10.2).bind fun r12 =>
  (zTr r11.Rows r12.Rows).bind fun r13 =>
  cond (!r13) (
   some (.inr (.inr false))) (
   (rng (s3 + 1)).bind fun v14 =>
   some (.inl v14))) (
  some (.inr (.inl ())))
def f_C (x0:SPr) (x1:zD):Option Bool :=
 (zTo x0).bind fun r1 =>
 cond (!r1) (
  some false) (
  (zOt x1.Prime).bind fun r2 =>
  cond (!r2) (
   some false) (
   (zMd x1.Dim 1 3).bind fun r3 =>
   cond (!r3) (
    some false) (
    cond ((x1.zK.length:Int) != (x0.zA.length:Int)) (
     some false) (
     (zI (zRD x1) 0).bind fun r8 =>
     match r8 with
     | (.inl r8) =>
      (f_t x0).bind fun r9 =>
      (zI (zRE x1 r9) 0).bind fun r15 =>
      match r15 with
      | (.inl r15) =>
       some true
      | (.inr r15) =>
       some r15
     | (.inr r8) =>
      some r8))))
def zRF (x1:Int):Option (List Int) :=
 cond (decide (x1 < 0)) (
  none) (
  (rng (0 - 0)).bind fun v1 =>
  (rng (x1 - v1)).bind fun v2 =>
  cond (decide (v2 > 0)) (
   (wZ [] v2 (0:Int)).bind fun v3 =>
   (zT v3 0 0).bind fun v4 =>
   some v4) (
   some []))
def zRG (x0:List (List Int)) (s1:Int × Int):Option ((Int × Int) ⊕ Int) :=
 cond (decide (s1.2 < (x0.length:Int))) (
  (ixO x0 s1.2).bind fun v1 =>
  (rng (s1.1 + (v1.length:Int))).bind fun v2 =>
  cond (decide (v2 < 0)) (
   none) (
   (rng (s1.2 + 1)).bind fun v3 =>
   some (.inl (v2,v3)))) (
  some (.inr s1.1))
def zRH (x0:List (List Int)) (s3:(List Int) × Int):Option (((List Int) × Int) ⊕ (List Int)) :=
 cond (decide (s3.2 < (x0.length:Int))) (
  (ixO x0 s3.2).bind fun v6 =>
  (xP s3.1 v6).bind fun v7 =>
  (rng (s3.2 + 1)).bind fun v8 =>
  some (.inl (v7,v8))) (
  some (.inr s3.1))
def f_u (x0:List (List Int)):Option (List Int) :=
 (zI (zRG x0) (0,0)).bind fun r4 =>
 (zRF r4).bind fun r5 =>
 (zI (zRH x0) (r5,0)).bind fun r9 =>
 some r9
def zRI (x0:List Int) (x1:Int) (x2:Int):Option (List Int) :=
 (yS x1).bind fun m1 =>
 (yS x2).bind fun m2 =>
 (f_u [List.replicate m1 (0:Int),x0,List.replicate m2 (0:Int)]).bind fun r3 =>
 some r3
def zRJ (x0:List Int) (x1:List Int) (s1:Int):Option (Int ⊕ (Unit ⊕ Bool)) :=
 cond (decide (s1 < (x0.length:Int))) (
  (ixO x0 s1).bind fun v1 =>
  (ixO x1 s1).bind fun v2 =>
  cond (v1 != v2) (
   some (.inr (.inr false))) (
   (rng (s1 + 1)).bind fun v3 =>
   some (.inl v3))) (
  some (.inr (.inl ())))
def zRK (x0:List Int) (x1:List Int):Option Bool :=
 cond ((x0.length:Int) != (x1.length:Int)) (
  some false) (
  (zI (zRJ x0 x1) 0).bind fun r4 =>
  match r4 with
  | (.inl r4) =>
   some true
  | (.inr r4) =>
   some r4)
def zV0 (x0:List (List Int)) (x1:List (List Int)) (s1:Int):Option (Int ⊕ (Unit ⊕ Bool)) :=
 cond (decide (s1 < (x0.length:Int))) (
  (ixO x0 s1).bind fun v1 =>
  (ixO x1 s1).bind fun v2 =>
  (zRK v1 v2).bind fun r3 =>
  cond (!r3) (
   some (.inr (.inr false))) (
   (rng (s1 + 1)).bind fun v4 =>
   some (.inl v4))) (
  some (.inr (.inl ())))
def f_H (x0:List (List Int)) (x1:List (List Int)):Option Bool :=
 cond ((x0.length:Int) != (x1.length:Int)) (
  some false) (
  (zI (zV0 x0 x1) 0).bind fun r5 =>
  match r5 with
  | (.inl r5) =>
   some true
  | (.inr r5) =>
   some r5)
def zRL (x0:List (List (List Int))) (x1:List (List (List Int))) (s1:Int):Option (Int ⊕ (Unit ⊕ Bool)) :=
 cond (decide (s1 < (x0.length:Int))) (
  (ixO x0 s1).bind fun v1 =>
  (ixO x1 s1).bind fun v2 =>
  (f_H v1 v2).bind fun r3 =>
  cond (!r3) (
   some (.inr (.inr false))) (
   (rng (s1 + 1)).bind fun v4 =>
   some (.inl v4))) (
  some (.inr (.inl ())))
def zTs (x0:List (List (List Int))) (x1:List (List (List Int))):Option Bool :=
 cond ((x0.length:Int) != (x1.length:Int)) (
  some false) (
  (zI (zRL x0 x1) 0).bind fun r5 =>
  match r5 with
  | (.inl r5) =>
   some true
  | (.inr r5) =>
   some r5)
def zTt (x0:zD) (x1:zD):Option Bool :=
 cond (x0.Prime != x1.Prime) (
  some false) (
  cond (x0.Dim != x1.Dim) (
   some false) (
   (zTs x0.zK x1.zK).bind fun r1 =>
   cond (!r1) (
    some false) (
    some true)))
def zTu (x0:SPr) (x1:SPr):Option Bool :=
 (zRK x0.zA x1.zA).bind fun r1 =>
 cond (!r1) (
  some false) (
  (f_H x0.zW x1.zW).bind fun r2 =>
  cond (!r2) (
   some false) (
   (zTs x0.zC x1.zC).bind fun r3 =>
   cond (!r3) (
    some false) (
    some true)))
def zN6  (s1:(List Int) × Int × Int):Option (((List Int) × Int × Int) ⊕ ((List Int) × Int)) :=
 cond (decide (s1.2.2 < (s1.1.length:Int))) (
  (ixO s1.1 s1.2.2).bind fun _ =>
  (rng (s1.2.1 + 1)).bind fun v2 =>
  (rng (s1.2.2 + 1)).bind fun v3 =>
  some (.inl (s1.1.set s1.2.2.toNat s1.2.1,v2,v3))) (
  some (.inr (s1.1,s1.2.1)))
def zOw (x0:List Int) (x1:Int):Option (Int × (List Int)) :=
 (zI zN6 (x0,x1,0)).bind fun r4 =>
 some (r4.2,r4.1)
def zV1  (s1:(List (List Int)) × Int × Int):Option (((List (List Int)) × Int × Int) ⊕ ((List (List Int)) × Int)) :=
 cond (decide (s1.2.2 < (s1.1.length:Int))) (
  (ixO s1.1 s1.2.2).bind fun v1 =>
  (zOw v1 s1.2.1).bind fun r2 =>
  (rng (s1.2.2 + 1)).bind fun v3 =>
  some (.inl (s1.1.set s1.2.2.toNat r2.2,r2.1,v3))) (
  some (.inr (s1.1,s1.2.1)))
def f_N (x0:List (List Int)) (x1:Int):Option (Int × (List (List Int))) :=
 (zI zV1 (x0,x1,0)).bind fun r4 =>
 some (r4.2,r4.1)
def zRM  (s1:(List (List (List Int))) × Int × Int):Option (((List (List (List Int))) × Int × Int) ⊕ ((List (List (List Int))) × Int)) :=
 cond (decide (s1.2.2 < (s1.1.length:Int))) (
  (ixO s1.1 s1.2.2).bind fun v1 =>
  (f_N v1 s1.2.1).bind fun r2 =>
  (rng (s1.2.2 + 1)).bind fun v3 =>
  some (.inl (s1.1.set s1.2.2.toNat r2.2,r2.1,v3))) (
  some (.inr (s1.1,s1.2.1)))
def zRN (x0:List (List (List Int))) (x1:Int):Option (Int × (List (List (List Int)))) :=
 (zI zRM (x0,x1,0)).bind fun r4 =>
 some (r4.2,r4.1)
def zRO (x0:SPr) (x1:Int):Option (Int × SPr) :=
 (zOw x0.zA x1).bind fun r1 =>
 (f_N x0.zW r1.1).bind fun r2 =>
 (zRN x0.zC r2.1).bind fun r3 =>
 some (r3.1,(SPr.mk r1.2 r2.2 r3.2))
def zRP (x0:zD) (x1:Int):Option (Int × zD) :=
 (zRN x0.zK x1).bind fun r1 =>
 some (r1.1,(zD.mk x0.Prime x0.Dim r1.2))
def zKB (x0:List Int) (s1:Int × Int):Option ((Int × Int) ⊕ (Int ⊕ Int)) :=
 cond (decide (s1.2 < (x0.length:Int))) (
  (ixO x0 s1.2).bind fun v1 =>
  cond (v1 != s1.1) (
   some (.inr (.inr (-1)))) (
   (rng (s1.1 + 1)).bind fun v2 =>
   (rng (s1.2 + 1)).bind fun v3 =>
   some (.inl (v2,v3)))) (
  some (.inr (.inl s1.1)))
def zRQ (x0:List Int) (x1:Int):Option Int :=
 (zI (zKB x0) (x1,0)).bind fun r4 =>
 match r4 with
 | (.inl r4) =>
  some r4
 | (.inr r4) =>
  some r4
def zRR (x0:List (List Int)) (s1:Int × Int):Option ((Int × Int) ⊕ (Int ⊕ Int)) :=
 cond (decide (s1.2 < (x0.length:Int))) (
  (ixO x0 s1.2).bind fun v1 =>
  (zRQ v1 s1.1).bind fun r2 =>
  cond (decide (r2 < 0)) (
   some (.inr (.inr (-1)))) (
   (rng (s1.2 + 1)).bind fun v3 =>
   some (.inl (r2,v3)))) (
  some (.inr (.inl s1.1)))
def zTv (x0:List (List Int)) (x1:Int):Option Int :=
 (zI (zRR x0) (x1,0)).bind fun r4 =>
 match r4 with
 | (.inl r4) =>
  some r4
 | (.inr r4) =>
  some r4
def zRS (x0:List (List Int)) (s1:(List (List Int)) × Int):Option (((List (List Int)) × Int) ⊕ (List (List Int))) :=
 cond (decide (s1.2 < (x0.length:Int))) (
  (ixO x0 s1.2).bind fun v1 =>
  (rng ((v1.length:Int) + (x0.length:Int))).bind fun v2 =>
  (yS v2).bind fun m3 =>
  (rng ((v1.length:Int) + s1.2)).bind fun v4 =>
  (ixO (wA (List.replicate m3 (0:Int)) 0 (v1.take (((List.replicate m3 (0:Int)).length) - 0))) v4).bind fun _ =>
  (xP s1.1 [(wA (List.replicate m3 (0:Int)) 0 (v1.take (((List.replicate m3 (0:Int)).length) - 0))).set v4.toNat 1]).bind fun v6 =>
  (rng (s1.2 + 1)).bind fun v7 =>
  some (.inl (v6,v7))) (
  some (.inr s1.1))
def f_L (x0:List (List Int)):Option (List (List Int)) :=
 (zI (zRS x0) ([],0)).bind fun r8 =>
 some r8
def zKC (x0:List (List Int)) (s1:(List (List Int)) × Int):Option (((List (List Int)) × Int) ⊕ (List (List Int))) :=
 cond (decide (s1.2 < (x0.length:Int))) (
  (ixO x0 s1.2).bind fun v1 =>
  (f_w v1).bind fun r2 =>
  (xP s1.1 [r2]).bind fun v3 =>
  (rng (s1.2 + 1)).bind fun v4 =>
  some (.inl (v3,v4))) (
  some (.inr s1.1))
def zTw (x0:List (List Int)):Option (List (List Int)) :=
 (zI (zKC x0) ([],0)).bind fun r5 =>
 some r5
def zOx  (s1:Int × Int × Int × Int):Option ((Int × Int × Int × Int) ⊕ (Int × Int)) :=
 cond (s1.2.1 != 0) (
  (uZ s1.1 s1.2.1).bind fun v1 =>
  (rng (v1 * s1.2.1)).bind fun v2 =>
  (rng (s1.1 - v2)).bind fun v3 =>
  (rng (v1 * s1.2.2.2)).bind fun v4 =>
  (rng (s1.2.2.1 - v4)).bind fun v5 =>
  some (.inl (s1.2.1,v3,s1.2.2.2,v5))) (
  some (.inr (s1.1,s1.2.2.1)))
def f_P (x0:Int) (x1:Int):Option (Int × Bool) :=
 (zI zOx (x1,x0,0,1)).bind fun r6 =>
 (zHf r6.2 x1).bind fun r7 =>
 some (r7,(r6.1 == 1))
def zHg (s13:(List (List Int)) × Int × Int) (s14:Int):Option (Int ⊕ Int) :=
 cond (decide (s14 < (s13.1.length:Int))) (
  (ixO s13.1 s14).bind fun v3 =>
  (ixO v3 s13.2.2).bind fun v4 =>
  cond (v4 == 0) (
   (rng (s14 + 1)).bind fun v5 =>
   some (.inl v5)) (
   some (.inr s14))) (
  some (.inr s14))
def zKD (x0:Int) (s13:(List (List Int)) × Int × Int) (r12:Int × Bool) (v13:List Int) (s16:(List (List Int)) × Int):Option (((List (List Int)) × Int) ⊕ (List (List Int))) :=
 cond (decide (s16.2 < (v13.length:Int))) (
  (ixO s16.1 s13.2.1).bind fun v14 =>
  (ixO s16.1 s13.2.1).bind fun v15 =>
  (ixO v15 s16.2).bind fun v16 =>
  (rng (v16 * r12.1)).bind fun v17 =>
  (uA v17 x0).bind fun v18 =>
  (ixO v14 s16.2).bind fun _ =>
  (rng (s16.2 + 1)).bind fun v20 =>
  some (.inl (s16.1.set s13.2.1.toNat (v14.set s16.2.toNat v18),v20))) (
  some (.inr s16.1))
def zMh (x0:Int) (s13:(List (List Int)) × Int × Int) (r21:(List (List Int))) (s18:(List (List Int)) × Int):Option (((List (List Int)) × Int) ⊕ (List (List Int))) :=
 cond (decide (s18.2 < (r21.length:Int))) (
  cond (s18.2 != s13.2.1) (
   (ixO s18.1 s18.2).bind fun v22 =>
   (ixO s18.1 s13.2.1).bind fun v23 =>
   (ixO s18.1 s18.2).bind fun v24 =>
   (ixO v24 s13.2.2).bind fun v25 =>
   (rng (0 - v25)).bind fun v26 =>
   (f_s v22 v23 v26 x0).bind fun r27 =>
   (rng (s18.2 + 1)).bind fun v28 =>
   some (.inl (s18.1.set s18.2.toNat r27,v28))) (
   (rng (s18.2 + 1)).bind fun v29 =>
   some (.inl (s18.1,v29)))) (
  some (.inr s18.1))
def zMi (x0:Int) (s13:(List (List Int)) × Int × Int):Option (((List (List Int)) × Int × Int) ⊕ ((List (List Int)) × Int)) :=
 cond (decide ((s13.1.length:Int) > 0)) (
  (ixO s13.1 0).bind fun v2 =>
  cond (decide (s13.2.2 < (v2.length:Int))) (
   cond (decide (s13.2.1 < (s13.1.length:Int))) (
    (zI (zHg s13) s13.2.1).bind fun r6 =>
    cond (r6 == (s13.1.length:Int)) (
     (rng (s13.2.2 + 1)).bind fun v7 =>
     some (.inl (s13.1,s13.2.1,v7))) (
     (ixO s13.1 r6).bind fun v8 =>
     (ixO s13.1 s13.2.1).bind fun v9 =>
     (ixO (qK s13.1 s13.2.1 r6 v8 v9) s13.2.1).bind fun v10 =>
     (ixO v10 s13.2.2).bind fun v11 =>
     (f_P v11 x0).bind fun r12 =>
     (ixO (qK s13.1 s13.2.1 r6 v8 v9) s13.2.1).bind fun v13 =>
     (zI (zKD x0 s13 r12 v13) (qK s13.1 s13.2.1 r6 v8 v9,0)).bind fun r21 =>
     (zI (zMh x0 s13 r21) (r21,0)).bind fun r30 =>
     (rng (s13.2.1 + 1)).bind fun v31 =>
     (rng (s13.2.2 + 1)).bind fun v32 =>
     some (.inl (r30,v31,v32)))) (
    some (.inr (s13.1,s13.2.1)))) (
   some (.inr (s13.1,s13.2.1)))) (
  some (.inr (s13.1,s13.2.1)))
def f_g (x0:Int) (x1:List (List Int)):Option (List (List Int)) :=
 (zTw x1).bind fun r1 =>
 (zI (zMi x0) (r1,0,0)).bind fun r33 =>
 (zT r33.1 0 r33.2).bind fun v34 =>
 some v34
def zRT (x0:Int) (x1:Int):Option Int :=
 (uA x0 x1).bind fun v1 =>
 cond (decide (v1 < 0)) (
  (rng (v1 + x1)).bind fun v2 =>
  some v2) (
  some v1)
def zHh (x0:List Int) (s1:Int):Option (Int ⊕ (Unit ⊕ Int)) :=
 cond (decide (s1 < (x0.length:Int))) (
  (ixO x0 s1).bind fun v1 =>
  cond (v1 != 0) (
   some (.inr (.inr s1))) (
   (rng (s1 + 1)).bind fun v2 =>
   some (.inl v2))) (
  some (.inr (.inl ())))
def f_x (x0:List Int):Option Int :=
 (zI (zHh x0) 0).bind fun r3 =>
 match r3 with
 | (.inl r3) =>
  some (x0.length:Int)
 | (.inr r3) =>
  some r3
def zRU (x0:Int) (x2:Int) (x3:List Int) (s1:(List Int) × Int):Option (((List Int) × Int) ⊕ (List Int)) :=
 cond (decide (s1.2 < (s1.1.length:Int))) (
  cond (decide (s1.2 < (x3.length:Int))) (
   (ixO s1.1 s1.2).bind fun v2 =>
   (ixO x3 s1.2).bind fun v3 =>
   (rng (x2 * v3)).bind fun v4 =>
   (rng (v2 + v4)).bind fun v5 =>
   (zRT v5 x0).bind fun r6 =>
   (ixO s1.1 s1.2).bind fun _ =>
   (rng (s1.2 + 1)).bind fun v8 =>
   some (.inl (s1.1.set s1.2.toNat r6,v8))) (
   some (.inr s1.1))) (
  some (.inr s1.1))
def f_o (x0:Int) (x1:List Int) (x2:Int) (x3:List Int):Option (List Int) :=
 (f_r x1).bind fun r1 =>
 (zI (zRU x0 x2 x3) (r1,0)).bind fun r9 =>
 some r9
def zKE (x0:Int) (x1:List (List Int)) (s1:(List Int) × Int):Option (((List Int) × Int) ⊕ (List Int)) :=
 cond (decide (s1.2 < (x1.length:Int))) (
  (ixO x1 s1.2).bind fun v2 =>
  (f_x v2).bind fun r3 =>
  cond (decide (r3 < (s1.1.length:Int))) (
   (ixO s1.1 r3).bind fun v4 =>
   cond (v4 != 0) (
    (ixO s1.1 r3).bind fun v5 =>
    (rng (x0 - v5)).bind fun v6 =>
    (ixO x1 s1.2).bind fun v7 =>
    (f_o x0 s1.1 v6 v7).bind fun r8 =>
    (rng (s1.2 + 1)).bind fun v9 =>
    some (.inl (r8,v9))) (
    (rng (s1.2 + 1)).bind fun v10 =>
    some (.inl (s1.1,v10)))) (
   (rng (s1.2 + 1)).bind fun v11 =>
   some (.inl (s1.1,v11)))) (
  some (.inr s1.1))
def zOy (x0:Int) (x1:List (List Int)) (x2:List Int):Option (List Int) :=
 (f_r x2).bind fun r1 =>
 (zI (zKE x0 x1) (r1,0)).bind fun r12 =>
 some r12
def zKF (x0:Int) (x1:Int) (s1:Int):Option (Int ⊕ (Unit ⊕ Int)) :=
 cond (decide (s1 < x1)) (
  (zRT x0 x1).bind fun r1 =>
  (rng (r1 * s1)).bind fun v2 =>
  (uA v2 x1).bind fun v3 =>
  cond (v3 == 1) (
   some (.inr (.inr s1))) (
   (rng (s1 + 1)).bind fun v4 =>
   some (.inl v4))) (
  some (.inr (.inl ())))
def zTx (x0:Int) (x1:Int):Option Int :=
 (zI (zKF x0 x1) 1).bind fun r5 =>
 match r5 with
 | (.inl r5) =>
  some 0
 | (.inr r5) =>
  some r5
def zOz (x0:Int) (x1:Int) (x2:List Int):Option (List Int) :=
 (yS (x2.length:Int)).bind fun m1 =>
 (f_o x0 (List.replicate m1 (0:Int)) x1 x2).bind fun r2 =>
 some r2
def zHi (x0:Int) (s5:(List (List Int)) × Int) (r3:Int) (r7:(List Int)) (s6:(List (List Int)) × Bool × Int):Option (((List (List Int)) × Bool × Int) ⊕ ((List (List Int)) × Bool)) :=
 cond (decide (s6.2.2 < (s5.1.length:Int))) (
  cond (!s6.2.1) (
   (ixO s5.1 s6.2.2).bind fun v8 =>
   (f_x v8).bind fun r9 =>
   cond (decide (r9 > r3)) (
    (xP s6.1 [r7]).bind fun v10 =>
    (ixO s5.1 s6.2.2).bind fun v11 =>
    (ixO s5.1 s6.2.2).bind fun v12 =>
    (ixO v12 r3).bind fun v13 =>
    (rng (x0 - v13)).bind fun v14 =>
    (f_o x0 v11 v14 r7).bind fun r15 =>
    (xP v10 [r15]).bind fun v16 =>
    (rng (s6.2.2 + 1)).bind fun v17 =>
    some (.inl (v16,true,v17))) (
    (ixO s5.1 s6.2.2).bind fun v18 =>
    (ixO s5.1 s6.2.2).bind fun v19 =>
    (ixO v19 r3).bind fun v20 =>
    (rng (x0 - v20)).bind fun v21 =>
    (f_o x0 v18 v21 r7).bind fun r22 =>
    (xP s6.1 [r22]).bind fun v23 =>
    (rng (s6.2.2 + 1)).bind fun v24 =>
    some (.inl (v23,s6.2.1,v24)))) (
   (ixO s5.1 s6.2.2).bind fun v25 =>
   (ixO s5.1 s6.2.2).bind fun v26 =>
   (ixO v26 r3).bind fun v27 =>
   (rng (x0 - v27)).bind fun v28 =>
   (f_o x0 v25 v28 r7).bind fun r29 =>
   (xP s6.1 [r29]).bind fun v30 =>
   (rng (s6.2.2 + 1)).bind fun v31 =>
   some (.inl (v30,s6.2.1,v31)))) (
  some (.inr (s6.1,s6.2.1)))
def zO0 (x0:Int) (x1:List (List Int)) (s5:(List (List Int)) × Int):Option (((List (List Int)) × Int) ⊕ (List (List Int))) :=
 cond (decide (s5.2 < (x1.length:Int))) (
  (ixO x1 s5.2).bind fun v1 =>
  (zOy x0 s5.1 v1).bind fun r2 =>
  (f_x r2).bind fun r3 =>
  cond (r3 == (r2.length:Int)) (
   (rng (s5.2 + 1)).bind fun v4 =>
   some (.inl (s5.1,v4))) (
   (ixO r2 r3).bind fun v5 =>
   (zTx v5 x0).bind fun r6 =>
   (zOz x0 r6 r2).bind fun r7 =>
   (zI (zHi x0 s5 r3 r7) ([],false,0)).bind fun r32 =>
   cond (!r32.2) (
    (xP r32.1 [r7]).bind fun v33 =>
    (rng (s5.2 + 1)).bind fun v34 =>
    some (.inl (v33,v34))) (
    (rng (s5.2 + 1)).bind fun v35 =>
    some (.inl (r32.1,v35))))) (
  some (.inr s5.1))
def f_m (x0:Int) (x1:List (List Int)):Option (List (List Int)) :=
 (zI (zO0 x0 x1) ([],0)).bind fun r36 =>
 some r36
def zRV (x1:List (List Int)) (r1:(List (List Int))) (s1:(List (List Int)) × Int):Option (((List (List Int)) × Int) ⊕ (List (List Int))) :=
 cond (decide (s1.2 < (x1.length:Int))) (
  (ixO x1 s1.2).bind fun v2 =>
  (f_r v2).bind fun r3 =>
  (ixO r1 s1.2).bind fun v4 =>
  (xP r3 v4).bind fun v5 =>
  (xP s1.1 [v5]).bind fun v6 =>
  (rng (s1.2 + 1)).bind fun v7 =>
  some (.inl (v6,v7))) (
  some (.inr s1.1))
def f_R (x0:Int) (x1:List (List Int)):Option (List (List Int)) :=
 (f_G (x1.length:Int)).bind fun r1 =>
 (zI (zRV x1 r1) ([],0)).bind fun r8 =>
 (f_m x0 r8).bind fun r9 =>
 some r9
def zHV (x2:Int) (r1:(List (List Int))) (s1:(List (List Int)) × Int):Option (((List (List Int)) × Int) ⊕ (List (List Int))) :=
 cond (decide (s1.2 < (r1.length:Int))) (
  (ixO r1 s1.2).bind fun v2 =>
  (f_x v2).bind fun r3 =>
  cond (decide (r3 ≥ x2)) (
   (ixO r1 s1.2).bind fun v4 =>
   (zT v4 x2 v4.length).bind fun v5 =>
   (f_r v5).bind fun r6 =>
   (xP s1.1 [r6]).bind fun v7 =>
   (rng (s1.2 + 1)).bind fun v8 =>
   some (.inl (v7,v8))) (
   (rng (s1.2 + 1)).bind fun v9 =>
   some (.inl (s1.1,v9)))) (
  some (.inr s1.1))
def zTy (x0:Int) (x1:List (List Int)) (x2:Int):Option (List (List Int)) :=
 (f_R x0 x1).bind fun r1 =>
 (zI (zHV x2 r1) ([],0)).bind fun r10 =>
 some r10
def zTz (x0:SPr):Option Int :=
 (rng ((x0.zA.length:Int) - 1)).bind fun v1 =>
 (rng ((x0.zA.length:Int) * v1)).bind fun v2 =>
 (uZ v2 2).bind fun v3 =>
 (rng ((x0.zA.length:Int) + v3)).bind fun v4 =>
 some v4
def zV2 (x0:Int) (x1:Int) (x2:Int):Option Int :=
 (rng (x1 * x0)).bind fun v1 =>
 (rng (x0 + v1)).bind fun v2 =>
 (rng (x1 + 1)).bind fun v3 =>
 (rng (x1 * v3)).bind fun v4 =>
 (uZ v4 2).bind fun v5 =>
 (rng (v2 - v5)).bind fun v6 =>
 (rng (v6 + x2)).bind fun v7 =>
 (rng (v7 - x1)).bind fun v8 =>
 (rng (v8 - 1)).bind fun v9 =>
 some v9
def zT0 (x0:SPr):Option Int :=
 (rng ((x0.zA.length:Int) + 1)).bind fun v1 =>
 (rng ((x0.zA.length:Int) * v1)).bind fun v2 =>
 (uZ v2 2).bind fun v3 =>
 some v3
def zO1 (x0:List Int) (x1:Int) (s1:(List (List Int)) × Int):Option (((List (List Int)) × Int) ⊕ (List (List Int))) :=
 cond (decide (s1.2 < (x0.length:Int))) (
  (rng (s1.2 + x1)).bind fun v1 =>
  (zT x0 s1.2 v1).bind fun v2 =>
  (f_w v2).bind fun r3 =>
  (xP s1.1 [r3]).bind fun v4 =>
  (rng (s1.2 + x1)).bind fun v5 =>
  some (.inl (v4,v5))) (
  some (.inr s1.1))
def f_T (x0:List Int) (x1:Int):Option (List (List Int)) :=
 (zI (zO1 x0 x1) ([],0)).bind fun r6 =>
 some r6
def zO2 (x0:List Int) (s6:(List (List Int)) × Int):Option (((List (List Int)) × Int) ⊕ (List (List Int))) :=
 cond (decide (s6.2 < (x0.length:Int))) (
  (zIO (x0.length:Int) s6.2).bind fun r5 =>
  (xP s6.1 [r5]).bind fun v6 =>
  (rng (s6.2 + 1)).bind fun v7 =>
  some (.inl (v6,v7))) (
  some (.inr s6.1))
def zO3 (x0:List Int) (s5:(List (List Int)) × (List (List (List Int))) × Int):Option (((List (List Int)) × (List (List (List Int))) × Int) ⊕ ((List (List Int)) × (List (List (List Int))))) :=
 cond (decide (s5.2.2 < (x0.length:Int))) (
  (yS (x0.length:Int)).bind fun m2 =>
  (xP s5.1 [List.replicate m2 (0:Int)]).bind fun v3 =>
  (rng (s5.2.2 + 1)).bind fun v4 =>
  (zI (zO2 x0) ([],v4)).bind fun r8 =>
  (xP s5.2.1 [r8]).bind fun v9 =>
  (rng (s5.2.2 + 1)).bind fun v10 =>
  some (.inl (v3,v9,v10))) (
  some (.inr (s5.1,s5.2.1)))
def f_z (x0:List Int):Option SPr :=
 (f_w x0).bind fun r1 =>
 (zI (zO3 x0) ([],[],0)).bind fun r11 =>
 some (SPr.mk r1 r11.1 r11.2)
def zO4 (x0:SPr) (x2:List (List Int)) (s1:(List (List Int)) × Int × Int):Option (((List (List Int)) × Int × Int) ⊕ ((List (List Int)) × Int)) :=
 cond (decide (s1.2.2 < (x0.zW.length:Int))) (
  (ixO x0.zW s1.2.2).bind fun v5 =>
  (ixO x2 s1.2.1).bind fun v6 =>
  (f_u [v5,v6]).bind fun r7 =>
  (ixO s1.1 s1.2.2).bind fun _ =>
  (rng (s1.2.1 + 1)).bind fun v9 =>
  (rng (s1.2.2 + 1)).bind fun v10 =>
  some (.inl (s1.1.set s1.2.2.toNat r7,v9,v10))) (
  some (.inr (s1.1,s1.2.1)))
def zO5 (x2:List (List Int)) (s11:(List (List (List Int))) × Int × Int) (v12:List (List Int)) (s12:(List (List (List Int))) × Int × Int):Option (((List (List (List Int))) × Int × Int) ⊕ ((List (List (List Int))) × Int)) :=
 cond (decide (s12.2.2 < (v12.length:Int))) (
  (ixO v12 s12.2.2).bind fun v13 =>
  (ixO s12.1 s11.2.2).bind fun v14 =>
  (ixO x2 s12.2.1).bind fun v15 =>
  (f_u [v13,v15]).bind fun r16 =>
  (ixO v14 s12.2.2).bind fun _ =>
  (rng (s12.2.1 + 1)).bind fun v18 =>
  (rng (s12.2.2 + 1)).bind fun v19 =>
  some (.inl (s12.1.set s11.2.2.toNat (v14.set s12.2.2.toNat r16),v18,v19))) (
  some (.inr (s12.1,s12.2.1)))
def zO6 (x0:SPr) (s11:(List (List (List Int))) × Int × Int) (v21:List (List Int)) (s14:(List (List (List Int))) × Int):Option (((List (List (List Int))) × Int) ⊕ (List (List (List Int)))) :=
 cond (decide (s14.2 < (v21.length:Int))) (
  (ixO v21 s14.2).bind fun v22 =>
  (ixO s14.1 s11.2.2).bind fun v23 =>
  (rng ((x0.zA.length:Int) - 1)).bind fun v24 =>
  (rng (v24 - s11.2.2)).bind fun v25 =>
  (rng (v25 + s14.2)).bind fun v26 =>
  (zRI v22 (x0.zA.length:Int) 0).bind fun r27 =>
  (ixO v23 v26).bind fun _ =>
  (rng (s14.2 + 1)).bind fun v29 =>
  some (.inl (s14.1.set s11.2.2.toNat (v23.set v26.toNat r27),v29))) (
  some (.inr s14.1))
def zO7 (x0:SPr) (x1:zD) (x2:List (List Int)) (s11:(List (List (List Int))) × Int × Int):Option (((List (List (List Int))) × Int × Int) ⊕ (List (List (List Int)))) :=
 cond (decide (s11.2.2 < (x0.zA.length:Int))) (
  (ixO x0.zC s11.2.2).bind fun v12 =>
  (zI (zO5 x2 s11 v12) (s11.1,s11.2.1,0)).bind fun r20 =>
  (ixO x1.zK s11.2.2).bind fun v21 =>
  (zI (zO6 x0 s11 v21) (r20.1,0)).bind fun r30 =>
  (rng (s11.2.2 + 1)).bind fun v31 =>
  some (.inl (r30,r20.2,v31))) (
  some (.inr s11.1))
def f_j (x0:SPr) (x1:zD) (x2:List (List Int)):Option SPr :=
 (f_w x0.zA).bind fun r1 =>
 (f_i [x1.Prime] x1.Dim).bind fun r2 =>
 (xP r1 r2).bind fun v3 =>
 (f_z v3).bind fun r4 =>
 (zI (zO4 x0 x2) (r4.zW,0,0)).bind fun r11 =>
 (zI (zO7 x0 x1 x2) (r4.zC,r11.2,0)).bind fun r32 =>
 some (SPr.mk r4.zA r11.1 r32)
def zKG (x0:zD) (x1:List (List Int)) (s1:Int):Option (Int ⊕ (Unit ⊕ Bool)) :=
 cond (decide (s1 < (x1.length:Int))) (
  (ixO x1 s1).bind fun v1 =>
  (zRb x0.Prime x0.Dim v1).bind fun r2 =>
  cond (!r2) (
   some (.inr (.inr false))) (
   (rng (s1 + 1)).bind fun v3 =>
   some (.inl v3))) (
  some (.inr (.inl ())))
def zV3 (x0:zD) (x1:List (List Int)):Option Bool :=
 (zI (zKG x0 x1) 0).bind fun r4 =>
 match r4 with
 | (.inl r4) =>
  some true
 | (.inr r4) =>
  some r4
def zKH (x0:zD) (x1:List (List Int)) (x2:List Int) (x3:Int):Option (List Int) :=
 (ixO x0.zK x3).bind fun v1 =>
 (f_F x0.Prime x2 v1 x0.Dim).bind fun r2 =>
 (ixO x1 x3).bind fun v3 =>
 (f_o x0.Prime r2 1 v3).bind fun r4 =>
 some r4
def zRW (x0:zD) (x1:List (List Int)) (x3:List Int) (s5:(List Int) × Int) (s6:(List Int) × Int):Option (((List Int) × Int) ⊕ (List Int)) :=
 (ixO x3 s5.2).bind fun v1 =>
 cond (decide (s6.2 < v1)) (
  (zKH x0 x1 s6.1 s5.2).bind fun r2 =>
  (rng (s6.2 + 1)).bind fun v3 =>
  some (.inl (r2,v3))) (
  some (.inr s6.1))
def zRX (x0:zD) (x1:List (List Int)) (x3:List Int) (s5:(List Int) × Int):Option (((List Int) × Int) ⊕ (List Int)) :=
 cond (decide (s5.2 < (x3.length:Int))) (
  (zI (zRW x0 x1 x3 s5) (s5.1,0)).bind fun r4 =>
  (rng (s5.2 + 1)).bind fun v5 =>
  some (.inl (r4,v5))) (
  some (.inr s5.1))
def f_D (x0:zD) (x1:List (List Int)) (x2:List Int) (x3:List Int):Option (List Int) :=
 (zI (zRX x0 x1 x3) (x2,0)).bind fun r6 =>
 some r6
def zUp (x0:List Int) (s1:Int):Option (Int ⊕ (Unit ⊕ Bool)) :=
 cond (decide (s1 < (x0.length:Int))) (
  (ixO x0 s1).bind fun v1 =>
  cond (v1 != 0) (
   some (.inr (.inr false))) (
   (rng (s1 + 1)).bind fun v2 =>
   some (.inl v2))) (
  some (.inr (.inl ())))
def zRY (x0:List Int):Option Bool :=
 (zI (zUp x0) 0).bind fun r3 =>
 match r3 with
 | (.inl r3) =>
  some true
 | (.inr r3) =>
  some r3
def zN7 (x0:zD) (x1:List (List Int)) (s1:Int):Option (Int ⊕ (Unit ⊕ Bool)) :=
 cond (decide (s1 < (x1.length:Int))) (
  (ixO x1 s1).bind fun v1 =>
  (zR2 v1 x0.Prime x0.Dim).bind fun r2 =>
  cond (!r2) (
   some (.inr (.inr false))) (
   (rng (s1 + 1)).bind fun v3 =>
   some (.inl v3))) (
  some (.inr (.inl ())))
def zV4 (x0:zD) (x1:List (List Int)):Option Bool :=
 (zI (zN7 x0 x1) 0).bind fun r4 =>
 match r4 with
 | (.inl r4) =>
  some true
 | (.inr r4) =>
  some r4
def zKI (x0:zD) (x1:List (List Int)) (x2:List Int) (s1:(List Int) × Int):Option (((List Int) × Int) ⊕ (List Int)) :=
 cond (decide (s1.2 < (x2.length:Int))) (
  (ixO x2 s1.2).bind fun v2 =>
  (rng (v2 - 1)).bind fun v3 =>
  (zMg x0 v3).bind fun r4 =>
  (zR9 s1.1 r4).bind fun r5 =>
  (rng (v2 - 1)).bind fun v6 =>
  (ixO x1 v6).bind fun v7 =>
  (f_s r5 v7 1 x0.Prime).bind fun r8 =>
  (rng (s1.2 + 1)).bind fun v9 =>
  some (.inl (r8,v9))) (
  some (.inr s1.1))
def zRZ (x0:zD) (x1:List (List Int)) (x2:List Int):Option (List Int) :=
 (yS x0.Dim).bind fun m1 =>
 (zI (zKI x0 x1 x2) (List.replicate m1 (0:Int),0)).bind fun r10 =>
 some r10
def zKJ (x1:zD) (x2:List (List Int)) (r1:(List ((List Int) × (List Int)))) (s1:(List (List Int)) × Int):Option (((List (List Int)) × Int) ⊕ (List (List Int))) :=
 cond (decide (s1.2 < (r1.length:Int))) (
  (ixO r1 s1.2).bind fun v2 =>
  (zRZ x1 x2 v2.1).bind fun r3 =>
  (zRZ x1 x2 v2.2).bind fun r4 =>
  (f_s r3 r4 (-1) x1.Prime).bind fun r5 =>
  (xP s1.1 [r5]).bind fun v6 =>
  (rng (s1.2 + 1)).bind fun v7 =>
  some (.inl (v6,v7))) (
  some (.inr s1.1))
def zSa (x0:SPr) (x1:zD) (x2:List (List Int)):Option (List (List Int)) :=
 (f_t x0).bind fun r1 =>
 (zI (zKJ x1 x2 r1) ([],0)).bind fun r8 =>
 some r8
def zSb (x0:SPr) (x1:zD) (x2:List (List Int)):Option Bool :=
 (zTz x0).bind fun r1 =>
 cond ((x2.length:Int) == r1) (
  (zV3 x1 x2).bind fun r2 =>
  some r2) (
  some false)
def zKK (x0:zS):Option zJ :=
 cond (decide ((x0.wP.length:Int) > 0)) (
  (ixO x0.wP 0).bind fun v1 =>
  (yS (x0.p.zA.length:Int)).bind fun m2 =>
  (yS (v1.length:Int)).bind fun m3 =>
  some (zJ.mk (List.replicate m2 (0:Int)) (List.replicate m3 (0:Int)))) (
  (yS (x0.p.zA.length:Int)).bind fun m4 =>
  (yS 0).bind fun m5 =>
  some (zJ.mk (List.replicate m4 (0:Int)) (List.replicate m5 (0:Int))))
def f_V (x0:zS) (x1:Int) (x2:Int):Option zJ :=
 (ixO x0.p.zC x1).bind fun v1 =>
 (rng (x2 - x1)).bind fun v2 =>
 (rng (v2 - 1)).bind fun v3 =>
 (ixO v1 v3).bind fun v4 =>
 (zV2 (x0.p.zA.length:Int) x1 x2).bind fun r5 =>
 (ixO x0.wP r5).bind fun v6 =>
 some (zJ.mk v4 v6)
def zHW (x0:zD) (x1:List Int) (x2:Int) (s1:(List Int) × Int):Option (((List Int) × Int) ⊕ (List Int)) :=
 cond (decide (s1.2 < (x1.length:Int))) (
  (rng (s1.2 + x0.Dim)).bind fun v1 =>
  (zT x1 s1.2 v1).bind fun v2 =>
  (ixO x0.zK x2).bind fun v3 =>
  (f_F x0.Prime v2 v3 x0.Dim).bind fun r4 =>
  (xP s1.1 r4).bind fun v5 =>
  (rng (s1.2 + x0.Dim)).bind fun v6 =>
  some (.inl (v5,v6))) (
  some (.inr s1.1))
def zT1 (x0:zD) (x1:List Int) (x2:Int):Option (List Int) :=
 (zI (zHW x0 x1 x2) ([],0)).bind fun r7 =>
 some r7
def zMj (x0:zS) (x1:Int):Option zJ :=
 (ixO x0.p.zW x1).bind fun v1 =>
 (ixO x0.wP x1).bind fun v2 =>
 some (zJ.mk v1 v2)
def zT2 (g_d:zS → Int → zJ → zJ → Option zJ) (x0:zS) (x1:Int) (x2:zJ) (s5:(List Int) × (List Int) × Int) (s6:(List Int) × (List Int) × Int):Option (((List Int) × (List Int) × Int) ⊕ ((List Int) × (List Int))) :=
 (ixO x2.x s5.2.2).bind fun v3 =>
 cond (decide (s6.2.2 < v3)) (
  (rng (x1 + 1)).bind fun v4 =>
  (f_V x0 x1 s5.2.2).bind fun r5 =>
  (g_d x0 v4 (zJ.mk s6.1 s6.2.1) r5).bind fun r6 =>
  (rng (s6.2.2 + 1)).bind fun v7 =>
  some (.inl (r6.x,r6.v,v7))) (
  some (.inr (s6.1,s6.2.1)))
def zSc (g_d:zS → Int → zJ → zJ → Option zJ) (x0:zS) (x1:Int) (x2:zJ) (s5:(List Int) × (List Int) × Int):Option (((List Int) × (List Int) × Int) ⊕ ((List Int) × (List Int))) :=
 cond (decide (s5.2.2 < (x2.x.length:Int))) (
  (zI (zT2 g_d x0 x1 x2 s5) (s5.1,s5.2.1,0)).bind fun r8 =>
  (rng (s5.2.2 + 1)).bind fun v9 =>
  some (.inl (r8.1,r8.2,v9))) (
  some (.inr (s5.1,s5.2.1)))
def b_f (g_d:zS → Int → zJ → zJ → Option zJ) (x0:zS) (x1:Int) (x2:zJ):Option zJ :=
 (zKK x0).bind fun r1 =>
 (rng (x1 + 1)).bind fun v2 =>
 (zI (zSc g_d x0 x1 x2) (r1.x,r1.v,v2)).bind fun r10 =>
 (zT1 x0.m x2.v x1).bind fun r11 =>
 (f_o x0.m.Prime r10.2 1 r11).bind fun r12 =>
 some (zJ.mk r10.1 r12)
def zO8 (g_f:zS → Int → zJ → Option zJ) (x0:zS) (x1:Int) (x3:zJ) (s1:(List Int) × (List Int) × Int):Option (((List Int) × (List Int) × Int) ⊕ ((List Int) × (List Int))) :=
 (ixO x3.x x1).bind fun v7 =>
 cond (decide (s1.2.2 < v7)) (
  (g_f x0 x1 (zJ.mk s1.1 s1.2.1)).bind fun r8 =>
  (rng (s1.2.2 + 1)).bind fun v9 =>
  some (.inl (r8.x,r8.v,v9))) (
  some (.inr (s1.1,s1.2.1)))
def b_d (g_f:zS → Int → zJ → Option zJ) (g_d:zS → Int → zJ → zJ → Option zJ) (x0:zS) (x1:Int) (x2:zJ) (x3:zJ):Option zJ :=
 cond (decide (x1 ≥ (x0.p.zA.length:Int))) (
  (yS (x0.p.zA.length:Int)).bind fun m1 =>
  (f_o x0.m.Prime x2.v 1 x3.v).bind fun r2 =>
  some (zJ.mk (List.replicate m1 (0:Int)) r2)) (
  (f_r x2.x).bind fun r3 =>
  (f_r x3.x).bind fun r4 =>
  (ixO r3 x1).bind fun _ =>
  (ixO r4 x1).bind fun _ =>
  (zI (zO8 g_f x0 x1 x3) (r3.set x1.toNat 0,x2.v,0)).bind fun r10 =>
  (rng (x1 + 1)).bind fun v11 =>
  (g_d x0 v11 (zJ.mk r10.1 r10.2) (zJ.mk (r4.set x1.toNat 0) x3.v)).bind fun r12 =>
  (ixO x2.x x1).bind fun v13 =>
  (ixO x3.x x1).bind fun v14 =>
  (rng (v13 + v14)).bind fun v15 =>
  (ixO x0.p.zA x1).bind fun v16 =>
  cond (decide (v15 ≥ v16)) (
   (ixO x0.p.zA x1).bind fun v17 =>
   (rng (v15 - v17)).bind fun v18 =>
   (rng (x1 + 1)).bind fun v19 =>
   (zMj x0 x1).bind fun r20 =>
   (g_d x0 v19 r20 r12).bind fun r21 =>
   (f_r r21.x).bind fun r22 =>
   (ixO r22 x1).bind fun _ =>
   some (zJ.mk (r22.set x1.toNat v18) r21.v)) (
   (f_r r12.x).bind fun r24 =>
   (ixO r24 x1).bind fun _ =>
   some (zJ.mk (r24.set x1.toNat v15) r12.v)))
mutual
def zMk:Nat → zS → Int → zJ → Option zJ
 | 0 => fun _ _ _ => none
 | n + 1 => b_f (zMl n)
def zMl:Nat → zS → Int → zJ → zJ → Option zJ
 | 0 => fun _ _ _ _ => none
 | n + 1 => b_d (zMk n) (zMl n)
end
def f_f (x0:zS) (x1:Int) (x2:zJ):Option zJ:=zCG fun n => zMk n x0 x1 x2
def f_d (x0:zS) (x1:Int) (x2:zJ) (x3:zJ):Option zJ:=zCG fun n => zMl n x0 x1 x2 x3
def zKL (x0:zS) (x1:zJ) (x2:zJ):Option (List Int) :=
 (rng (x0.m.Prime - 1)).bind fun v1 =>
 (f_o x0.m.Prime x1.v v1 x2.v).bind fun r2 =>
 some r2
def zO9 (x0:zS) (x1:Int) (s9:(List (List Int)) × Int) (s10:(List Int) × (List Int) × Int):Option (((List Int) × (List Int) × Int) ⊕ ((List Int) × (List Int))) :=
 (ixO x0.p.zA s9.2).bind fun v3 =>
 cond (decide (s10.2.2 < v3)) (
  (rng (x1 + 1)).bind fun v4 =>
  (f_V x0 x1 s9.2).bind fun r5 =>
  (f_d x0 v4 (zJ.mk s10.1 s10.2.1) r5).bind fun r6 =>
  (rng (s10.2.2 + 1)).bind fun v7 =>
  some (.inl (r6.x,r6.v,v7))) (
  some (.inr (s10.1,s10.2.1)))
def zOA (x0:zS) (x1:Int) (s9:(List (List Int)) × Int) (s12:(List (List Int)) × Int):Option (((List (List Int)) × Int) ⊕ (List (List Int))) :=
 cond (decide (s12.2 < (x0.p.zA.length:Int))) (
  (f_V x0 x1 s9.2).bind fun r14 =>
  (f_V x0 x1 s12.2).bind fun r15 =>
  (f_V x0 s9.2 s12.2).bind fun r16 =>
  (f_f x0 x1 r16).bind fun r17 =>
  (rng (x1 + 1)).bind fun v18 =>
  (f_d x0 v18 r15 r14).bind fun r19 =>
  (rng (x1 + 1)).bind fun v20 =>
  (f_d x0 v20 r14 r17).bind fun r21 =>
  (zKL x0 r19 r21).bind fun r22 =>
  (xP s12.1 [r22]).bind fun v23 =>
  (rng (s12.2 + 1)).bind fun v24 =>
  some (.inl (v23,v24))) (
  some (.inr s12.1))
def zSd (x0:zS) (x1:Int) (s9:(List (List Int)) × Int):Option (((List (List Int)) × Int) ⊕ (List (List Int))) :=
 cond (decide (s9.2 < (x0.p.zA.length:Int))) (
  (zKK x0).bind fun r2 =>
  (zI (zO9 x0 x1 s9) (r2.x,r2.v,0)).bind fun r8 =>
  (zMj x0 s9.2).bind fun r9 =>
  (f_f x0 x1 r9).bind fun r10 =>
  (zKL x0 (zJ.mk r8.1 r8.2) r10).bind fun r11 =>
  (xP s9.1 [r11]).bind fun v12 =>
  (rng (s9.2 + 1)).bind fun v13 =>
  (zI (zOA x0 x1 s9) (v12,v13)).bind fun r25 =>
  (rng (s9.2 + 1)).bind fun v26 =>
  some (.inl (r25,v26))) (
  some (.inr s9.1))
def zSe (x0:zS) (x1:Int) (s20:(List Int) × (List Int) × Int):Option (((List Int) × (List Int) × Int) ⊕ ((List Int) × (List Int))) :=
 (ixO x0.p.zA x1).bind fun v35 =>
 cond (decide (s20.2.2 < v35)) (
  (f_f x0 x1 (zJ.mk s20.1 s20.2.1)).bind fun r36 =>
  (rng (s20.2.2 + 1)).bind fun v37 =>
  some (.inl (r36.x,r36.v,v37))) (
  some (.inr (s20.1,s20.2.1)))
def zOB (x0:zS) (x1:Int) (r28:zJ) (s19:(List (List Int)) × Int):Option (((List (List Int)) × Int) ⊕ (List (List Int))) :=
 cond (decide (s19.2 < (x0.p.zA.length:Int))) (
  (zKK x0).bind fun r33 =>
  (ixO r33.x s19.2).bind fun _ =>
  (zI (zSe x0 x1) (r33.x.set s19.2.toNat 1,r33.v,0)).bind fun r38 =>
  (rng (x1 + 1)).bind fun v39 =>
  (f_d x0 v39 r28 (zJ.mk r38.1 r38.2)).bind fun r40 =>
  (rng (x1 + 1)).bind fun v41 =>
  (f_d x0 v41 (zJ.mk (r33.x.set s19.2.toNat 1) r33.v) r28).bind fun r42 =>
  (zKL x0 r40 r42).bind fun r43 =>
  (xP s19.1 [r43]).bind fun v44 =>
  (rng (s19.2 + 1)).bind fun v45 =>
  some (.inl (v44,v45))) (
  some (.inr s19.1))
def f_h (x0:zS) (x1:Int):Option (List (List Int)) :=
 (rng (x1 + 1)).bind fun v1 =>
 (zI (zSd x0 x1) ([],v1)).bind fun r27 =>
 (zMj x0 x1).bind fun r28 =>
 (f_f x0 x1 r28).bind fun r29 =>
 (zKL x0 r29 r28).bind fun r30 =>
 (xP r27 [r30]).bind fun v31 =>
 (rng (x1 + 1)).bind fun v32 =>
 (zI (zOB x0 x1 r28) (v31,v32)).bind fun r46 =>
 some r46
def zKM (x0:zS) (s1:(List (List Int)) × Int):Option (((List (List Int)) × Int) ⊕ (List (List Int))) :=
 cond (decide (s1.2 < (x0.p.zA.length:Int))) (
  (f_h x0 s1.2).bind fun r1 =>
  (xP s1.1 r1).bind fun v2 =>
  (rng (s1.2 + 1)).bind fun v3 =>
  some (.inl (v2,v3))) (
  some (.inr s1.1))
def zT3 (x0:zS):Option (List (List Int)) :=
 (zI (zKM x0) ([],0)).bind fun r4 =>
 some r4
def zKN (r1:(List (List Int))) (s1:Int):Option (Int ⊕ (Unit ⊕ Bool)) :=
 cond (decide (s1 < (r1.length:Int))) (
  (ixO r1 s1).bind fun v2 =>
  (zRY v2).bind fun r3 =>
  cond (!r3) (
   some (.inr (.inr false))) (
   (rng (s1 + 1)).bind fun v4 =>
   some (.inl v4))) (
  some (.inr (.inl ())))
def zSf (x0:SPr) (x1:zD) (x2:List (List Int)):Option Bool :=
 (zT3 (zS.mk x0 x1 x2)).bind fun r1 =>
 (zI (zKN r1) 0).bind fun r5 =>
 match r5 with
 | (.inl r5) =>
  some true
 | (.inr r5) =>
  some r5
def zT4 (x0:SPr) (x1:zD) (x2:List (List Int)):Option Bool :=
 (zT0 x0).bind fun r1 =>
 cond ((x2.length:Int) == r1) (
  (zV4 x1 x2).bind fun r2 =>
  some r2) (
  some false)
def zT5 (x0:SPr) (x1:zD) (x2:List (List Int)):Option Bool :=
 (f_j x0 x1 x2).bind fun r1 =>
 (f_O r1).bind fun r2 =>
 some (r2 == 0)
def zT6 (x0:Int):Option Bool :=
 some (x0 != 0)
def zHX (x0:List Int) (s1:Int):Option (Int ⊕ (Unit ⊕ Int)) :=
 cond (decide (s1 < (x0.length:Int))) (
  (ixO x0 s1).bind fun v1 =>
  (zT6 v1).bind fun r2 =>
  cond r2 (
   some (.inr (.inr s1))) (
   (rng (s1 + 1)).bind fun v3 =>
   some (.inl v3))) (
  some (.inr (.inl ())))
def zT7 (x0:List Int):Option Int :=
 (zI (zHX x0) 0).bind fun r4 =>
 match r4 with
 | (.inl r4) =>
  some (-1)
 | (.inr r4) =>
  some r4
def zKO (x0:List (List Int)) (s1:(List Int) × Int):Option (((List Int) × Int) ⊕ (List Int)) :=
 cond (decide (s1.2 < (x0.length:Int))) (
  (ixO x0 s1.2).bind fun v1 =>
  (zT7 v1).bind fun r2 =>
  (xP s1.1 [r2]).bind fun v3 =>
  (rng (s1.2 + 1)).bind fun v4 =>
  some (.inl (v3,v4))) (
  some (.inr s1.1))
def zSg (x0:List (List Int)):Option (List Int) :=
 (zI (zKO x0) ([],0)).bind fun r5 =>
 some r5
def zHY (x0:zV) (r2:(List Int)) (s1:(List Int) × Int):Option (((List Int) × Int) ⊕ (List Int)) :=
 cond (decide (s1.2 < (r2.length:Int))) (
  (ixO r2 s1.2).bind fun v3 =>
  (ixO x0.Rows s1.2).bind fun v4 =>
  (ixO s1.1 v3).bind fun v5 =>
  (rng (0 - v5)).bind fun v6 =>
  (f_s s1.1 v4 v6 x0.Prime).bind fun r7 =>
  (rng (s1.2 + 1)).bind fun v8 =>
  some (.inl (r7,v8))) (
  some (.inr s1.1))
def zT8 (x0:zV) (x1:List Int):Option (List Int) :=
 (f_w x1).bind fun r1 =>
 (zSg x0.Rows).bind fun r2 =>
 (zI (zHY x0 r2) (r1,0)).bind fun r9 =>
 some r9
def zKP (x0:List (List Int)) (s1:(List Int) × Int):Option (((List Int) × Int) ⊕ (List Int)) :=
 cond (decide (s1.2 < (x0.length:Int))) (
  (ixO x0 s1.2).bind fun v1 =>
  (xP s1.1 v1).bind fun v2 =>
  (rng (s1.2 + 1)).bind fun v3 =>
  some (.inl (v2,v3))) (
  some (.inr s1.1))
def zOC (x0:List (List Int)):Option (List Int) :=
 (zI (zKP x0) ([],0)).bind fun r4 =>
 some r4
def zOD (x2:Int) (r2:(List (List Int))) (s1:(List (List Int)) × Int):Option (((List (List Int)) × Int) ⊕ (List (List Int))) :=
 cond (decide (s1.2 < (r2.length:Int))) (
  (ixO r2 s1.2).bind fun v3 =>
  (zT v3 0 x2).bind fun v4 =>
  (f_A v4).bind fun r5 =>
  cond r5 (
   (zT v3 x2 v3.length).bind fun v6 =>
   (xP s1.1 [v6]).bind fun v7 =>
   (rng (s1.2 + 1)).bind fun v8 =>
   some (.inl (v7,v8))) (
   (rng (s1.2 + 1)).bind fun v9 =>
   some (.inl (s1.1,v9)))) (
  some (.inr s1.1))
def f_S (x0:Int) (x1:List (List Int)) (x2:Int):Option (List (List Int)) :=
 (f_L x1).bind fun r1 =>
 (f_g x0 r1).bind fun r2 =>
 (zI (zOD x2 r2) ([],0)).bind fun r10 =>
 (f_g x0 r10).bind fun r11 =>
 some r11
def zOE (x0:List Int) (x1:Int) (s1:(List (List Int)) × Int):Option (((List (List Int)) × Int) ⊕ (List (List Int))) :=
 (rng (s1.2 + x1)).bind fun v1 =>
 cond (decide (v1 ≤ (x0.length:Int))) (
  (rng (s1.2 + x1)).bind fun v2 =>
  (zT x0 s1.2 v2).bind fun v3 =>
  (f_r v3).bind fun r4 =>
  (xP s1.1 [r4]).bind fun v5 =>
  (rng (s1.2 + x1)).bind fun v6 =>
  some (.inl (v5,v6))) (
  some (.inr s1.1))
def f_U (x0:List Int) (x1:Int):Option (List (List Int)) :=
 (zI (zOE x0 x1) ([],0)).bind fun r7 =>
 some r7
def zSh (x0:SPr) (x1:zD) (x2:List (List Int)) (s5:(List (List Int)) × Int) (s6:(List Int) × Int):Option (((List Int) × Int) ⊕ (List Int)) :=
 (ixO x0.zA s5.2).bind fun v2 =>
 cond (decide (s6.2 < v2)) (
  (zKH x1 x2 s6.1 s5.2).bind fun r3 =>
  (rng (s6.2 + 1)).bind fun v4 =>
  some (.inl (r3,v4))) (
  some (.inr s6.1))
def zSi (x0:SPr) (x1:zD) (x2:List (List Int)) (m1:Nat) (s5:(List (List Int)) × Int):Option (((List (List Int)) × Int) ⊕ (List (List Int))) :=
 cond (decide (s5.2 < (x0.zA.length:Int))) (
  (zI (zSh x0 x1 x2 s5) (List.replicate m1 (0:Int),0)).bind fun r5 =>
  (rng (x1.Prime - 1)).bind fun v6 =>
  (ixO x0.zW s5.2).bind fun v7 =>
  (f_D x1 x2 (List.replicate m1 (0:Int)) v7).bind fun r8 =>
  (f_o x1.Prime r5 v6 r8).bind fun r9 =>
  (xP s5.1 [r9]).bind fun v10 =>
  (rng (s5.2 + 1)).bind fun v11 =>
  some (.inl (v10,v11))) (
  some (.inr s5.1))
def zSj (x0:SPr) (x1:zD) (x2:List (List Int)) (m1:Nat) (s13:(List (List Int)) × Int) (s14:(List (List Int)) × Int):Option (((List (List Int)) × Int) ⊕ (List (List Int))) :=
 cond (decide (s14.2 < (x0.zA.length:Int))) (
  (zKH x1 x2 (List.replicate m1 (0:Int)) s14.2).bind fun r14 =>
  (zKH x1 x2 r14 s13.2).bind fun r15 =>
  (zKH x1 x2 (List.replicate m1 (0:Int)) s13.2).bind fun r16 =>
  (ixO x0.zC s13.2).bind fun v17 =>
  (rng (s14.2 - s13.2)).bind fun v18 =>
  (rng (v18 - 1)).bind fun v19 =>
  (ixO v17 v19).bind fun v20 =>
  (f_D x1 x2 r16 v20).bind fun r21 =>
  (rng (x1.Prime - 1)).bind fun v22 =>
  (f_o x1.Prime r15 v22 r21).bind fun r23 =>
  (xP s14.1 [r23]).bind fun v24 =>
  (rng (s14.2 + 1)).bind fun v25 =>
  some (.inl (v24,v25))) (
  some (.inr s14.1))
def zOF (x0:SPr) (x1:zD) (x2:List (List Int)) (m1:Nat) (s13:(List (List Int)) × Int):Option (((List (List Int)) × Int) ⊕ (List (List Int))) :=
 cond (decide (s13.2 < (x0.zA.length:Int))) (
  (rng (s13.2 + 1)).bind fun v13 =>
  (zI (zSj x0 x1 x2 m1 s13) (s13.1,v13)).bind fun r26 =>
  (rng (s13.2 + 1)).bind fun v27 =>
  some (.inl (r26,v27))) (
  some (.inr s13.1))
def f_n (x0:SPr) (x1:zD) (x2:List (List Int)):Option (List (List Int)) :=
 (yS x1.Dim).bind fun m1 =>
 (zI (zSi x0 x1 x2 m1) ([],0)).bind fun r12 =>
 (zI (zOF x0 x1 x2 m1) (r12,0)).bind fun r28 =>
 some r28
def zKQ (x0:SPr) (x1:zD) (v1:Int) (s1:(List (List Int)) × Int):Option (((List (List Int)) × Int) ⊕ (List (List Int))) :=
 cond (decide (s1.2 < v1)) (
  (yS v1).bind fun m2 =>
  (ixO (List.replicate m2 (0:Int)) s1.2).bind fun _ =>
  (f_U ((List.replicate m2 (0:Int)).set s1.2.toNat 1) x1.Dim).bind fun r4 =>
  (f_n x0 x1 r4).bind fun r5 =>
  (zOC r5).bind fun r6 =>
  (xP s1.1 [r6]).bind fun v7 =>
  (rng (s1.2 + 1)).bind fun v8 =>
  some (.inl (v7,v8))) (
  some (.inr s1.1))
def zT9 (x0:SPr) (x1:zD):Option (List (List Int)) :=
 (rng ((x0.zA.length:Int) * x1.Dim)).bind fun v1 =>
 (zI (zKQ x0 x1 v1) ([],0)).bind fun r9 =>
 some r9
def zKR (x0:SPr) (x1:zD) (v1:Int) (s1:(List (List Int)) × Int):Option (((List (List Int)) × Int) ⊕ (List (List Int))) :=
 cond (decide (s1.2 < v1)) (
  (zIO v1 s1.2).bind fun r2 =>
  (f_T r2 x1.Dim).bind fun r3 =>
  (zSa x0 x1 r3).bind fun r4 =>
  (f_u r4).bind fun r5 =>
  (xP s1.1 [r5]).bind fun v6 =>
  (rng (s1.2 + 1)).bind fun v7 =>
  some (.inl (v6,v7))) (
  some (.inr s1.1))
def zTA (x0:SPr) (x1:zD):Option (List (List Int)) :=
 (rng ((x0.zA.length:Int) * x1.Dim)).bind fun v1 =>
 (zI (zKR x0 x1 v1) ([],0)).bind fun r8 =>
 some r8
def zTB (x0:SPr) (x1:zD) (x2:List (List Int)) (x3:List (List Int)):Option Int :=
 (zTl x0 x1).bind fun r1 =>
 cond (!r1) (
  some 1) (
  (zSb x0 x1 x2).bind fun r2 =>
  cond (!r2) (
   some 1) (
   (zSb x0 x1 x3).bind fun r3 =>
   cond (!r3) (
    some 1) (
    (zSf x0 x1 x2).bind fun r4 =>
    cond (!r4) (
     some 5) (
     (zSf x0 x1 x3).bind fun r5 =>
     cond (!r5) (
      some 5) (
      some 0)))))
def zSk (x0:SPr) (x1:zD) (x2:List (List (List Int))) (s1:Int):Option (Int ⊕ (Unit ⊕ Int)) :=
 cond (decide (s1 < (x2.length:Int))) (
  (ixO x2 s1).bind fun v2 =>
  (zT4 x0 x1 v2).bind fun r3 =>
  cond (!r3) (
   some (.inr (.inr 1))) (
   (rng (s1 + 1)).bind fun v4 =>
   some (.inl v4))) (
  some (.inr (.inl ())))
def zSl (x0:SPr) (x1:zD) (x2:List (List (List Int))) (s3:Int):Option (Int ⊕ (Unit ⊕ Int)) :=
 cond (decide (s3 < (x2.length:Int))) (
  (ixO x2 s3).bind fun v6 =>
  (zT5 x0 x1 v6).bind fun r7 =>
  cond (!r7) (
   some (.inr (.inr 5))) (
   (rng (s3 + 1)).bind fun v8 =>
   some (.inl v8))) (
  some (.inr (.inl ())))
def f_M (x0:SPr) (x1:zD) (x2:List (List (List Int))):Option Int :=
 (f_C x0 x1).bind fun r1 =>
 cond (!r1) (
  some 1) (
  (zI (zSk x0 x1 x2) 0).bind fun r5 =>
  match r5 with
  | (.inl r5) =>
   (zI (zSl x0 x1 x2) 0).bind fun r9 =>
   match r9 with
   | (.inl r9) =>
    some 0
   | (.inr r9) =>
    some r9
  | (.inr r5) =>
   some r5)
def zOG (x2:Int) (r1:(List (List Int))) (s1:(List (List Int)) × Int):Option (((List (List Int)) × Int) ⊕ (List (List Int))) :=
 cond (decide (s1.2 < (r1.length:Int))) (
  (ixO r1 s1.2).bind fun v4 =>
  (f_x v4).bind fun r5 =>
  cond (decide (r5 < x2)) (
   (ixO r1 s1.2).bind fun v6 =>
   (xP s1.1 [v6]).bind fun v7 =>
   (rng (s1.2 + 1)).bind fun v8 =>
   some (.inl (v7,v8))) (
   (rng (s1.2 + 1)).bind fun v9 =>
   some (.inl (s1.1,v9)))) (
  some (.inr s1.1))
def f_Q (x0:Int) (x1:List (List Int)) (x2:Int) (x3:List Int):Option ((List Int) × Bool) :=
 (f_R x0 x1).bind fun r1 =>
 (f_r x3).bind fun r2 =>
 (wZ r2 (x1.length:Int) (0:Int)).bind fun v3 =>
 (zI (zOG x2 r1) ([],0)).bind fun r10 =>
 (zOy x0 r10 v3).bind fun r11 =>
 (zT r11 0 x2).bind fun v12 =>
 (zRY v12).bind fun r13 =>
 cond (!r13) (
  some ([],false)) (
  (rng (x0 - 1)).bind fun v14 =>
  (zT r11 x2 r11.length).bind fun v15 =>
  (zOz x0 v14 v15).bind fun r16 =>
  (zTy x0 x1 x2).bind fun r17 =>
  (zOy x0 r17 r16).bind fun r18 =>
  some (r18,true))
def zV5 (x0:Int) (x1:List (List Int)):Option zV :=
 (ixO x1 0).bind fun v1 =>
 some (zV.mk x0 (v1.length:Int) x1)
def zTC (x0:Int):Option Bool :=
 some (x0 != 0)
def zHZ (x0:List Int) (s1:Int):Option (Int ⊕ (Unit ⊕ Int)) :=
 cond (decide (s1 < (x0.length:Int))) (
  (ixO x0 s1).bind fun v1 =>
  (zTC v1).bind fun r2 =>
  cond r2 (
   some (.inr (.inr s1))) (
   (rng (s1 + 1)).bind fun v3 =>
   some (.inl v3))) (
  some (.inr (.inl ())))
def zTD (x0:List Int):Option Int :=
 (zI (zHZ x0) 0).bind fun r4 =>
 match r4 with
 | (.inl r4) =>
  some (-1)
 | (.inr r4) =>
  some r4
def zV6 (x0:zV):Option zV :=
 (f_S x0.Prime x0.Rows x0.xJ).bind fun r1 =>
 some (zV.mk x0.Prime (x0.Rows.length:Int) r1)
def zOH (x0:zV) (r4:(List (List Int))) (s1:(List Int) × Int):Option (((List Int) × Int) ⊕ (List Int)) :=
 cond (decide (s1.2 < (r4.length:Int))) (
  (ixO r4 s1.2).bind fun v5 =>
  (zTD v5).bind fun r6 =>
  cond (decide (r6 < x0.xJ)) (
   (ixO s1.1 r6).bind fun v7 =>
   (rng (0 - v7)).bind fun v8 =>
   (f_s s1.1 v5 v8 x0.Prime).bind fun r9 =>
   (rng (s1.2 + 1)).bind fun v10 =>
   some (.inl (r9,v10))) (
   (rng (s1.2 + 1)).bind fun v11 =>
   some (.inl (s1.1,v11)))) (
  some (.inr s1.1))
def zOI (x0:zV) (r12:(List Int)) (s3:(List Int) × Int):Option (((List Int) × Int) ⊕ (List Int)) :=
 cond (decide (s3.2 < (((r12.length:Int).toNat - (x0.xJ:Int).toNat:Nat):Int))) (
  (zT s3.1 x0.xJ r12.length).bind fun v16 =>
  (ixO v16 s3.2).bind fun v17 =>
  (rng (0 - v17)).bind fun v18 =>
  (zHf v18 x0.Prime).bind fun r19 =>
  (zT s3.1 x0.xJ r12.length).bind fun v20 =>
  (ixO v20 s3.2).bind fun _ =>
  (rng (s3.2 + 1)).bind fun v22 =>
  some (.inl (s3.1.set (x0.xJ + s3.2).toNat r19,v22))) (
  some (.inr s3.1))
def f_y (x0:zV) (x1:List Int):Option ((List Int) × Bool) :=
 (f_w x1).bind fun r1 =>
 (wZ r1 (x0.Rows.length:Int) (0:Int)).bind fun v2 =>
 (f_L x0.Rows).bind fun r3 =>
 (f_g x0.Prime r3).bind fun r4 =>
 (zI (zOH x0 r4) (v2,0)).bind fun r12 =>
 (zT r12 0 x0.xJ).bind fun v13 =>
 (f_A v13).bind fun r14 =>
 cond (!r14) (
  some ([],false)) (
  (zT r12 x0.xJ r12.length).bind fun _ =>
  (zI (zOI x0 r12) (r12,0)).bind fun r23 =>
  (zV6 x0).bind fun r24 =>
  (zT r23 x0.xJ r12.length).bind fun v25 =>
  (zT8 r24 v25).bind fun r26 =>
  some (r26,true))
def zOJ (x0:SPr) (x1:zD) (x2:List Int):Option ((List (List Int)) × Bool) :=
 cond ((x0.zA.length:Int) == 0) (
  some ([],true)) (
  (yS (x2.length:Int)).bind fun m1 =>
  (f_s (List.replicate m1 (0:Int)) x2 (-1) x1.Prime).bind fun r2 =>
  (zTA x0 x1).bind fun r3 =>
  (zV5 x1.Prime r3).bind fun r4 =>
  (f_y r4 r2).bind fun r5 =>
  cond (!r5.2) (
   some ([],false)) (
   (f_T r5.1 x1.Dim).bind fun r6 =>
   some (r6,true)))
def zTE (x0:SPr) (x1:zD) (x2:List (List Int)):Option ((List (List Int)) × Bool) :=
 (zOC x2).bind fun r1 =>
 (zT9 x0 x1).bind fun r2 =>
 (rng (x1.Prime - 1)).bind fun v3 =>
 (zOz x1.Prime v3 r1).bind fun r4 =>
 (f_Q x1.Prime r2 (r1.length:Int) r4).bind fun r5 =>
 cond (!r5.2) (
  some ([],false)) (
  (f_U r5.1 x1.Dim).bind fun r6 =>
  some (r6,true))
def zSm (x0:SPr) (x1:zD) (x2:List (List Int)):Option ((List (List Int)) × Int) :=
 (zTB x0 x1 x2 x2).bind fun r1 =>
 cond (r1 != 0) (
  some ([],r1)) (
  (zTE x0 x1 x2).bind fun r2 =>
  cond (!r2.2) (
   some ([],4)) (
   some (r2.1,0)))
def zOK (x0:SPr) (x1:zD) (x2:List (List Int)):Option ((List (List Int)) × Int) :=
 (f_M x0 x1 [x2]).bind fun r1 =>
 cond (r1 != 0) (
  some ([],r1)) (
  (f_u x2).bind fun r2 =>
  (zOJ x0 x1 r2).bind fun r3 =>
  cond (!r3.2) (
   some ([],4)) (
   some (r3.1,0)))
def zSn (x0:SPr) (x1:zD) (x2:List (List Int)):Option Bool :=
 (zTc x0 1048576).bind fun r1 =>
 cond (decide (r1 < 0)) (
  some true) (
  (zTd x1 r1).bind fun r2 =>
  cond (decide (r2 < 0)) (
   some true) (
   (zQM x2 r2).bind fun r3 =>
   cond (decide (r3 < 0)) (
    some true) (
    (zLY x0).bind fun r4 =>
    (zLZ x1).bind fun r5 =>
    (f_E x2).bind fun r6 =>
    (zSm r4 r5 r6).bind fun r7 =>
    (zLY x0).bind fun r8 =>
    (zLZ x1).bind fun r9 =>
    (f_E x2).bind fun r10 =>
    (zOK r8 r9 r10).bind fun r11 =>
    (f_H r11.1 r7.1).bind fun r12 =>
    cond (!r12) (
     some false) (
     cond (r11.2 != r7.2) (
      some false) (
      (zLY x0).bind fun r13 =>
      (zTu r8 r13).bind fun r14 =>
      cond (!r14) (
       some false) (
       (zLZ x1).bind fun r15 =>
       (zTt r9 r15).bind fun r16 =>
       cond (!r16) (
        some false) (
        (f_E x2).bind fun r17 =>
        (f_H r10 r17).bind fun r18 =>
        cond (!r18) (
         some false) (
         (zRO r8 1).bind fun r19 =>
         (zRP r9 r19.1).bind fun r20 =>
         (f_N r10 r20.1).bind fun r21 =>
         cond (decide (r21.1 < 0)) (
          some false) (
          (f_H r11.1 r7.1).bind fun r22 =>
          cond (!r22) (
           some false) (
           cond (r11.2 != r7.2) (
            some false) (
            (f_N r11.1 1).bind fun r23 =>
            (zTv r23.2 1).bind fun r24 =>
            cond (decide (r24 < 0)) (
             some false) (
             cond (r24 != r23.1) (
              some false) (
              (zLY x0).bind fun r25 =>
              (zLZ x1).bind fun r26 =>
              (f_E x2).bind fun r27 =>
              (zOK r25 r26 r27).bind fun r28 =>
              (f_H r28.1 r7.1).bind fun r29 =>
              cond (!r29) (
               some false) (
               cond (r28.2 != r7.2) (
                some false) (
                (zTv r23.2 1).bind fun r30 =>
                cond (decide (r30 < 0)) (
                 some false) (
                 cond (r30 != r23.1) (
                  some false) (
                  some true)))))))))))))))))
end Go.Wk
