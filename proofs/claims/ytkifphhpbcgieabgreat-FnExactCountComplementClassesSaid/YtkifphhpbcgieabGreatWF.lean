/- The program and the reference count the same classes of complements, for all arguments (FnExactCountComplementClasses). This file is a part of the proof. -/
import Derived.Test.YtkifphhpbcgieabGreatAbC
noncomputable section
namespace Go.Wk
open Go Go.Ab
structure SPr where
 zA:List Int
 zT:List (List Int)
 zC:List (List (List Int))
abbrev wF (x:SPr):T:=.agg [(L 1 I) x.zA,(L 1 (L 1 I)) x.zT,(L 1 (L 1 (L 1 I))) x.zC]
instance:Enc wF:=.of fun _ => zPy ⟨Enc.t (f:=(L 1 I)) inferInstance _,Enc.t (f:=(L 1 (L 1 I))) inferInstance _,Enc.t (f:=(L 1 (L 1 (L 1 I)))) inferInstance _,trivial⟩
structure zB where
 Prime:Int
 Dim:Int
 zI:List (List (List Int))
abbrev yP (x:zB):T:=.agg [I x.Prime,I x.Dim,(L 1 (L 1 (L 1 I))) x.zI]
instance:Enc yP:=.of fun _ => zPy ⟨Enc.t (f:=I) inferInstance _,Enc.t (f:=I) inferInstance _,Enc.t (f:=(L 1 (L 1 (L 1 I)))) inferInstance _,trivial⟩
structure yS where
 Kind:Int
 zUt:Int
 zUu:Int
 zSg:Int
abbrev zFp (x:yS):T:=.agg [I x.Kind,I x.zUt,I x.zUu,I x.zSg]
instance:Enc zFp:=.of fun _ => zPy ⟨Enc.t (f:=I) inferInstance _,Enc.t (f:=I) inferInstance _,Enc.t (f:=I) inferInstance _,Enc.t (f:=I) inferInstance _,trivial⟩
structure zS where
 Prime:Int
 xS:Int
 Rows:List (List Int)
abbrev zAN (x:zS):T:=.agg [I x.Prime,I x.xS,(L 1 (L 1 I)) x.Rows]
instance:Enc zAN:=.of fun _ => zPy ⟨Enc.t (f:=I) inferInstance _,Enc.t (f:=I) inferInstance _,Enc.t (f:=(L 1 (L 1 I))) inferInstance _,trivial⟩
structure zP where
 p:SPr
 m:zB
 zKO:List (List Int)
structure zE where
 x:List Int
 v:List Int
abbrev yO (x:zE):T:=.agg [(L 1 I) x.x,(L 1 I) x.v]
instance:Enc yO:=.of fun _ => zPy ⟨Enc.t (f:=(L 1 I)) inferInstance _,Enc.t (f:=(L 1 I)) inferInstance _,trivial⟩
def zQE (x0:List Int) (x1:Int):Option Int :=
 (rng (x1 - (x0.length:Int))).bind fun v1 =>
 cond (decide (v1 < 0)) (
  some (-1)) (
  some v1)
def zUq (x0:List (List Int)) (s1:Int × Int):Option ((Int × Int) ⊕ (Int ⊕ Int)) :=
 cond (decide (s1.2 < (x0.length:Int))) (
  (ixO x0 s1.2).bind fun v2 =>
  (zQE v2 s1.1).bind fun r3 =>
  cond (decide (r3 < 0)) (
   some (.inr (.inr (-1)))) (
   (rng (s1.2 + 1)).bind fun v4 =>
   some (.inl (r3,v4)))) (
  some (.inr (.inl s1.1)))
def zQF (x0:List (List Int)) (x1:Int):Option Int :=
 (rng (x1 - (x0.length:Int))).bind fun v1 =>
 cond (decide (v1 < 0)) (
  some (-1)) (
  (zG (zUq x0) (v1,0)).bind fun r5 =>
  match r5 with
  | (.inl r5) =>
   some r5
  | (.inr r5) =>
   some r5)
def zUr (x0:List (List (List Int))) (s1:Int × Int):Option ((Int × Int) ⊕ (Int ⊕ Int)) :=
 cond (decide (s1.2 < (x0.length:Int))) (
  (ixO x0 s1.2).bind fun v2 =>
  (zQF v2 s1.1).bind fun r3 =>
  cond (decide (r3 < 0)) (
   some (.inr (.inr (-1)))) (
   (rng (s1.2 + 1)).bind fun v4 =>
   some (.inl (r3,v4)))) (
  some (.inr (.inl s1.1)))
def zSU (x0:List (List (List Int))) (x1:Int):Option Int :=
 (rng (x1 - (x0.length:Int))).bind fun v1 =>
 cond (decide (v1 < 0)) (
  some (-1)) (
  (zG (zUr x0) (v1,0)).bind fun r5 =>
  match r5 with
  | (.inl r5) =>
   some r5
  | (.inr r5) =>
   some r5)
def zSV (x0:SPr) (x1:Int):Option Int :=
 (zQE x0.zA x1).bind fun r1 =>
 cond (decide (r1 < 0)) (
  some (-1)) (
  (zQF x0.zT r1).bind fun r2 =>
  cond (decide (r2 < 0)) (
   some (-1)) (
   (zSU x0.zC r2).bind fun r3 =>
   cond (decide (r3 < 0)) (
    some (-1)) (
    some r3)))
def zSW (x0:zB) (x1:Int):Option Int :=
 (zSU x0.zI x1).bind fun r1 =>
 cond (decide (r1 < 0)) (
  some (-1)) (
  some r1)
def zQG (x0:List Int) (s1:(List Int) × Int):Option (((List Int) × Int) ⊕ (List Int)) :=
 cond (decide (s1.2 < (x0.length:Int))) (
  (ixO x0 s1.2).bind fun v2 =>
  (ixO s1.1 s1.2).bind fun _ =>
  (rng (s1.2 + 1)).bind fun v4 =>
  some (.inl (s1.1.set s1.2.toNat v2,v4))) (
  some (.inr s1.1))
def zOh (x0:List Int):Option (List Int) :=
 (yU (x0.length:Int)).bind fun m1 =>
 (zG (zQG x0) (List.replicate m1 (0:Int),0)).bind fun r5 =>
 some r5
def zVz (x0:List (List Int)) (s1:(List (List Int)) × Int):Option (((List (List Int)) × Int) ⊕ (List (List Int))) :=
 cond (decide (s1.2 < (x0.length:Int))) (
  (ixO x0 s1.2).bind fun v2 =>
  (zOh v2).bind fun r3 =>
  (ixO s1.1 s1.2).bind fun _ =>
  (rng (s1.2 + 1)).bind fun v5 =>
  some (.inl (s1.1.set s1.2.toNat r3,v5))) (
  some (.inr s1.1))
def f_R (x0:List (List Int)):Option (List (List Int)) :=
 (yU (x0.length:Int)).bind fun m1 =>
 (zG (zVz x0) (List.replicate m1 ([]:List Int),0)).bind fun r6 =>
 some r6
def zQH (x0:List (List (List Int))) (s1:(List (List (List Int))) × Int):Option (((List (List (List Int))) × Int) ⊕ (List (List (List Int)))) :=
 cond (decide (s1.2 < (x0.length:Int))) (
  (ixO x0 s1.2).bind fun v2 =>
  (f_R v2).bind fun r3 =>
  (ixO s1.1 s1.2).bind fun _ =>
  (rng (s1.2 + 1)).bind fun v5 =>
  some (.inl (s1.1.set s1.2.toNat r3,v5))) (
  some (.inr s1.1))
def zQI (x0:List (List (List Int))):Option (List (List (List Int))) :=
 (yU (x0.length:Int)).bind fun m1 =>
 (zG (zQH x0) (List.replicate m1 ([]:List (List Int)),0)).bind fun r6 =>
 some r6
def zOi (x0:SPr):Option SPr :=
 (zOh x0.zA).bind fun r1 =>
 (f_R x0.zT).bind fun r2 =>
 (zQI x0.zC).bind fun r3 =>
 some (SPr.mk r1 r2 r3)
def zOj (x0:zB):Option zB :=
 (zQI x0.zI).bind fun r1 =>
 some (zB.mk x0.Prime x0.Dim r1)
def zSX (x0:Int):Option Bool :=
 cond (x0 == 2) (
  some true) (
  cond (x0 == 3) (
   some true) (
   cond (x0 == 5) (
    some true) (
    some (x0 == 7))))
def zKt (x0:List Int) (s1:Int × Int):Option ((Int × Int) ⊕ Int) :=
 cond (decide (s1.2 < (x0.length:Int))) (
  cond (decide (s1.1 ≤ 729)) (
   (ixO x0 s1.2).bind fun v1 =>
   (rng (s1.1 * v1)).bind fun v2 =>
   (rng (s1.2 + 1)).bind fun v3 =>
   some (.inl (v2,v3))) (
   (rng (s1.2 + 1)).bind fun v4 =>
   some (.inl (s1.1,v4)))) (
  some (.inr s1.1))
def zSY (x0:List Int):Option Int :=
 (zG (zKt x0) (1,0)).bind fun r5 =>
 some r5
def zQJ (x0:Int) (x1:Int) (x2:Int):Option Bool :=
 cond (decide (x0 ≥ x1)) (
  some (decide (x0 ≤ x2))) (
  some false)
def zNu (x0:List Int) (x1:List Int) (x2:Int) (s1:Int):Option (Int ⊕ (Unit ⊕ Bool)) :=
 cond (decide (s1 < (x1.length:Int))) (
  (ixO x1 s1).bind fun v1 =>
  (ixO x0 s1).bind fun v2 =>
  (rng (v2 - 1)).bind fun v3 =>
  (zQJ v1 0 v3).bind fun r4 =>
  cond (!r4) (
   some (.inr (.inr false))) (
   cond (decide (s1 ≤ x2)) (
    (ixO x1 s1).bind fun v5 =>
    cond (v5 != 0) (
     some (.inr (.inr false))) (
     (rng (s1 + 1)).bind fun v6 =>
     some (.inl v6))) (
    (rng (s1 + 1)).bind fun v5 =>
    some (.inl v5)))) (
  some (.inr (.inl ())))
def zQK (x0:List Int) (x1:List Int) (x2:Int):Option Bool :=
 cond ((x1.length:Int) != (x0.length:Int)) (
  some false) (
  (zG (zNu x0 x1 x2) 0).bind fun r6 =>
  match r6 with
  | (.inl r6) =>
   some true
  | (.inr r6) =>
   some r6)
def zQL (x0:SPr) (s1:Int):Option (Int ⊕ (Unit ⊕ Bool)) :=
 cond (decide (s1 < (x0.zA.length:Int))) (
  (ixO x0.zA s1).bind fun v1 =>
  (zSX v1).bind fun r2 =>
  cond (!r2) (
   some (.inr (.inr false))) (
   (rng (s1 + 1)).bind fun v3 =>
   some (.inl v3))) (
  some (.inr (.inl ())))
def zQM (x0:SPr) (s7:Int) (s8:Int):Option (Int ⊕ (Unit ⊕ Bool)) :=
 (ixO x0.zC s7).bind fun v11 =>
 cond (decide (s8 < (v11.length:Int))) (
  (ixO x0.zC s7).bind fun v12 =>
  (ixO v12 s8).bind fun v13 =>
  (zQK x0.zA v13 s7).bind fun r14 =>
  cond (!r14) (
   some (.inr (.inr false))) (
   (rng (s8 + 1)).bind fun v15 =>
   some (.inl v15))) (
  some (.inr (.inl ())))
def zLV (x0:SPr) (s7:Int):Option (Int ⊕ (Unit ⊕ Bool)) :=
 cond (decide (s7 < (x0.zA.length:Int))) (
  (ixO x0.zT s7).bind fun v6 =>
  (zQK x0.zA v6 s7).bind fun r7 =>
  cond (!r7) (
   some (.inr (.inr false))) (
   (ixO x0.zC s7).bind fun v8 =>
   (rng ((x0.zA.length:Int) - 1)).bind fun v9 =>
   (rng (v9 - s7)).bind fun v10 =>
   cond ((v8.length:Int) != v10) (
    some (.inr (.inr false))) (
    (zG (zQM x0 s7) 0).bind fun r16 =>
    match r16 with
    | (.inl r16) =>
     (rng (s7 + 1)).bind fun v17 =>
     some (.inl v17)
    | (.inr r16) =>
     some (.inr (.inr r16))))) (
  some (.inr (.inl ())))
def f_t (x0:SPr):Option Bool :=
 cond (decide ((x0.zA.length:Int) > 6)) (
  some false) (
  cond ((x0.zT.length:Int) != (x0.zA.length:Int)) (
   some false) (
   cond ((x0.zC.length:Int) != (x0.zA.length:Int)) (
    some false) (
    (zG (zQL x0) 0).bind fun r4 =>
    match r4 with
    | (.inl r4) =>
     (zSY x0.zA).bind fun r5 =>
     cond (decide (r5 > 729)) (
      some false) (
      (zG (zLV x0) 0).bind fun r18 =>
      match r18 with
      | (.inl r18) =>
       some true
      | (.inr r18) =>
       some r18)
    | (.inr r4) =>
     some r4)))
def f_s (x0:List Int):Option (List Int) :=
 (xH [] x0).bind fun v1 =>
 some v1
def zQN (g_a:SPr → Int → (List Int) → (List Int) → Option (List Int)) (x0:SPr) (x1:Int) (x2:List Int) (s5:(List Int) × Int) (s6:(List Int) × Int):Option (((List Int) × Int) ⊕ (List Int)) :=
 (ixO x2 s5.2).bind fun v3 =>
 cond (decide (s6.2 < v3)) (
  (rng (x1 + 1)).bind fun v4 =>
  (ixO x0.zC x1).bind fun v5 =>
  (rng (s5.2 - x1)).bind fun v6 =>
  (rng (v6 - 1)).bind fun v7 =>
  (ixO v5 v7).bind fun v8 =>
  (g_a x0 v4 s6.1 v8).bind fun r9 =>
  (rng (s6.2 + 1)).bind fun v10 =>
  some (.inl (r9,v10))) (
  some (.inr s6.1))
def zQO (g_a:SPr → Int → (List Int) → (List Int) → Option (List Int)) (x0:SPr) (x1:Int) (x2:List Int) (s5:(List Int) × Int):Option (((List Int) × Int) ⊕ (List Int)) :=
 cond (decide (s5.2 < (x0.zA.length:Int))) (
  (zG (zQN g_a x0 x1 x2 s5) (s5.1,0)).bind fun r11 =>
  (rng (s5.2 + 1)).bind fun v12 =>
  some (.inl (r11,v12))) (
  some (.inr s5.1))
def b_e (g_a:SPr → Int → (List Int) → (List Int) → Option (List Int)) (x0:SPr) (x1:Int) (x2:List Int):Option (List Int) :=
 (yU (x0.zA.length:Int)).bind fun m1 =>
 (rng (x1 + 1)).bind fun v2 =>
 (zG (zQO g_a x0 x1 x2) (List.replicate m1 (0:Int),v2)).bind fun r13 =>
 some r13
def zSZ (g_e:SPr → Int → (List Int) → Option (List Int)) (x0:SPr) (x1:Int) (x3:List Int) (s1:(List Int) × Int):Option (((List Int) × Int) ⊕ (List Int)) :=
 (ixO x3 x1).bind fun v6 =>
 cond (decide (s1.2 < v6)) (
  (g_e x0 x1 s1.1).bind fun r7 =>
  (rng (s1.2 + 1)).bind fun v8 =>
  some (.inl (r7,v8))) (
  some (.inr s1.1))
def b_a (g_e:SPr → Int → (List Int) → Option (List Int)) (g_a:SPr → Int → (List Int) → (List Int) → Option (List Int)) (x0:SPr) (x1:Int) (x2:List Int) (x3:List Int):Option (List Int) :=
 cond (decide (x1 ≥ (x0.zA.length:Int))) (
  (yU (x0.zA.length:Int)).bind fun m1 =>
  some (List.replicate m1 (0:Int))) (
  (f_s x2).bind fun r2 =>
  (f_s x3).bind fun r3 =>
  (ixO r2 x1).bind fun _ =>
  (ixO r3 x1).bind fun _ =>
  (zG (zSZ g_e x0 x1 x3) (r2.set x1.toNat 0,0)).bind fun r9 =>
  (rng (x1 + 1)).bind fun v10 =>
  (g_a x0 v10 r9 (r3.set x1.toNat 0)).bind fun r11 =>
  (ixO x2 x1).bind fun v12 =>
  (ixO x3 x1).bind fun v13 =>
  (rng (v12 + v13)).bind fun v14 =>
  (ixO x0.zA x1).bind fun v15 =>
  cond (decide (v14 ≥ v15)) (
   (ixO x0.zA x1).bind fun v16 =>
   (rng (v14 - v16)).bind fun v17 =>
   (rng (x1 + 1)).bind fun v18 =>
   (ixO x0.zT x1).bind fun v19 =>
   (g_a x0 v18 v19 r11).bind fun r20 =>
   (f_s r20).bind fun r21 =>
   (ixO r21 x1).bind fun _ =>
   some (r21.set x1.toNat v17)) (
   (f_s r11).bind fun r23 =>
   (ixO r23 x1).bind fun _ =>
   some (r23.set x1.toNat v14)))
mutual
def zLW:Nat → SPr → Int → (List Int) → Option (List Int)
 | 0 => fun _ _ _ => none
 | n + 1 => b_e (zLX n)
def zLX:Nat → SPr → Int → (List Int) → (List Int) → Option (List Int)
 | 0 => fun _ _ _ _ => none
 | n + 1 => b_a (zLW n) (zLX n)
end
def f_e (x0:SPr) (x1:Int) (x2:List Int):Option (List Int):=zC2 fun n => zLW n x0 x1 x2
def f_a (x0:SPr) (x1:Int) (x2:List Int) (x3:List Int):Option (List Int):=zC2 fun n => zLX n x0 x1 x2 x3
def zNv (x0:SPr) (x1:Int) (s1:Int × (List Int) × (List Int)):Option ((Int × (List Int) × (List Int)) ⊕ (List Int)) :=
 cond (decide (s1.1 > 0)) (
  (uI s1.1 2).bind fun v2 =>
  cond (v2 == 1) (
   (f_a x0 x1 s1.2.1 s1.2.2).bind fun r3 =>
   (f_a x0 x1 s1.2.2 s1.2.2).bind fun r4 =>
   (tL s1.1 2).bind fun v5 =>
   some (.inl (v5,r3,r4))) (
   (f_a x0 x1 s1.2.2 s1.2.2).bind fun r6 =>
   (tL s1.1 2).bind fun v7 =>
   some (.inl (v7,s1.2.1,r6)))) (
  some (.inr s1.2.1))
def zTa (x0:SPr) (x1:Int) (x2:List Int) (x3:Int):Option (List Int) :=
 (yU (x0.zA.length:Int)).bind fun m1 =>
 (zG (zNv x0 x1) (x3,List.replicate m1 (0:Int),x2)).bind fun r8 =>
 some r8
def zXy (x0:List Int) (x1:List Int) (s1:Int):Option (Int ⊕ (Unit ⊕ Bool)) :=
 cond (decide (s1 < (x0.length:Int))) (
  (ixO x0 s1).bind fun v1 =>
  (ixO x1 s1).bind fun v2 =>
  cond (v1 != v2) (
   some (.inr (.inr false))) (
   (rng (s1 + 1)).bind fun v3 =>
   some (.inl v3))) (
  some (.inr (.inl ())))
def f_Z (x0:List Int) (x1:List Int):Option Bool :=
 cond ((x0.length:Int) != (x1.length:Int)) (
  some false) (
  (zG (zXy x0 x1) 0).bind fun r4 =>
  match r4 with
  | (.inl r4) =>
   some true
  | (.inr r4) =>
   some r4)
def zV0 (x0:Int) (x1:Int):Option (List Int) :=
 (yU x0).bind fun m1 =>
 (ixO (List.replicate m1 (0:Int)) x1).bind fun _ =>
 some ((List.replicate m1 (0:Int)).set x1.toNat 1)
def zQP (x0:SPr) (x1:Int) (s1:Int):Option (Int ⊕ (Unit ⊕ yS)) :=
 cond (decide (s1 < (x0.zA.length:Int))) (
  (rng (x1 + 1)).bind fun v2 =>
  (ixO x0.zC x1).bind fun v3 =>
  (rng (s1 - x1)).bind fun v4 =>
  (rng (v4 - 1)).bind fun v5 =>
  (ixO v3 v5).bind fun v6 =>
  (ixO x0.zA s1).bind fun v7 =>
  (zTa x0 v2 v6 v7).bind fun r8 =>
  (ixO x0.zT s1).bind fun v9 =>
  (f_e x0 x1 v9).bind fun r10 =>
  (f_Z r8 r10).bind fun r11 =>
  cond (!r11) (
   some (.inr (.inr (yS.mk 1 x1 s1 0)))) (
   (rng (s1 + 1)).bind fun v12 =>
   some (.inl v12))) (
  some (.inr (.inl ())))
def zQQ (x0:SPr) (x1:Int) (s7:Int) (s8:Int):Option (Int ⊕ (Unit ⊕ yS)) :=
 cond (decide (s8 < (x0.zA.length:Int))) (
  (ixO x0.zC x1).bind fun v16 =>
  (rng (s7 - x1)).bind fun v17 =>
  (rng (v17 - 1)).bind fun v18 =>
  (ixO v16 v18).bind fun v19 =>
  (ixO x0.zC x1).bind fun v20 =>
  (rng (s8 - x1)).bind fun v21 =>
  (rng (v21 - 1)).bind fun v22 =>
  (ixO v20 v22).bind fun v23 =>
  (ixO x0.zC s7).bind fun v24 =>
  (rng (s8 - s7)).bind fun v25 =>
  (rng (v25 - 1)).bind fun v26 =>
  (ixO v24 v26).bind fun v27 =>
  (f_e x0 x1 v27).bind fun r28 =>
  (rng (x1 + 1)).bind fun v29 =>
  (f_a x0 v29 v23 v19).bind fun r30 =>
  (rng (x1 + 1)).bind fun v31 =>
  (f_a x0 v31 v19 r28).bind fun r32 =>
  (f_Z r30 r32).bind fun r33 =>
  cond (!r33) (
   some (.inr (.inr (yS.mk 2 x1 s7 s8)))) (
   (rng (s8 + 1)).bind fun v34 =>
   some (.inl v34))) (
  some (.inr (.inl ())))
def zQR (x0:SPr) (x1:Int) (s7:Int):Option (Int ⊕ (Unit ⊕ yS)) :=
 cond (decide (s7 < (x0.zA.length:Int))) (
  (rng (s7 + 1)).bind fun v15 =>
  (zG (zQQ x0 x1 s7) v15).bind fun r35 =>
  match r35 with
  | (.inl r35) =>
   (rng (s7 + 1)).bind fun v36 =>
   some (.inl v36)
  | (.inr r35) =>
   some (.inr (.inr r35))) (
  some (.inr (.inl ())))
def zQS (x0:SPr) (x1:Int) (s16:(List Int) × Int):Option (((List Int) × Int) ⊕ (List Int)) :=
 (ixO x0.zA x1).bind fun v43 =>
 cond (decide (s16.2 < v43)) (
  (f_e x0 x1 s16.1).bind fun r44 =>
  (rng (s16.2 + 1)).bind fun v45 =>
  some (.inl (r44,v45))) (
  some (.inr s16.1))
def zQT (x0:SPr) (x1:Int) (v38:List Int) (s15:Int):Option (Int ⊕ (Unit ⊕ yS)) :=
 cond (decide (s15 < (x0.zA.length:Int))) (
  (zV0 (x0.zA.length:Int) s15).bind fun r42 =>
  (zG (zQS x0 x1) (r42,0)).bind fun r46 =>
  (rng (x1 + 1)).bind fun v47 =>
  (f_a x0 v47 v38 r46).bind fun r48 =>
  (rng (x1 + 1)).bind fun v49 =>
  (f_a x0 v49 r42 v38).bind fun r50 =>
  (f_Z r48 r50).bind fun r51 =>
  cond (!r51) (
   some (.inr (.inr (yS.mk 4 x1 s15 0)))) (
   (rng (s15 + 1)).bind fun v52 =>
   some (.inl v52))) (
  some (.inr (.inl ())))
def f_l (x0:SPr) (x1:Int):Option yS :=
 (rng (x1 + 1)).bind fun v1 =>
 (zG (zQP x0 x1) v1).bind fun r13 =>
 match r13 with
 | (.inl r13) =>
  (rng (x1 + 1)).bind fun v14 =>
  (zG (zQR x0 x1) v14).bind fun r37 =>
  match r37 with
  | (.inl r37) =>
   (ixO x0.zT x1).bind fun v38 =>
   (f_e x0 x1 v38).bind fun r39 =>
   (f_Z r39 v38).bind fun r40 =>
   cond (!r40) (
    some (yS.mk 3 x1 0 0)) (
    (rng (x1 + 1)).bind fun v41 =>
    (zG (zQT x0 x1 v38) v41).bind fun r53 =>
    match r53 with
    | (.inl r53) =>
     some (yS.mk 0 0 0 0)
    | (.inr r53) =>
     some r53)
  | (.inr r37) =>
   some r37
 | (.inr r13) =>
  some r13
def zKu (x0:SPr) (s1:Int):Option (Int ⊕ (Unit ⊕ yS)) :=
 cond (decide (s1 ≥ 0)) (
  (f_l x0 s1).bind fun r2 =>
  cond (r2.Kind != 0) (
   some (.inr (.inr r2))) (
   (rng (s1 - 1)).bind fun v3 =>
   some (.inl v3))) (
  some (.inr (.inl ())))
def zV1 (x0:SPr):Option yS :=
 (rng ((x0.zA.length:Int) - 1)).bind fun v1 =>
 (zG (zKu x0) v1).bind fun r4 =>
 match r4 with
 | (.inl r4) =>
  some (yS.mk 0 0 0 0)
 | (.inr r4) =>
  some r4
def zV2 (x0:SPr):Option Bool :=
 (zV1 x0).bind fun r1 =>
 some (r1.Kind == 0)
def zTb (x0:SPr):Option Bool :=
 (f_t x0).bind fun r1 =>
 cond r1 (
  (zV2 x0).bind fun r2 =>
  some r2) (
  some false)
def zNw (x0:Int) (x2:List Int) (s1:Int):Option (Int ⊕ (Unit ⊕ Bool)) :=
 cond (decide (s1 < (x2.length:Int))) (
  (ixO x2 s1).bind fun v1 =>
  (rng (x0 - 1)).bind fun v2 =>
  (zQJ v1 0 v2).bind fun r3 =>
  cond (!r3) (
   some (.inr (.inr false))) (
   (rng (s1 + 1)).bind fun v4 =>
   some (.inl v4))) (
  some (.inr (.inl ())))
def zQU (x0:Int) (x1:Int) (x2:List Int):Option Bool :=
 cond ((x2.length:Int) != x1) (
  some false) (
  (zG (zNw x0 x2) 0).bind fun r5 =>
  match r5 with
  | (.inl r5) =>
   some true
  | (.inr r5) =>
   some r5)
def zNx (x0:Int) (x1:Int) (x2:List (List Int)) (s1:Int):Option (Int ⊕ (Unit ⊕ Bool)) :=
 cond (decide (s1 < (x2.length:Int))) (
  (ixO x2 s1).bind fun v1 =>
  (zQU x0 x1 v1).bind fun r2 =>
  cond (!r2) (
   some (.inr (.inr false))) (
   (rng (s1 + 1)).bind fun v3 =>
   some (.inl v3))) (
  some (.inr (.inl ())))
def zTc (x0:Int) (x1:Int) (x2:List (List Int)):Option Bool :=
 cond ((x2.length:Int) != x1) (
  some false) (
  (zG (zNx x0 x1 x2) 0).bind fun r4 =>
  match r4 with
  | (.inl r4) =>
   some true
  | (.inr r4) =>
   some r4)
def zKv (x0:Int) (s1:(List (List Int)) × Int):Option (((List (List Int)) × Int) ⊕ (List (List Int))) :=
 cond (decide (s1.2 < x0)) (
  (yU x0).bind fun m1 =>
  (ixO (List.replicate m1 (0:Int)) s1.2).bind fun _ =>
  (xH s1.1 [(List.replicate m1 (0:Int)).set s1.2.toNat 1]).bind fun v3 =>
  (rng (s1.2 + 1)).bind fun v4 =>
  some (.inl (v3,v4))) (
  some (.inr s1.1))
def f_G (x0:Int):Option (List (List Int)) :=
 (zG (zKv x0) ([],0)).bind fun r5 =>
 some r5
def zQV (x0:Int) (x1:List Int) (x2:List (List Int)) (s5:(List Int) × Int) (s6:(List Int) × Int):Option (((List Int) × Int) ⊕ (List Int)) :=
 cond (decide (s6.2 < (s6.1.length:Int))) (
  (ixO x2 s5.2).bind fun v2 =>
  cond (decide (s6.2 < (v2.length:Int))) (
   (ixO s6.1 s6.2).bind fun v3 =>
   (ixO x1 s5.2).bind fun v4 =>
   (ixO x2 s5.2).bind fun v5 =>
   (ixO v5 s6.2).bind fun v6 =>
   (rng (v4 * v6)).bind fun v7 =>
   (rng (v3 + v7)).bind fun v8 =>
   (uI v8 x0).bind fun v9 =>
   (ixO s6.1 s6.2).bind fun _ =>
   (rng (s6.2 + 1)).bind fun v11 =>
   some (.inl (s6.1.set s6.2.toNat v9,v11))) (
   some (.inr s6.1))) (
  some (.inr s6.1))
def zQW (x0:Int) (x1:List Int) (x2:List (List Int)) (s5:(List Int) × Int):Option (((List Int) × Int) ⊕ (List Int)) :=
 cond (decide (s5.2 < (x1.length:Int))) (
  cond (decide (s5.2 < (x2.length:Int))) (
   (zG (zQV x0 x1 x2 s5) (s5.1,0)).bind fun r12 =>
   (rng (s5.2 + 1)).bind fun v13 =>
   some (.inl (r12,v13))) (
   some (.inr s5.1))) (
  some (.inr s5.1))
def f_C (x0:Int) (x1:List Int) (x2:List (List Int)) (x3:Int):Option (List Int) :=
 (yU x3).bind fun m1 =>
 (zG (zQW x0 x1 x2) (List.replicate m1 (0:Int),0)).bind fun r14 =>
 some r14
def zQX (x0:Int) (x1:List (List Int)) (x2:List (List Int)) (x3:Int) (s1:(List (List Int)) × Int):Option (((List (List Int)) × Int) ⊕ (List (List Int))) :=
 cond (decide (s1.2 < (x1.length:Int))) (
  (ixO x1 s1.2).bind fun v1 =>
  (f_C x0 v1 x2 x3).bind fun r2 =>
  (xH s1.1 [r2]).bind fun v3 =>
  (rng (s1.2 + 1)).bind fun v4 =>
  some (.inl (v3,v4))) (
  some (.inr s1.1))
def f_T (x0:Int) (x1:List (List Int)) (x2:List (List Int)) (x3:Int):Option (List (List Int)) :=
 (zG (zQX x0 x1 x2 x3) ([],0)).bind fun r5 =>
 some r5
def zQY (x0:zB) (x1:List Int) (s5:(List (List Int)) × Int) (s6:(List (List Int)) × Int):Option (((List (List Int)) × Int) ⊕ (List (List Int))) :=
 (ixO x1 s5.2).bind fun v2 =>
 cond (decide (s6.2 < v2)) (
  (ixO x0.zI s5.2).bind fun v3 =>
  (f_T x0.Prime s6.1 v3 x0.Dim).bind fun r4 =>
  (rng (s6.2 + 1)).bind fun v5 =>
  some (.inl (r4,v5))) (
  some (.inr s6.1))
def zQZ (x0:zB) (x1:List Int) (s5:(List (List Int)) × Int):Option (((List (List Int)) × Int) ⊕ (List (List Int))) :=
 cond (decide (s5.2 < (x1.length:Int))) (
  (zG (zQY x0 x1 s5) (s5.1,0)).bind fun r6 =>
  (rng (s5.2 + 1)).bind fun v7 =>
  some (.inl (r6,v7))) (
  some (.inr s5.1))
def f_I (x0:zB) (x1:List Int):Option (List (List Int)) :=
 (f_G x0.Dim).bind fun r1 =>
 (zG (zQZ x0 x1) (r1,0)).bind fun r8 =>
 some r8
def zRa (x0:List (List Int)) (x1:List (List Int)) (s1:Int):Option (Int ⊕ (Unit ⊕ Bool)) :=
 cond (decide (s1 < (x0.length:Int))) (
  (ixO x0 s1).bind fun v1 =>
  (ixO x1 s1).bind fun v2 =>
  (f_Z v1 v2).bind fun r3 =>
  cond (!r3) (
   some (.inr (.inr false))) (
   (rng (s1 + 1)).bind fun v4 =>
   some (.inl v4))) (
  some (.inr (.inl ())))
def zTd (x0:List (List Int)) (x1:List (List Int)):Option Bool :=
 cond ((x0.length:Int) != (x1.length:Int)) (
  some false) (
  (zG (zRa x0 x1) 0).bind fun r5 =>
  match r5 with
  | (.inl r5) =>
   some true
  | (.inr r5) =>
   some r5)
def zRb (x0:SPr) (x1:zB) (s1:Int):Option (Int ⊕ (Unit ⊕ Bool)) :=
 cond (decide (s1 < (x0.zA.length:Int))) (
  (ixO x1.zI s1).bind fun v3 =>
  (zTc x1.Prime x1.Dim v3).bind fun r4 =>
  cond (!r4) (
   some (.inr (.inr false))) (
   (rng (s1 + 1)).bind fun v5 =>
   some (.inl v5))) (
  some (.inr (.inl ())))
def zRc (x0:SPr) (x1:zB) (s11:Int) (s12:(List (List Int)) × Int):Option (((List (List Int)) × Int) ⊕ (List (List Int))) :=
 (ixO x0.zA s11).bind fun v8 =>
 cond (decide (s12.2 < v8)) (
  (ixO x1.zI s11).bind fun v9 =>
  (f_T x1.Prime s12.1 v9 x1.Dim).bind fun r10 =>
  (rng (s12.2 + 1)).bind fun v11 =>
  some (.inl (r10,v11))) (
  some (.inr s12.1))
def zRd (x0:SPr) (x1:zB) (s11:Int) (s14:Int):Option (Int ⊕ (Unit ⊕ Bool)) :=
 cond (decide (s14 < (x0.zA.length:Int))) (
  (ixO x1.zI s14).bind fun v17 =>
  (ixO x1.zI s11).bind fun v18 =>
  (f_T x1.Prime v17 v18 x1.Dim).bind fun r19 =>
  (ixO x1.zI s11).bind fun v20 =>
  (ixO x0.zC s11).bind fun v21 =>
  (rng (s14 - s11)).bind fun v22 =>
  (rng (v22 - 1)).bind fun v23 =>
  (ixO v21 v23).bind fun v24 =>
  (f_I x1 v24).bind fun r25 =>
  (f_T x1.Prime v20 r25 x1.Dim).bind fun r26 =>
  (zTd r19 r26).bind fun r27 =>
  cond (!r27) (
   some (.inr (.inr false))) (
   (rng (s14 + 1)).bind fun v28 =>
   some (.inl v28))) (
  some (.inr (.inl ())))
def zRe (x0:SPr) (x1:zB) (s11:Int):Option (Int ⊕ (Unit ⊕ Bool)) :=
 cond (decide (s11 < (x0.zA.length:Int))) (
  (f_G x1.Dim).bind fun r7 =>
  (zG (zRc x0 x1 s11) (r7,0)).bind fun r12 =>
  (ixO x0.zT s11).bind fun v13 =>
  (f_I x1 v13).bind fun r14 =>
  (zTd r12 r14).bind fun r15 =>
  cond (!r15) (
   some (.inr (.inr false))) (
   (rng (s11 + 1)).bind fun v16 =>
   (zG (zRd x0 x1 s11) v16).bind fun r29 =>
   match r29 with
   | (.inl r29) =>
    (rng (s11 + 1)).bind fun v30 =>
    some (.inl v30)
   | (.inr r29) =>
    some (.inr (.inr r29)))) (
  some (.inr (.inl ())))
def f_p (x0:SPr) (x1:zB):Option Bool :=
 (zSX x1.Prime).bind fun r1 =>
 cond (!r1) (
  some false) (
  (zQJ x1.Dim 1 3).bind fun r2 =>
  cond (!r2) (
   some false) (
   cond ((x1.zI.length:Int) != (x0.zA.length:Int)) (
    some false) (
    (zG (zRb x0 x1) 0).bind fun r6 =>
    match r6 with
    | (.inl r6) =>
     (zG (zRe x0 x1) 0).bind fun r31 =>
     match r31 with
     | (.inl r31) =>
      some true
     | (.inr r31) =>
      some r31
    | (.inr r6) =>
     some r6)))
def zTe (x0:SPr) (x1:zB):Option Bool :=
 (zTb x0).bind fun r1 =>
 cond r1 (
  (f_p x0 x1).bind fun r2 =>
  some r2) (
  some false)
def zOl (x0:Int):Option Bool :=
 cond (x0 == 2) (
  some true) (
  cond (x0 == 3) (
   some true) (
   cond (x0 == 5) (
    some true) (
    some (x0 == 7))))
def zLY (x0:Int) (x1:Int) (x2:Int):Option Bool :=
 cond (decide (x0 ≥ x1)) (
  some (decide (x0 ≤ x2))) (
  some false)
def zNy (x0:SPr) (x1:List Int) (s1:Int):Option (Int ⊕ (Unit ⊕ Bool)) :=
 cond (decide (s1 < (x1.length:Int))) (
  (ixO x1 s1).bind fun v1 =>
  (ixO x0.zA s1).bind fun v2 =>
  (rng (v2 - 1)).bind fun v3 =>
  (zLY v1 0 v3).bind fun r4 =>
  cond (!r4) (
   some (.inr (.inr false))) (
   (rng (s1 + 1)).bind fun v5 =>
   some (.inl v5))) (
  some (.inr (.inl ())))
def zTf (x0:SPr) (x1:List Int):Option Bool :=
 cond ((x1.length:Int) != (x0.zA.length:Int)) (
  some false) (
  (zG (zNy x0 x1) 0).bind fun r6 =>
  match r6 with
  | (.inl r6) =>
   some true
  | (.inr r6) =>
   some r6)
def zKw (x0:List Int) (s1:Int):Option (Int ⊕ (Unit ⊕ Bool)) :=
 cond (decide (s1 < (x0.length:Int))) (
  (ixO x0 s1).bind fun v1 =>
  cond (v1 != 0) (
   some (.inr (.inr false))) (
   (rng (s1 + 1)).bind fun v2 =>
   some (.inl v2))) (
  some (.inr (.inl ())))
def f_F (x0:List Int):Option Bool :=
 (zG (zKw x0) 0).bind fun r3 =>
 match r3 with
 | (.inl r3) =>
  some true
 | (.inr r3) =>
  some r3
def zRf (x0:SPr) (x1:Int) (x2:List Int):Option Bool :=
 (zTf x0 x2).bind fun r1 =>
 cond r1 (
  (rng (x1 + 1)).bind fun v2 =>
  (zU x2 0 v2).bind fun v3 =>
  (f_F v3).bind fun r4 =>
  some r4) (
  some false)
def zLZ (x0:SPr) (s1:Int × Int):Option ((Int × Int) ⊕ (Unit ⊕ Bool)) :=
 cond (decide (s1.2 < (x0.zA.length:Int))) (
  (ixO x0.zA s1.2).bind fun v1 =>
  (zOl v1).bind fun r2 =>
  cond (!r2) (
   some (.inr (.inr false))) (
   (rng (s1.1 * v1)).bind fun v3 =>
   cond (decide (v3 > 729)) (
    some (.inr (.inr false))) (
    (rng (s1.1 * v1)).bind fun v4 =>
    (rng (s1.2 + 1)).bind fun v5 =>
    some (.inl (v4,v5))))) (
  some (.inr (.inl ())))
def zRg (x0:SPr) (s7:Int) (v12:List (List Int)) (s8:Int):Option (Int ⊕ (Unit ⊕ Bool)) :=
 cond (decide (s8 < (v12.length:Int))) (
  (ixO v12 s8).bind fun v13 =>
  (zRf x0 s7 v13).bind fun r14 =>
  cond (!r14) (
   some (.inr (.inr false))) (
   (rng (s8 + 1)).bind fun v15 =>
   some (.inl v15))) (
  some (.inr (.inl ())))
def zMa (x0:SPr) (s7:Int):Option (Int ⊕ (Unit ⊕ Bool)) :=
 cond (decide (s7 < (x0.zA.length:Int))) (
  (ixO x0.zT s7).bind fun v7 =>
  (zRf x0 s7 v7).bind fun r8 =>
  cond (!r8) (
   some (.inr (.inr false))) (
   (ixO x0.zC s7).bind fun v9 =>
   (rng ((x0.zA.length:Int) - 1)).bind fun v10 =>
   (rng (v10 - s7)).bind fun v11 =>
   cond ((v9.length:Int) != v11) (
    some (.inr (.inr false))) (
    (ixO x0.zC s7).bind fun v12 =>
    (zG (zRg x0 s7 v12) 0).bind fun r16 =>
    match r16 with
    | (.inl r16) =>
     (rng (s7 + 1)).bind fun v17 =>
     some (.inl v17)
    | (.inr r16) =>
     some (.inr (.inr r16))))) (
  some (.inr (.inl ())))
def f_q (x0:SPr):Option Bool :=
 cond (decide ((x0.zA.length:Int) > 6)) (
  some false) (
  cond ((x0.zT.length:Int) != (x0.zA.length:Int)) (
   some false) (
   cond ((x0.zC.length:Int) != (x0.zA.length:Int)) (
    some false) (
    (zG (zLZ x0) (1,0)).bind fun r6 =>
    match r6 with
    | (.inl r6) =>
     (zG (zMa x0) 0).bind fun r18 =>
     match r18 with
     | (.inl r18) =>
      some true
     | (.inr r18) =>
      some r18
    | (.inr r6) =>
     some r6)))
def f_w (x0:List Int):Option (List Int) :=
 (xH [] x0).bind fun v2 =>
 some v2
def zRh (x2:Int) (r3:(List Int)) (s1:(List Int) × Int):Option (((List Int) × Int) ⊕ (List Int)) :=
 cond (decide (s1.2 < (r3.length:Int))) (
  (rng (x2 + 1)).bind fun v4 =>
  (rng (v4 + s1.2)).bind fun v5 =>
  (ixO s1.1 v5).bind fun _ =>
  (rng (s1.2 + 1)).bind fun v7 =>
  some (.inl (s1.1.set v5.toNat 0,v7))) (
  some (.inr s1.1))
def zV3 (g_c:SPr → (List Int) → (List Int) → Option (List Int)) (x0:SPr) (x2:Int) (s7:(List Int) × Int) (v17:Int) (s8:(List Int) × Int):Option (((List Int) × Int) ⊕ (List Int)) :=
 cond (decide (s8.2 < v17)) (
  (ixO x0.zC x2).bind fun v18 =>
  (ixO v18 s7.2).bind fun v19 =>
  (g_c x0 s8.1 v19).bind fun r20 =>
  (rng (s8.2 + 1)).bind fun v21 =>
  some (.inl (r20,v21))) (
  some (.inr s8.1))
def zV4 (g_c:SPr → (List Int) → (List Int) → Option (List Int)) (x0:SPr) (x2:Int) (r3:(List Int)) (s7:(List Int) × Int):Option (((List Int) × Int) ⊕ (List Int)) :=
 cond (decide (s7.2 < (r3.length:Int))) (
  (ixO r3 s7.2).bind fun v17 =>
  (zG (zV3 g_c x0 x2 s7 v17) (s7.1,0)).bind fun r22 =>
  (rng (s7.2 + 1)).bind fun v23 =>
  some (.inl (r22,v23))) (
  some (.inr s7.1))
def zV5 (g_c:SPr → (List Int) → (List Int) → Option (List Int)) (x0:SPr) (x2:Int) (s15:(List Int) × Int) (v25:Int) (s16:(List Int) × Int):Option (((List Int) × Int) ⊕ (List Int)) :=
 cond (decide (s16.2 < v25)) (
  (ixO x0.zC x2).bind fun v26 =>
  (ixO v26 s15.2).bind fun v27 =>
  (g_c x0 s16.1 v27).bind fun r28 =>
  (rng (s16.2 + 1)).bind fun v29 =>
  some (.inl (r28,v29))) (
  some (.inr s16.1))
def zV6 (g_c:SPr → (List Int) → (List Int) → Option (List Int)) (x0:SPr) (x2:Int) (r3:(List Int)) (s15:(List Int) × Int):Option (((List Int) × Int) ⊕ (List Int)) :=
 cond (decide (s15.2 < (r3.length:Int))) (
  (ixO r3 s15.2).bind fun v25 =>
  (zG (zV5 g_c x0 x2 s15 v25) (s15.1,0)).bind fun r30 =>
  (rng (s15.2 + 1)).bind fun v31 =>
  some (.inl (r30,v31))) (
  some (.inr s15.1))
def b_b (g_c:SPr → (List Int) → (List Int) → Option (List Int)) (x0:SPr) (x1:List Int) (x2:Int):Option (List Int) :=
 (rng (x2 + 1)).bind fun v1 =>
 (zU x1 v1 x1.length).bind fun v2 =>
 (f_w v2).bind fun r3 =>
 (zG (zRh x2 r3) (x1,0)).bind fun r8 =>
 (ixO r8 x2).bind fun v9 =>
 (rng (v9 + 1)).bind fun v10 =>
 (ixO r8 x2).bind fun _ =>
 (ixO (r8.set x2.toNat v10) x2).bind fun v12 =>
 (ixO x0.zA x2).bind fun v13 =>
 cond (v12 == v13) (
  (ixO (r8.set x2.toNat v10) x2).bind fun _ =>
  (ixO x0.zT x2).bind fun v15 =>
  (g_c x0 ((r8.set x2.toNat v10).set x2.toNat 0) v15).bind fun r16 =>
  (zG (zV4 g_c x0 x2 r3) (r16,0)).bind fun r24 =>
  some r24) (
  (zG (zV6 g_c x0 x2 r3) (r8.set x2.toNat v10,0)).bind fun r32 =>
  some r32)
def zRi (g_b:SPr → (List Int) → Int → Option (List Int)) (x0:SPr) (s5:(List Int) × Int) (v1:Int) (s6:(List Int) × Int):Option (((List Int) × Int) ⊕ (List Int)) :=
 cond (decide (s6.2 < v1)) (
  (g_b x0 s6.1 s5.2).bind fun r2 =>
  (rng (s6.2 + 1)).bind fun v3 =>
  some (.inl (r2,v3))) (
  some (.inr s6.1))
def zRj (g_b:SPr → (List Int) → Int → Option (List Int)) (x0:SPr) (x2:List Int) (s5:(List Int) × Int):Option (((List Int) × Int) ⊕ (List Int)) :=
 cond (decide (s5.2 < (x2.length:Int))) (
  (ixO x2 s5.2).bind fun v1 =>
  (zG (zRi g_b x0 s5 v1) (s5.1,0)).bind fun r4 =>
  (rng (s5.2 + 1)).bind fun v5 =>
  some (.inl (r4,v5))) (
  some (.inr s5.1))
def b_c (g_b:SPr → (List Int) → Int → Option (List Int)) (x0:SPr) (x1:List Int) (x2:List Int):Option (List Int) :=
 (zG (zRj g_b x0 x2) (x1,0)).bind fun r6 =>
 some r6
mutual
def zRk:Nat → SPr → (List Int) → Int → Option (List Int)
 | 0 => fun _ _ _ => none
 | n + 1 => b_b (zOm n)
def zOm:Nat → SPr → (List Int) → (List Int) → Option (List Int)
 | 0 => fun _ _ _ => none
 | n + 1 => b_c (zRk n)
end
def f_b (x0:SPr) (x1:List Int) (x2:Int):Option (List Int):=zC2 fun n => zRk n x0 x1 x2
def f_c (x0:SPr) (x1:List Int) (x2:List Int):Option (List Int):=zC2 fun n => zOm n x0 x1 x2
def zKx (x0:SPr) (x1:List Int) (x2:Int) (s1:(List Int) × Int):Option (((List Int) × Int) ⊕ (List Int)) :=
 cond (decide (s1.2 < x2)) (
  (f_c x0 s1.1 x1).bind fun r2 =>
  (rng (s1.2 + 1)).bind fun v3 =>
  some (.inl (r2,v3))) (
  some (.inr s1.1))
def zTg (x0:SPr) (x1:List Int) (x2:Int):Option (List Int) :=
 (yU (x1.length:Int)).bind fun m1 =>
 (zG (zKx x0 x1 x2) (List.replicate m1 (0:Int),0)).bind fun r4 =>
 some r4
def zRl (x0:SPr) (v3:List Int) (v6:Int) (s6:(List Int) × Int):Option (((List Int) × Int) ⊕ (List Int)) :=
 cond (decide (s6.2 < v6)) (
  (f_c x0 s6.1 v3).bind fun r7 =>
  (rng (s6.2 + 1)).bind fun v8 =>
  some (.inl (r7,v8))) (
  some (.inr s6.1))
def zRm (x0:SPr) (x1:Int) (x2:List Int) (v2:List (List Int)) (s5:(List Int) × Int):Option (((List Int) × Int) ⊕ (List Int)) :=
 cond (decide (s5.2 < (v2.length:Int))) (
  (ixO v2 s5.2).bind fun v3 =>
  (rng (x1 + 1)).bind fun v4 =>
  (rng (v4 + s5.2)).bind fun v5 =>
  (ixO x2 v5).bind fun v6 =>
  (zG (zRl x0 v3 v6) (s5.1,0)).bind fun r9 =>
  (rng (s5.2 + 1)).bind fun v10 =>
  some (.inl (r9,v10))) (
  some (.inr s5.1))
def f_B (x0:SPr) (x1:Int) (x2:List Int):Option (List Int) :=
 (yU (x2.length:Int)).bind fun m1 =>
 (ixO x0.zC x1).bind fun v2 =>
 (zG (zRm x0 x1 x2 v2) (List.replicate m1 (0:Int),0)).bind fun r11 =>
 some r11
def zV7 (x0:List Int) (x1:List Int) (s1:Int):Option (Int ⊕ (Unit ⊕ Bool)) :=
 cond (decide (s1 < (x0.length:Int))) (
  (ixO x0 s1).bind fun v1 =>
  (ixO x1 s1).bind fun v2 =>
  cond (v1 != v2) (
   some (.inr (.inr false))) (
   (rng (s1 + 1)).bind fun v3 =>
   some (.inl v3))) (
  some (.inr (.inl ())))
def f_S (x0:List Int) (x1:List Int):Option Bool :=
 cond ((x0.length:Int) != (x1.length:Int)) (
  some false) (
  (zG (zV7 x0 x1) 0).bind fun r4 =>
  match r4 with
  | (.inl r4) =>
   some true
  | (.inr r4) =>
   some r4)
def zOn (x0:SPr) (s5:(List Int) × (List Int) × Int) (s6:(List Int) × (List Int)):Option (((List Int) × (List Int)) ⊕ ((List Int) × (List Int))) :=
 (ixO s6.1 s5.2.2).bind fun v3 =>
 cond (v3 != 0) (
  (f_b x0 s6.1 s5.2.2).bind fun r4 =>
  (f_b x0 s6.2 s5.2.2).bind fun r5 =>
  some (.inl (r4,r5))) (
  some (.inr (s6.1,s6.2)))
def zRn (x0:SPr) (r1:(List Int)) (s5:(List Int) × (List Int) × Int):Option (((List Int) × (List Int) × Int) ⊕ (List Int)) :=
 cond (decide (s5.2.2 < (r1.length:Int))) (
  (zG (zOn x0 s5) (s5.1,s5.2.1)).bind fun r6 =>
  (rng (s5.2.2 + 1)).bind fun v7 =>
  some (.inl (r6.1,r6.2,v7))) (
  some (.inr s5.2.1))
def f_H (x0:SPr) (x1:List Int):Option (List Int) :=
 (f_w x1).bind fun r1 =>
 (yU (x1.length:Int)).bind fun m2 =>
 (zG (zRn x0 r1) (r1,List.replicate m2 (0:Int),0)).bind fun r8 =>
 some r8
def zRo (x0:SPr) (x1:List Int) (x2:List Int):Option (List Int) :=
 (f_w x1).bind fun r1 =>
 (f_c x0 r1 x2).bind fun r2 =>
 some r2
def zRp (x0:SPr) (x1:List Int) (x2:List Int):Option (List Int) :=
 (f_H x0 x2).bind fun r1 =>
 (zRo x0 x1 x2).bind fun r2 =>
 (zRo x0 r1 r2).bind fun r3 =>
 some r3
def zGW (x0:Int) (x1:Int):Option (List Int) :=
 (yU x0).bind fun m1 =>
 (ixO (List.replicate m1 (0:Int)) x1).bind fun _ =>
 some ((List.replicate m1 (0:Int)).set x1.toNat 1)
def zRq (x0:SPr) (x1:Int) (s1:Int):Option (Int ⊕ (Unit ⊕ yS)) :=
 cond (decide (s1 < (x0.zA.length:Int))) (
  (ixO x0.zC x1).bind fun v2 =>
  (rng (s1 - x1)).bind fun v3 =>
  (rng (v3 - 1)).bind fun v4 =>
  (ixO v2 v4).bind fun v5 =>
  (ixO x0.zA s1).bind fun v6 =>
  (zTg x0 v5 v6).bind fun r7 =>
  (ixO x0.zT s1).bind fun v8 =>
  (f_B x0 x1 v8).bind fun r9 =>
  (f_S r7 r9).bind fun r10 =>
  cond (!r10) (
   some (.inr (.inr (yS.mk 1 x1 s1 0)))) (
   (rng (s1 + 1)).bind fun v11 =>
   some (.inl v11))) (
  some (.inr (.inl ())))
def zRr (x0:SPr) (x1:Int) (s7:Int) (s8:Int):Option (Int ⊕ (Unit ⊕ yS)) :=
 cond (decide (s8 < (x0.zA.length:Int))) (
  (ixO x0.zC x1).bind fun v15 =>
  (rng (s8 - x1)).bind fun v16 =>
  (rng (v16 - 1)).bind fun v17 =>
  (ixO v15 v17).bind fun v18 =>
  (ixO x0.zC x1).bind fun v19 =>
  (rng (s7 - x1)).bind fun v20 =>
  (rng (v20 - 1)).bind fun v21 =>
  (ixO v19 v21).bind fun v22 =>
  (zRp x0 v18 v22).bind fun r23 =>
  (ixO x0.zC s7).bind fun v24 =>
  (rng (s8 - s7)).bind fun v25 =>
  (rng (v25 - 1)).bind fun v26 =>
  (ixO v24 v26).bind fun v27 =>
  (f_B x0 x1 v27).bind fun r28 =>
  (f_S r23 r28).bind fun r29 =>
  cond (!r29) (
   some (.inr (.inr (yS.mk 2 x1 s7 s8)))) (
   (rng (s8 + 1)).bind fun v30 =>
   some (.inl v30))) (
  some (.inr (.inl ())))
def zRs (x0:SPr) (x1:Int) (s7:Int):Option (Int ⊕ (Unit ⊕ yS)) :=
 cond (decide (s7 < (x0.zA.length:Int))) (
  (rng (s7 + 1)).bind fun v14 =>
  (zG (zRr x0 x1 s7) v14).bind fun r31 =>
  match r31 with
  | (.inl r31) =>
   (rng (s7 + 1)).bind fun v32 =>
   some (.inl v32)
  | (.inr r31) =>
   some (.inr (.inr r31))) (
  some (.inr (.inl ())))
def zRt (x0:SPr) (x1:Int) (v39:Int) (s16:(List Int) × Int):Option (((List Int) × Int) ⊕ (List Int)) :=
 cond (decide (s16.2 < v39)) (
  (f_B x0 x1 s16.1).bind fun r40 =>
  (rng (s16.2 + 1)).bind fun v41 =>
  some (.inl (r40,v41))) (
  some (.inr s16.1))
def zRu (x0:SPr) (x1:Int) (v34:List Int) (s15:Int):Option (Int ⊕ (Unit ⊕ yS)) :=
 cond (decide (s15 < (x0.zA.length:Int))) (
  (zGW (x0.zA.length:Int) s15).bind fun r38 =>
  (ixO x0.zA x1).bind fun v39 =>
  (zG (zRt x0 x1 v39) (r38,0)).bind fun r42 =>
  (zGW (x0.zA.length:Int) s15).bind fun r43 =>
  (zRp x0 r43 v34).bind fun r44 =>
  (f_S r42 r44).bind fun r45 =>
  cond (!r45) (
   some (.inr (.inr (yS.mk 4 x1 s15 0)))) (
   (rng (s15 + 1)).bind fun v46 =>
   some (.inl v46))) (
  some (.inr (.inl ())))
def f_k (x0:SPr) (x1:Int):Option yS :=
 (rng (x1 + 1)).bind fun v1 =>
 (zG (zRq x0 x1) v1).bind fun r12 =>
 match r12 with
 | (.inl r12) =>
  (rng (x1 + 1)).bind fun v13 =>
  (zG (zRs x0 x1) v13).bind fun r33 =>
  match r33 with
  | (.inl r33) =>
   (ixO x0.zT x1).bind fun v34 =>
   (f_B x0 x1 v34).bind fun r35 =>
   (f_S r35 v34).bind fun r36 =>
   cond (!r36) (
    some (yS.mk 3 x1 0 0)) (
    (rng (x1 + 1)).bind fun v37 =>
    (zG (zRu x0 x1 v34) v37).bind fun r47 =>
    match r47 with
    | (.inl r47) =>
     some (yS.mk 0 0 0 0)
    | (.inr r47) =>
     some r47)
  | (.inr r33) =>
   some r33
 | (.inr r12) =>
  some r12
def zKy (x0:SPr) (s1:Int):Option (Int ⊕ Int) :=
 cond (decide (s1 > 0)) (
  (rng (s1 - 1)).bind fun v1 =>
  (f_k x0 v1).bind fun r2 =>
  cond (r2.Kind == 0 && (r2.zUt == 0 && (r2.zUu == 0 && r2.zSg == 0))) (
   (rng (s1 - 1)).bind fun v3 =>
   some (.inl v3)) (
   some (.inr s1))) (
  some (.inr s1))
def f_M (x0:SPr):Option Int :=
 (zG (zKy x0) (x0.zA.length:Int)).bind fun r4 =>
 some r4
def zTh (x0:SPr):Option Bool :=
 (f_q x0).bind fun r1 =>
 cond r1 (
  (f_M x0).bind fun r2 =>
  some (r2 == 0)) (
  some false)
def zKz (x0:zB) (x1:Int):Option zS :=
 (ixO x0.zI x1).bind fun v1 =>
 some (zS.mk x0.Prime x0.Dim v1)
def zNz (x0:List Int) (x1:Int) (s1:Int):Option (Int ⊕ (Unit ⊕ Bool)) :=
 cond (decide (s1 < (x0.length:Int))) (
  (ixO x0 s1).bind fun v1 =>
  (rng (x1 - 1)).bind fun v2 =>
  (zLY v1 0 v2).bind fun r3 =>
  cond (!r3) (
   some (.inr (.inr false))) (
   (rng (s1 + 1)).bind fun v4 =>
   some (.inl v4))) (
  some (.inr (.inl ())))
def zRv (x0:List Int) (x1:Int) (x2:Int):Option Bool :=
 cond ((x0.length:Int) != x2) (
  some false) (
  (zG (zNz x0 x1) 0).bind fun r5 =>
  match r5 with
  | (.inl r5) =>
   some true
  | (.inr r5) =>
   some r5)
def zK0 (x0:zS) (s1:Int):Option (Int ⊕ (Unit ⊕ Bool)) :=
 cond (decide (s1 < (x0.Rows.length:Int))) (
  (ixO x0.Rows s1).bind fun v3 =>
  (zRv v3 x0.Prime x0.xS).bind fun r4 =>
  cond (!r4) (
   some (.inr (.inr false))) (
   (rng (s1 + 1)).bind fun v5 =>
   some (.inl v5))) (
  some (.inr (.inl ())))
def zTi (x0:zS):Option Bool :=
 (zOl x0.Prime).bind fun r1 =>
 cond (!r1) (
  some false) (
  (zLY x0.xS 0 8).bind fun r2 =>
  cond (!r2) (
   some false) (
   cond (decide ((x0.Rows.length:Int) > 8)) (
    some false) (
    (zG (zK0 x0) 0).bind fun r6 =>
    match r6 with
    | (.inl r6) =>
     some true
    | (.inr r6) =>
     some r6)))
def zXz (x0:Int) (x1:Int):Option (Int × Int) :=
 some ((IntKind.wrap .u64 ((IntKind.wrap .u64 ((IntKind.wrap .u64 ((Int.fdiv x0 (2 ^ (min (32:Int).toNat (IntKind.bits .u64)))) * (Int.fdiv x1 (2 ^ (min (32:Int).toNat (IntKind.bits .u64)))))) + (Int.fdiv (IntKind.wrap .u64 ((IntKind.wrap .u64 ((Int.fdiv x0 (2 ^ (min (32:Int).toNat (IntKind.bits .u64)))) * (zER .u64 x1 4294967295))) + (Int.fdiv (IntKind.wrap .u64 ((zER .u64 x0 4294967295) * (zER .u64 x1 4294967295))) (2 ^ (min (32:Int).toNat (IntKind.bits .u64)))))) (2 ^ (min (32:Int).toNat (IntKind.bits .u64)))))) + (Int.fdiv (IntKind.wrap .u64 ((zER .u64 (IntKind.wrap .u64 ((IntKind.wrap .u64 ((Int.fdiv x0 (2 ^ (min (32:Int).toNat (IntKind.bits .u64)))) * (zER .u64 x1 4294967295))) + (Int.fdiv (IntKind.wrap .u64 ((zER .u64 x0 4294967295) * (zER .u64 x1 4294967295))) (2 ^ (min (32:Int).toNat (IntKind.bits .u64)))))) 4294967295) + (IntKind.wrap .u64 ((zER .u64 x0 4294967295) * (Int.fdiv x1 (2 ^ (min (32:Int).toNat (IntKind.bits .u64)))))))) (2 ^ (min (32:Int).toNat (IntKind.bits .u64)))))),(IntKind.wrap .u64 (x0 * x1)))
def zTj (x0:Int) (x1:Int):Option (Int × Int) :=
 (zXz x0 x1).bind fun r1 =>
 some (r1.1,r1.2)
def jJ  (s1:(List Int) × Int):Option (((List Int) × Int) ⊕ (List Int)) :=
 cond (decide (s1.2 < (s1.1.length:Int))) (
  (zU s1.1 s1.2 s1.1.length).bind fun _ =>
  (zU s1.1 0 s1.2).bind fun v4 =>
  (rng (s1.2 + ((min v4.length (((s1.1.length:Int).toNat) - ((s1.2:Int).toNat)):Nat):Int))).bind fun v5 =>
  some (.inl (xU s1.1 ((s1.2:Int).toNat) (v4.take (((s1.1.length:Int).toNat) - ((s1.2:Int).toNat))),v5))) (
  some (.inr s1.1))
def f_i (x0:List Int) (x1:Int):Option (List Int) :=
 cond (decide (x1 < 0)) (
  none) (
  (zTj (IntKind.wrap .u64 (x0.length:Int)) (IntKind.wrap .u64 x1)).bind fun r1 =>
  cond (decide (r1.1 > 0)) (
   none) (
   cond (decide (r1.2 > 9223372036854775807)) (
    none) (
    (yU (IntKind.wrap .i64 r1.2)).bind fun m2 =>
    (zG jJ (xU (List.replicate m2 (0:Int)) 0 (x0.take (((List.replicate m2 (0:Int)).length) - 0)),((min x0.length (((List.replicate m2 (0:Int)).length) - 0):Nat):Int))).bind fun r6 =>
    some r6)))
def zRw (s5:(List Int) × Int) (v1:Int) (s6:(List Int) × Int):Option (((List Int) × Int) ⊕ (List Int)) :=
 cond (decide (s6.2 < v1)) (
  (rng (s5.2 + 1)).bind fun v2 =>
  (xH s6.1 [v2]).bind fun v3 =>
  (rng (s6.2 + 1)).bind fun v4 =>
  some (.inl (v3,v4))) (
  some (.inr s6.1))
def zRx (x0:List Int) (s5:(List Int) × Int):Option (((List Int) × Int) ⊕ (List Int)) :=
 cond (decide (s5.2 < (x0.length:Int))) (
  (ixO x0 s5.2).bind fun v1 =>
  (zG (zRw s5 v1) (s5.1,0)).bind fun r5 =>
  (rng (s5.2 + 1)).bind fun v6 =>
  some (.inl (r5,v6))) (
  some (.inr s5.1))
def f_J (x0:List Int):Option (List Int) :=
 (zG (zRx x0) ([],0)).bind fun r7 =>
 some r7
def zRy (x0:SPr) (s1:(List ((List Int) × (List Int))) × Int):Option (((List ((List Int) × (List Int))) × Int) ⊕ (List ((List Int) × (List Int)))) :=
 cond (decide (s1.2 < (x0.zA.length:Int))) (
  (ixO x0.zA s1.2).bind fun v1 =>
  (rng (s1.2 + 1)).bind fun v2 =>
  (f_i [v2] v1).bind fun r3 =>
  (ixO x0.zT s1.2).bind fun v4 =>
  (f_J v4).bind fun r5 =>
  (xH s1.1 [(r3,r5)]).bind fun v6 =>
  (rng (s1.2 + 1)).bind fun v7 =>
  some (.inl (v6,v7))) (
  some (.inr s1.1))
def zRz (s7:(List ((List Int) × (List Int))) × Int) (v9:List (List Int)) (s8:(List ((List Int) × (List Int))) × Int):Option (((List ((List Int) × (List Int))) × Int) ⊕ (List ((List Int) × (List Int)))) :=
 cond (decide (s8.2 < (v9.length:Int))) (
  (ixO v9 s8.2).bind fun v10 =>
  (rng (s7.2 + 1)).bind fun v11 =>
  (rng (s7.2 + s8.2)).bind fun v12 =>
  (rng (v12 + 2)).bind fun v13 =>
  (f_J v10).bind fun r14 =>
  (xH [v11] r14).bind fun v15 =>
  (xH s8.1 [([v13,v11],v15)]).bind fun v16 =>
  (rng (s8.2 + 1)).bind fun v17 =>
  some (.inl (v16,v17))) (
  some (.inr s8.1))
def zR0 (x0:SPr) (s7:(List ((List Int) × (List Int))) × Int):Option (((List ((List Int) × (List Int))) × Int) ⊕ (List ((List Int) × (List Int)))) :=
 cond (decide (s7.2 < (x0.zA.length:Int))) (
  (ixO x0.zC s7.2).bind fun v9 =>
  (zG (zRz s7 v9) (s7.1,0)).bind fun r18 =>
  (rng (s7.2 + 1)).bind fun v19 =>
  some (.inl (r18,v19))) (
  some (.inr s7.1))
def f_v (x0:SPr):Option (List ((List Int) × (List Int))) :=
 (zG (zRy x0) ([],0)).bind fun r8 =>
 (zG (zR0 x0) (r8,0)).bind fun r20 =>
 some r20
def zR1 (x1:Int) (s1:(List (List Int)) × Int):Option (((List (List Int)) × Int) ⊕ (List (List Int))) :=
 cond (decide (s1.2 < x1)) (
  (yU x1).bind fun m1 =>
  (ixO (List.replicate m1 (0:Int)) s1.2).bind fun _ =>
  (xH s1.1 [(List.replicate m1 (0:Int)).set s1.2.toNat 1]).bind fun v3 =>
  (rng (s1.2 + 1)).bind fun v4 =>
  some (.inl (v3,v4))) (
  some (.inr s1.1))
def f_U (x0:Int) (x1:Int):Option zS :=
 (zG (zR1 x1) ([],0)).bind fun r5 =>
 some (zS.mk x0 x1 r5)
def zGX (x0:Int) (x1:Int):Option Int :=
 (uI x0 x1).bind fun v1 =>
 (rng (v1 + x1)).bind fun v2 =>
 (uI v2 x1).bind fun v3 =>
 some v3
def zK1 (x0:List Int) (x1:List Int) (x2:Int) (x3:Int) (s1:(List Int) × Int):Option (((List Int) × Int) ⊕ (List Int)) :=
 cond (decide (s1.2 < (x0.length:Int))) (
  (ixO s1.1 s1.2).bind fun v1 =>
  (ixO x1 s1.2).bind fun v2 =>
  (rng (x2 * v2)).bind fun v3 =>
  (rng (v1 + v3)).bind fun v4 =>
  (zGX v4 x3).bind fun r5 =>
  (ixO s1.1 s1.2).bind fun _ =>
  (rng (s1.2 + 1)).bind fun v7 =>
  some (.inl (s1.1.set s1.2.toNat r5,v7))) (
  some (.inr s1.1))
def f_u (x0:List Int) (x1:List Int) (x2:Int) (x3:Int):Option (List Int) :=
 (zG (zK1 x0 x1 x2 x3) (x0,0)).bind fun r8 =>
 some r8
def zK2 (x0:List Int) (x1:zS) (s1:(List Int) × Int):Option (((List Int) × Int) ⊕ (List Int)) :=
 cond (decide (s1.2 < (x0.length:Int))) (
  (ixO x0 s1.2).bind fun v2 =>
  (ixO x1.Rows s1.2).bind fun v3 =>
  (f_u s1.1 v3 v2 x1.Prime).bind fun r4 =>
  (rng (s1.2 + 1)).bind fun v5 =>
  some (.inl (r4,v5))) (
  some (.inr s1.1))
def zOo (x0:List Int) (x1:zS):Option (List Int) :=
 (yU x1.xS).bind fun m1 =>
 (zG (zK2 x0 x1) (List.replicate m1 (0:Int),0)).bind fun r6 =>
 some r6
def zK3 (x0:zS) (x1:zS) (s1:(List (List Int)) × Int):Option (((List (List Int)) × Int) ⊕ (List (List Int))) :=
 cond (decide (s1.2 < (x0.Rows.length:Int))) (
  (ixO x0.Rows s1.2).bind fun v1 =>
  (zOo v1 x1).bind fun r2 =>
  (xH s1.1 [r2]).bind fun v3 =>
  (rng (s1.2 + 1)).bind fun v4 =>
  some (.inl (v3,v4))) (
  some (.inr s1.1))
def zTk (x0:zS) (x1:zS):Option zS :=
 (zG (zK3 x0 x1) ([],0)).bind fun r5 =>
 some (zS.mk x0.Prime x1.xS r5)
def zR2 (x0:zB) (x1:List Int) (s1:Int × Int × (List (List Int)) × Int):Option ((Int × Int × (List (List Int)) × Int) ⊕ (Int × Int × (List (List Int)))) :=
 cond (decide (s1.2.2.2 < (x1.length:Int))) (
  (ixO x1 s1.2.2.2).bind fun v2 =>
  (rng (v2 - 1)).bind fun v3 =>
  (zKz x0 v3).bind fun r4 =>
  (zTk (zS.mk s1.1 s1.2.1 s1.2.2.1) r4).bind fun r5 =>
  (rng (s1.2.2.2 + 1)).bind fun v6 =>
  some (.inl (r5.Prime,r5.xS,r5.Rows,v6))) (
  some (.inr (s1.1,s1.2.1,s1.2.2.1)))
def f_V (x0:zB) (x1:List Int):Option zS :=
 (f_U x0.Prime x0.Dim).bind fun r1 =>
 (zG (zR2 x0 x1) (r1.Prime,r1.xS,r1.Rows,0)).bind fun r7 =>
 some (zS.mk r7.1 r7.2.1 r7.2.2)
def zR3 (x0:List (List Int)) (x1:List (List Int)) (s1:Int):Option (Int ⊕ (Unit ⊕ Bool)) :=
 cond (decide (s1 < (x0.length:Int))) (
  (ixO x0 s1).bind fun v1 =>
  (ixO x1 s1).bind fun v2 =>
  (f_S v1 v2).bind fun r3 =>
  cond (!r3) (
   some (.inr (.inr false))) (
   (rng (s1 + 1)).bind fun v4 =>
   some (.inl v4))) (
  some (.inr (.inl ())))
def zV8 (x0:List (List Int)) (x1:List (List Int)):Option Bool :=
 cond ((x0.length:Int) != (x1.length:Int)) (
  some false) (
  (zG (zR3 x0 x1) 0).bind fun r5 =>
  match r5 with
  | (.inl r5) =>
   some true
  | (.inr r5) =>
   some r5)
def zTl (x0:List (List Int)) (x1:List (List Int)):Option Bool :=
 (zV8 x0 x1).bind fun r1 =>
 some r1
def zR4 (x1:zB) (s1:Int):Option (Int ⊕ (Unit ⊕ Bool)) :=
 cond (decide (s1 < (x1.zI.length:Int))) (
  (ixO x1.zI s1).bind fun v4 =>
  cond ((v4.length:Int) != x1.Dim) (
   some (.inr (.inr false))) (
   (zKz x1 s1).bind fun r5 =>
   (zTi r5).bind fun r6 =>
   cond (!r6) (
    some (.inr (.inr false))) (
    (rng (s1 + 1)).bind fun v7 =>
    some (.inl v7)))) (
  some (.inr (.inl ())))
def zR5 (x1:zB) (r9:(List ((List Int) × (List Int)))) (s3:Int):Option (Int ⊕ (Unit ⊕ Bool)) :=
 cond (decide (s3 < (r9.length:Int))) (
  (ixO r9 s3).bind fun v10 =>
  (f_V x1 v10.1).bind fun r11 =>
  (f_V x1 v10.2).bind fun r12 =>
  (zTl r11.Rows r12.Rows).bind fun r13 =>
  cond (!r13) (
   some (.inr (.inr false))) (
   (rng (s3 + 1)).bind fun v14 =>
   some (.inl v14))) (
  some (.inr (.inl ())))
def f_D (x0:SPr) (x1:zB):Option Bool :=
 (zTh x0).bind fun r1 =>
 cond (!r1) (
  some false) (
  (zOl x1.Prime).bind fun r2 =>
  cond (!r2) (
   some false) (
   (zLY x1.Dim 1 3).bind fun r3 =>
   cond (!r3) (
    some false) (
    cond ((x1.zI.length:Int) != (x0.zA.length:Int)) (
     some false) (
     (zG (zR4 x1) 0).bind fun r8 =>
     match r8 with
     | (.inl r8) =>
      (f_v x0).bind fun r9 =>
      (zG (zR5 x1 r9) 0).bind fun r15 =>
      match r15 with
      | (.inl r15) =>
       some true
      | (.inr r15) =>
       some r15
     | (.inr r8) =>
      some r8))))
def zR6 (x1:Int):Option (List Int) :=
 cond (decide (x1 < 0)) (
  none) (
  (rng (0 - 0)).bind fun v1 =>
  (rng (x1 - v1)).bind fun v2 =>
  cond (decide (v2 > 0)) (
   (vP [] v2 (0:Int)).bind fun v3 =>
   (zU v3 0 0).bind fun v4 =>
   some v4) (
   some []))
def zR7 (x0:List (List Int)) (s1:Int × Int):Option ((Int × Int) ⊕ Int) :=
 cond (decide (s1.2 < (x0.length:Int))) (
  (ixO x0 s1.2).bind fun v1 =>
  (rng (s1.1 + (v1.length:Int))).bind fun v2 =>
  cond (decide (v2 < 0)) (
   none) (
   (rng (s1.2 + 1)).bind fun v3 =>
   some (.inl (v2,v3)))) (
  some (.inr s1.1))
def zR8 (x0:List (List Int)) (s3:(List Int) × Int):Option (((List Int) × Int) ⊕ (List Int)) :=
 cond (decide (s3.2 < (x0.length:Int))) (
  (ixO x0 s3.2).bind fun v6 =>
  (xH s3.1 v6).bind fun v7 =>
  (rng (s3.2 + 1)).bind fun v8 =>
  some (.inl (v7,v8))) (
  some (.inr s3.1))
def f_r (x0:List (List Int)):Option (List Int) :=
 (zG (zR7 x0) (0,0)).bind fun r4 =>
 (zR6 r4).bind fun r5 =>
 (zG (zR8 x0) (r5,0)).bind fun r9 =>
 some r9
def zR9 (x0:List Int) (x1:Int) (x2:Int):Option (List Int) :=
 (yU x1).bind fun m1 =>
 (yU x2).bind fun m2 =>
 (f_r [List.replicate m1 (0:Int),x0,List.replicate m2 (0:Int)]).bind fun r3 =>
 some r3
def zRA (x0:List Int) (x1:List Int) (s1:Int):Option (Int ⊕ (Unit ⊕ Bool)) :=
 cond (decide (s1 < (x0.length:Int))) (
  (ixO x0 s1).bind fun v1 =>
  (ixO x1 s1).bind fun v2 =>
  cond (v1 != v2) (
   some (.inr (.inr false))) (
   (rng (s1 + 1)).bind fun v3 =>
   some (.inl v3))) (
  some (.inr (.inl ())))
def zRB (x0:List Int) (x1:List Int):Option Bool :=
 cond ((x0.length:Int) != (x1.length:Int)) (
  some false) (
  (zG (zRA x0 x1) 0).bind fun r4 =>
  match r4 with
  | (.inl r4) =>
   some true
  | (.inr r4) =>
   some r4)
def zRC (x0:List (List Int)) (x1:List (List Int)) (s1:Int):Option (Int ⊕ (Unit ⊕ Bool)) :=
 cond (decide (s1 < (x0.length:Int))) (
  (ixO x0 s1).bind fun v1 =>
  (ixO x1 s1).bind fun v2 =>
  (zRB v1 v2).bind fun r3 =>
  cond (!r3) (
   some (.inr (.inr false))) (
   (rng (s1 + 1)).bind fun v4 =>
   some (.inl v4))) (
  some (.inr (.inl ())))
def zOp (x0:List (List Int)) (x1:List (List Int)):Option Bool :=
 cond ((x0.length:Int) != (x1.length:Int)) (
  some false) (
  (zG (zRC x0 x1) 0).bind fun r5 =>
  match r5 with
  | (.inl r5) =>
   some true
  | (.inr r5) =>
   some r5)
def zRD (x0:List (List (List Int))) (x1:List (List (List Int))) (s1:Int):Option (Int ⊕ (Unit ⊕ Bool)) :=
 cond (decide (s1 < (x0.length:Int))) (
  (ixO x0 s1).bind fun v1 =>
  (ixO x1 s1).bind fun v2 =>
  (zOp v1 v2).bind fun r3 =>
  cond (!r3) (
   some (.inr (.inr false))) (
   (rng (s1 + 1)).bind fun v4 =>
   some (.inl v4))) (
  some (.inr (.inl ())))
def zTm (x0:List (List (List Int))) (x1:List (List (List Int))):Option Bool :=
 cond ((x0.length:Int) != (x1.length:Int)) (
  some false) (
  (zG (zRD x0 x1) 0).bind fun r5 =>
  match r5 with
  | (.inl r5) =>
   some true
  | (.inr r5) =>
   some r5)
def zTn (x0:zB) (x1:zB):Option Bool :=
 cond (x0.Prime != x1.Prime) (
  some false) (
  cond (x0.Dim != x1.Dim) (
   some false) (
   (zTm x0.zI x1.zI).bind fun r1 =>
   cond (!r1) (
    some false) (
    some true)))
def zTo (x0:SPr) (x1:SPr):Option Bool :=
 (zRB x0.zA x1.zA).bind fun r1 =>
 cond (!r1) (
  some false) (
  (zOp x0.zT x1.zT).bind fun r2 =>
  cond (!r2) (
   some false) (
   (zTm x0.zC x1.zC).bind fun r3 =>
   cond (!r3) (
    some false) (
    some true)))
def zK4 (x0:List (List Int)) (s1:(List (List Int)) × Int):Option (((List (List Int)) × Int) ⊕ (List (List Int))) :=
 cond (decide (s1.2 < (x0.length:Int))) (
  (ixO x0 s1.2).bind fun v1 =>
  (rng ((v1.length:Int) + (x0.length:Int))).bind fun v2 =>
  (yU v2).bind fun m3 =>
  (rng ((v1.length:Int) + s1.2)).bind fun v4 =>
  (ixO (xU (List.replicate m3 (0:Int)) 0 (v1.take (((List.replicate m3 (0:Int)).length) - 0))) v4).bind fun _ =>
  (xH s1.1 [(xU (List.replicate m3 (0:Int)) 0 (v1.take (((List.replicate m3 (0:Int)).length) - 0))).set v4.toNat 1]).bind fun v6 =>
  (rng (s1.2 + 1)).bind fun v7 =>
  some (.inl (v6,v7))) (
  some (.inr s1.1))
def zRE (x0:List (List Int)):Option (List (List Int)) :=
 (zG (zK4 x0) ([],0)).bind fun r8 =>
 some r8
def zK5 (x0:List (List Int)) (s1:(List (List Int)) × Int):Option (((List (List Int)) × Int) ⊕ (List (List Int))) :=
 cond (decide (s1.2 < (x0.length:Int))) (
  (ixO x0 s1.2).bind fun v1 =>
  (f_w v1).bind fun r2 =>
  (xH s1.1 [r2]).bind fun v3 =>
  (rng (s1.2 + 1)).bind fun v4 =>
  some (.inl (v3,v4))) (
  some (.inr s1.1))
def zTp (x0:List (List Int)):Option (List (List Int)) :=
 (zG (zK5 x0) ([],0)).bind fun r5 =>
 some r5
def zOq  (s1:Int × Int × Int × Int):Option ((Int × Int × Int × Int) ⊕ (Int × Int)) :=
 cond (s1.2.1 != 0) (
  (tL s1.1 s1.2.1).bind fun v1 =>
  (rng (v1 * s1.2.1)).bind fun v2 =>
  (rng (s1.1 - v2)).bind fun v3 =>
  (rng (v1 * s1.2.2.2)).bind fun v4 =>
  (rng (s1.2.2.1 - v4)).bind fun v5 =>
  some (.inl (s1.2.1,v3,s1.2.2.2,v5))) (
  some (.inr (s1.1,s1.2.2.1)))
def f_N (x0:Int) (x1:Int):Option (Int × Bool) :=
 (zG zOq (x1,x0,0,1)).bind fun r6 =>
 (zGX r6.2 x1).bind fun r7 =>
 some (r7,(r6.1 == 1))
def zGY (s13:(List (List Int)) × Int × Int) (s14:Int):Option (Int ⊕ Int) :=
 cond (decide (s14 < (s13.1.length:Int))) (
  (ixO s13.1 s14).bind fun v3 =>
  (ixO v3 s13.2.2).bind fun v4 =>
  cond (v4 == 0) (
   (rng (s14 + 1)).bind fun v5 =>
   some (.inl v5)) (
   some (.inr s14))) (
  some (.inr s14))
def zK6 (x0:Int) (s13:(List (List Int)) × Int × Int) (r12:Int × Bool) (v13:List Int) (s16:(List (List Int)) × Int):Option (((List (List Int)) × Int) ⊕ (List (List Int))) :=
 cond (decide (s16.2 < (v13.length:Int))) (
  (ixO s16.1 s13.2.1).bind fun v14 =>
  (ixO s16.1 s13.2.1).bind fun v15 =>
  (ixO v15 s16.2).bind fun v16 =>
  (rng (v16 * r12.1)).bind fun v17 =>
  (uI v17 x0).bind fun v18 =>
  (ixO v14 s16.2).bind fun _ =>
  (rng (s16.2 + 1)).bind fun v20 =>
  some (.inl (s16.1.set s13.2.1.toNat (v14.set s16.2.toNat v18),v20))) (
  some (.inr s16.1))
def zMb (x0:Int) (s13:(List (List Int)) × Int × Int) (r21:(List (List Int))) (s18:(List (List Int)) × Int):Option (((List (List Int)) × Int) ⊕ (List (List Int))) :=
 cond (decide (s18.2 < (r21.length:Int))) (
  cond (s18.2 != s13.2.1) (
   (ixO s18.1 s18.2).bind fun v22 =>
   (ixO s18.1 s13.2.1).bind fun v23 =>
   (ixO s18.1 s18.2).bind fun v24 =>
   (ixO v24 s13.2.2).bind fun v25 =>
   (rng (0 - v25)).bind fun v26 =>
   (f_u v22 v23 v26 x0).bind fun r27 =>
   (rng (s18.2 + 1)).bind fun v28 =>
   some (.inl (s18.1.set s18.2.toNat r27,v28))) (
   (rng (s18.2 + 1)).bind fun v29 =>
   some (.inl (s18.1,v29)))) (
  some (.inr s18.1))
def zMc (x0:Int) (s13:(List (List Int)) × Int × Int):Option (((List (List Int)) × Int × Int) ⊕ ((List (List Int)) × Int)) :=
 cond (decide ((s13.1.length:Int) > 0)) (
  (ixO s13.1 0).bind fun v2 =>
  cond (decide (s13.2.2 < (v2.length:Int))) (
   cond (decide (s13.2.1 < (s13.1.length:Int))) (
    (zG (zGY s13) s13.2.1).bind fun r6 =>
    cond (r6 == (s13.1.length:Int)) (
     (rng (s13.2.2 + 1)).bind fun v7 =>
     some (.inl (s13.1,s13.2.1,v7))) (
     (ixO s13.1 r6).bind fun v8 =>
     (ixO s13.1 s13.2.1).bind fun v9 =>
     (ixO (sW s13.1 s13.2.1 r6 v8 v9) s13.2.1).bind fun v10 =>
     (ixO v10 s13.2.2).bind fun v11 =>
     (f_N v11 x0).bind fun r12 =>
     (ixO (sW s13.1 s13.2.1 r6 v8 v9) s13.2.1).bind fun v13 =>
     (zG (zK6 x0 s13 r12 v13) (sW s13.1 s13.2.1 r6 v8 v9,0)).bind fun r21 =>
     (zG (zMb x0 s13 r21) (r21,0)).bind fun r30 =>
     (rng (s13.2.1 + 1)).bind fun v31 =>
     (rng (s13.2.2 + 1)).bind fun v32 =>
     some (.inl (r30,v31,v32)))) (
    some (.inr (s13.1,s13.2.1)))) (
   some (.inr (s13.1,s13.2.1)))) (
  some (.inr (s13.1,s13.2.1)))
def f_g (x0:Int) (x1:List (List Int)):Option (List (List Int)) :=
 (zTp x1).bind fun r1 =>
 (zG (zMc x0) (r1,0,0)).bind fun r33 =>
 (zU r33.1 0 r33.2).bind fun v34 =>
 some v34
def zRF (x0:Int) (x1:Int):Option Int :=
 (uI x0 x1).bind fun v1 =>
 cond (decide (v1 < 0)) (
  (rng (v1 + x1)).bind fun v2 =>
  some v2) (
  some v1)
def zGZ (x0:List Int) (s1:Int):Option (Int ⊕ (Unit ⊕ Int)) :=
 cond (decide (s1 < (x0.length:Int))) (
  (ixO x0 s1).bind fun v1 =>
  cond (v1 != 0) (
   some (.inr (.inr s1))) (
   (rng (s1 + 1)).bind fun v2 =>
   some (.inl v2))) (
  some (.inr (.inl ())))
def f_A (x0:List Int):Option Int :=
 (zG (zGZ x0) 0).bind fun r3 =>
 match r3 with
 | (.inl r3) =>
  some (x0.length:Int)
 | (.inr r3) =>
  some r3
def zRG (x0:Int) (x2:Int) (x3:List Int) (s1:(List Int) × Int):Option (((List Int) × Int) ⊕ (List Int)) :=
 cond (decide (s1.2 < (s1.1.length:Int))) (
  cond (decide (s1.2 < (x3.length:Int))) (
   (ixO s1.1 s1.2).bind fun v2 =>
   (ixO x3 s1.2).bind fun v3 =>
   (rng (x2 * v3)).bind fun v4 =>
   (rng (v2 + v4)).bind fun v5 =>
   (zRF v5 x0).bind fun r6 =>
   (ixO s1.1 s1.2).bind fun _ =>
   (rng (s1.2 + 1)).bind fun v8 =>
   some (.inl (s1.1.set s1.2.toNat r6,v8))) (
   some (.inr s1.1))) (
  some (.inr s1.1))
def f_n (x0:Int) (x1:List Int) (x2:Int) (x3:List Int):Option (List Int) :=
 (f_s x1).bind fun r1 =>
 (zG (zRG x0 x2 x3) (r1,0)).bind fun r9 =>
 some r9
def zK7 (x0:Int) (x1:List (List Int)) (s1:(List Int) × Int):Option (((List Int) × Int) ⊕ (List Int)) :=
 cond (decide (s1.2 < (x1.length:Int))) (
  (ixO x1 s1.2).bind fun v2 =>
  (f_A v2).bind fun r3 =>
  cond (decide (r3 < (s1.1.length:Int))) (
   (ixO s1.1 r3).bind fun v4 =>
   cond (v4 != 0) (
    (ixO s1.1 r3).bind fun v5 =>
    (rng (x0 - v5)).bind fun v6 =>
    (ixO x1 s1.2).bind fun v7 =>
    (f_n x0 s1.1 v6 v7).bind fun r8 =>
    (rng (s1.2 + 1)).bind fun v9 =>
    some (.inl (r8,v9))) (
    (rng (s1.2 + 1)).bind fun v10 =>
    some (.inl (s1.1,v10)))) (
   (rng (s1.2 + 1)).bind fun v11 =>
   some (.inl (s1.1,v11)))) (
  some (.inr s1.1))
def zOr (x0:Int) (x1:List (List Int)) (x2:List Int):Option (List Int) :=
 (f_s x2).bind fun r1 =>
 (zG (zK7 x0 x1) (r1,0)).bind fun r12 =>
 some r12
def zK8 (x0:Int) (x1:Int) (s1:Int):Option (Int ⊕ (Unit ⊕ Int)) :=
 cond (decide (s1 < x1)) (
  (zRF x0 x1).bind fun r1 =>
  (rng (r1 * s1)).bind fun v2 =>
  (uI v2 x1).bind fun v3 =>
  cond (v3 == 1) (
   some (.inr (.inr s1))) (
   (rng (s1 + 1)).bind fun v4 =>
   some (.inl v4))) (
  some (.inr (.inl ())))
def zTq (x0:Int) (x1:Int):Option Int :=
 (zG (zK8 x0 x1) 1).bind fun r5 =>
 match r5 with
 | (.inl r5) =>
  some 0
 | (.inr r5) =>
  some r5
def zOs (x0:Int) (x1:Int) (x2:List Int):Option (List Int) :=
 (yU (x2.length:Int)).bind fun m1 =>
 (f_n x0 (List.replicate m1 (0:Int)) x1 x2).bind fun r2 =>
 some r2
def zHa (x0:Int) (s5:(List (List Int)) × Int) (r3:Int) (r7:(List Int)) (s6:(List (List Int)) × Bool × Int):Option (((List (List Int)) × Bool × Int) ⊕ ((List (List Int)) × Bool)) :=
 cond (decide (s6.2.2 < (s5.1.length:Int))) (
  cond (!s6.2.1) (
   (ixO s5.1 s6.2.2).bind fun v8 =>
   (f_A v8).bind fun r9 =>
   cond (decide (r9 > r3)) (
    (xH s6.1 [r7]).bind fun v10 =>
    (ixO s5.1 s6.2.2).bind fun v11 =>
    (ixO s5.1 s6.2.2).bind fun v12 =>
    (ixO v12 r3).bind fun v13 =>
    (rng (x0 - v13)).bind fun v14 =>
    (f_n x0 v11 v14 r7).bind fun r15 =>
    (xH v10 [r15]).bind fun v16 =>
    (rng (s6.2.2 + 1)).bind fun v17 =>
    some (.inl (v16,true,v17))) (
    (ixO s5.1 s6.2.2).bind fun v18 =>
    (ixO s5.1 s6.2.2).bind fun v19 =>
    (ixO v19 r3).bind fun v20 =>
    (rng (x0 - v20)).bind fun v21 =>
    (f_n x0 v18 v21 r7).bind fun r22 =>
    (xH s6.1 [r22]).bind fun v23 =>
    (rng (s6.2.2 + 1)).bind fun v24 =>
    some (.inl (v23,s6.2.1,v24)))) (
   (ixO s5.1 s6.2.2).bind fun v25 =>
   (ixO s5.1 s6.2.2).bind fun v26 =>
   (ixO v26 r3).bind fun v27 =>
   (rng (x0 - v27)).bind fun v28 =>
   (f_n x0 v25 v28 r7).bind fun r29 =>
   (xH s6.1 [r29]).bind fun v30 =>
   (rng (s6.2.2 + 1)).bind fun v31 =>
   some (.inl (v30,s6.2.1,v31)))) (
  some (.inr (s6.1,s6.2.1)))
def zOt (x0:Int) (x1:List (List Int)) (s5:(List (List Int)) × Int):Option (((List (List Int)) × Int) ⊕ (List (List Int))) :=
 cond (decide (s5.2 < (x1.length:Int))) (
  (ixO x1 s5.2).bind fun v1 =>
  (zOr x0 s5.1 v1).bind fun r2 =>
  (f_A r2).bind fun r3 =>
  cond (r3 == (r2.length:Int)) (
   (rng (s5.2 + 1)).bind fun v4 =>
   some (.inl (s5.1,v4))) (
   (ixO r2 r3).bind fun v5 =>
   (zTq v5 x0).bind fun r6 =>
   (zOs x0 r6 r2).bind fun r7 =>
   (zG (zHa x0 s5 r3 r7) ([],false,0)).bind fun r32 =>
   cond (!r32.2) (
    (xH r32.1 [r7]).bind fun v33 =>
    (rng (s5.2 + 1)).bind fun v34 =>
    some (.inl (v33,v34))) (
    (rng (s5.2 + 1)).bind fun v35 =>
    some (.inl (r32.1,v35))))) (
  some (.inr s5.1))
def f_m (x0:Int) (x1:List (List Int)):Option (List (List Int)) :=
 (zG (zOt x0 x1) ([],0)).bind fun r36 =>
 some r36
def zK9 (x1:List (List Int)) (r1:(List (List Int))) (s1:(List (List Int)) × Int):Option (((List (List Int)) × Int) ⊕ (List (List Int))) :=
 cond (decide (s1.2 < (x1.length:Int))) (
  (ixO x1 s1.2).bind fun v2 =>
  (f_s v2).bind fun r3 =>
  (ixO r1 s1.2).bind fun v4 =>
  (xH r3 v4).bind fun v5 =>
  (xH s1.1 [v5]).bind fun v6 =>
  (rng (s1.2 + 1)).bind fun v7 =>
  some (.inl (v6,v7))) (
  some (.inr s1.1))
def zRH (x0:Int) (x1:List (List Int)):Option (List (List Int)) :=
 (f_G (x1.length:Int)).bind fun r1 =>
 (zG (zK9 x1 r1) ([],0)).bind fun r8 =>
 (f_m x0 r8).bind fun r9 =>
 some r9
def zOu (x2:Int) (r1:(List (List Int))) (s1:(List (List Int)) × Int):Option (((List (List Int)) × Int) ⊕ (List (List Int))) :=
 cond (decide (s1.2 < (r1.length:Int))) (
  (ixO r1 s1.2).bind fun v2 =>
  (f_A v2).bind fun r3 =>
  cond (decide (r3 ≥ x2)) (
   (ixO r1 s1.2).bind fun v4 =>
   (zU v4 x2 v4.length).bind fun v5 =>
   (f_s v5).bind fun r6 =>
   (xH s1.1 [r6]).bind fun v7 =>
   (rng (s1.2 + 1)).bind fun v8 =>
   some (.inl (v7,v8))) (
   (rng (s1.2 + 1)).bind fun v9 =>
   some (.inl (s1.1,v9)))) (
  some (.inr s1.1))
def f_K (x0:Int) (x1:List (List Int)) (x2:Int):Option (List (List Int)) :=
 (zRH x0 x1).bind fun r1 =>
 (zG (zOu x2 r1) ([],0)).bind fun r10 =>
 some r10
def zTr (x0:SPr):Option Int :=
 (rng ((x0.zA.length:Int) - 1)).bind fun v1 =>
 (rng ((x0.zA.length:Int) * v1)).bind fun v2 =>
 (tL v2 2).bind fun v3 =>
 (rng ((x0.zA.length:Int) + v3)).bind fun v4 =>
 some v4
def zV9 (x0:Int) (x1:Int) (x2:Int):Option Int :=
 (rng (x1 * x0)).bind fun v1 =>
 (rng (x0 + v1)).bind fun v2 =>
 (rng (x1 + 1)).bind fun v3 =>
 (rng (x1 * v3)).bind fun v4 =>
 (tL v4 2).bind fun v5 =>
 (rng (v2 - v5)).bind fun v6 =>
 (rng (v6 + x2)).bind fun v7 =>
 (rng (v7 - x1)).bind fun v8 =>
 (rng (v8 - 1)).bind fun v9 =>
 some v9
def zMd (x0:SPr):Option Int :=
 (rng ((x0.zA.length:Int) + 1)).bind fun v1 =>
 (rng ((x0.zA.length:Int) * v1)).bind fun v2 =>
 (tL v2 2).bind fun v3 =>
 some v3
def zOv (x0:List Int) (x1:Int) (s1:(List (List Int)) × Int):Option (((List (List Int)) × Int) ⊕ (List (List Int))) :=
 cond (decide (s1.2 < (x0.length:Int))) (
  (rng (s1.2 + x1)).bind fun v1 =>
  (zU x0 s1.2 v1).bind fun v2 =>
  (f_w v2).bind fun r3 =>
  (xH s1.1 [r3]).bind fun v4 =>
  (rng (s1.2 + x1)).bind fun v5 =>
  some (.inl (v4,v5))) (
  some (.inr s1.1))
def f_X (x0:List Int) (x1:Int):Option (List (List Int)) :=
 (zG (zOv x0 x1) ([],0)).bind fun r6 =>
 some r6
def zOw (x0:List Int) (s6:(List (List Int)) × Int):Option (((List (List Int)) × Int) ⊕ (List (List Int))) :=
 cond (decide (s6.2 < (x0.length:Int))) (
  (zGW (x0.length:Int) s6.2).bind fun r5 =>
  (xH s6.1 [r5]).bind fun v6 =>
  (rng (s6.2 + 1)).bind fun v7 =>
  some (.inl (v6,v7))) (
  some (.inr s6.1))
def zOx (x0:List Int) (s5:(List (List Int)) × (List (List (List Int))) × Int):Option (((List (List Int)) × (List (List (List Int))) × Int) ⊕ ((List (List Int)) × (List (List (List Int))))) :=
 cond (decide (s5.2.2 < (x0.length:Int))) (
  (yU (x0.length:Int)).bind fun m2 =>
  (xH s5.1 [List.replicate m2 (0:Int)]).bind fun v3 =>
  (rng (s5.2.2 + 1)).bind fun v4 =>
  (zG (zOw x0) ([],v4)).bind fun r8 =>
  (xH s5.2.1 [r8]).bind fun v9 =>
  (rng (s5.2.2 + 1)).bind fun v10 =>
  some (.inl (v3,v9,v10))) (
  some (.inr (s5.1,s5.2.1)))
def f_y (x0:List Int):Option SPr :=
 (f_w x0).bind fun r1 =>
 (zG (zOx x0) ([],[],0)).bind fun r11 =>
 some (SPr.mk r1 r11.1 r11.2)
def zOy (x0:SPr) (x2:List (List Int)) (s1:(List (List Int)) × Int × Int):Option (((List (List Int)) × Int × Int) ⊕ ((List (List Int)) × Int)) :=
 cond (decide (s1.2.2 < (x0.zT.length:Int))) (
  (ixO x0.zT s1.2.2).bind fun v5 =>
  (ixO x2 s1.2.1).bind fun v6 =>
  (f_r [v5,v6]).bind fun r7 =>
  (ixO s1.1 s1.2.2).bind fun _ =>
  (rng (s1.2.1 + 1)).bind fun v9 =>
  (rng (s1.2.2 + 1)).bind fun v10 =>
  some (.inl (s1.1.set s1.2.2.toNat r7,v9,v10))) (
  some (.inr (s1.1,s1.2.1)))
def zOz (x2:List (List Int)) (s11:(List (List (List Int))) × Int × Int) (v12:List (List Int)) (s12:(List (List (List Int))) × Int × Int):Option (((List (List (List Int))) × Int × Int) ⊕ ((List (List (List Int))) × Int)) :=
 cond (decide (s12.2.2 < (v12.length:Int))) (
  (ixO v12 s12.2.2).bind fun v13 =>
  (ixO s12.1 s11.2.2).bind fun v14 =>
  (ixO x2 s12.2.1).bind fun v15 =>
  (f_r [v13,v15]).bind fun r16 =>
  (ixO v14 s12.2.2).bind fun _ =>
  (rng (s12.2.1 + 1)).bind fun v18 =>
  (rng (s12.2.2 + 1)).bind fun v19 =>
  some (.inl (s12.1.set s11.2.2.toNat (v14.set s12.2.2.toNat r16),v18,v19))) (
  some (.inr (s12.1,s12.2.1)))
def zO0 (x0:SPr) (s11:(List (List (List Int))) × Int × Int) (v21:List (List Int)) (s14:(List (List (List Int))) × Int):Option (((List (List (List Int))) × Int) ⊕ (List (List (List Int)))) :=
 cond (decide (s14.2 < (v21.length:Int))) (
  (ixO v21 s14.2).bind fun v22 =>
  (ixO s14.1 s11.2.2).bind fun v23 =>
  (rng ((x0.zA.length:Int) - 1)).bind fun v24 =>
  (rng (v24 - s11.2.2)).bind fun v25 =>
  (rng (v25 + s14.2)).bind fun v26 =>
  (zR9 v22 (x0.zA.length:Int) 0).bind fun r27 =>
  (ixO v23 v26).bind fun _ =>
  (rng (s14.2 + 1)).bind fun v29 =>
  some (.inl (s14.1.set s11.2.2.toNat (v23.set v26.toNat r27),v29))) (
  some (.inr s14.1))
def zO1 (x0:SPr) (x1:zB) (x2:List (List Int)) (s11:(List (List (List Int))) × Int × Int):Option (((List (List (List Int))) × Int × Int) ⊕ (List (List (List Int)))) :=
 cond (decide (s11.2.2 < (x0.zA.length:Int))) (
  (ixO x0.zC s11.2.2).bind fun v12 =>
  (zG (zOz x2 s11 v12) (s11.1,s11.2.1,0)).bind fun r20 =>
  (ixO x1.zI s11.2.2).bind fun v21 =>
  (zG (zO0 x0 s11 v21) (r20.1,0)).bind fun r30 =>
  (rng (s11.2.2 + 1)).bind fun v31 =>
  some (.inl (r30,r20.2,v31))) (
  some (.inr s11.1))
def f_j (x0:SPr) (x1:zB) (x2:List (List Int)):Option SPr :=
 (f_w x0.zA).bind fun r1 =>
 (f_i [x1.Prime] x1.Dim).bind fun r2 =>
 (xH r1 r2).bind fun v3 =>
 (f_y v3).bind fun r4 =>
 (zG (zOy x0 x2) (r4.zT,0,0)).bind fun r11 =>
 (zG (zO1 x0 x1 x2) (r4.zC,r11.2,0)).bind fun r32 =>
 some (SPr.mk r4.zA r11.1 r32)
def zKA (x0:zB) (x1:List (List Int)) (s1:Int):Option (Int ⊕ (Unit ⊕ Bool)) :=
 cond (decide (s1 < (x1.length:Int))) (
  (ixO x1 s1).bind fun v1 =>
  (zQU x0.Prime x0.Dim v1).bind fun r2 =>
  cond (!r2) (
   some (.inr (.inr false))) (
   (rng (s1 + 1)).bind fun v3 =>
   some (.inl v3))) (
  some (.inr (.inl ())))
def zVA (x0:zB) (x1:List (List Int)):Option Bool :=
 (zG (zKA x0 x1) 0).bind fun r4 =>
 match r4 with
 | (.inl r4) =>
  some true
 | (.inr r4) =>
  some r4
def zEU (x0:zB) (x1:List (List Int)) (x2:List Int) (x3:Int):Option (List Int) :=
 (ixO x0.zI x3).bind fun v1 =>
 (f_C x0.Prime x2 v1 x0.Dim).bind fun r2 =>
 (ixO x1 x3).bind fun v3 =>
 (f_n x0.Prime r2 1 v3).bind fun r4 =>
 some r4
def zRI (x0:zB) (x1:List (List Int)) (x3:List Int) (s5:(List Int) × Int) (s6:(List Int) × Int):Option (((List Int) × Int) ⊕ (List Int)) :=
 (ixO x3 s5.2).bind fun v1 =>
 cond (decide (s6.2 < v1)) (
  (zEU x0 x1 s6.1 s5.2).bind fun r2 =>
  (rng (s6.2 + 1)).bind fun v3 =>
  some (.inl (r2,v3))) (
  some (.inr s6.1))
def zRJ (x0:zB) (x1:List (List Int)) (x3:List Int) (s5:(List Int) × Int):Option (((List Int) × Int) ⊕ (List Int)) :=
 cond (decide (s5.2 < (x3.length:Int))) (
  (zG (zRI x0 x1 x3 s5) (s5.1,0)).bind fun r4 =>
  (rng (s5.2 + 1)).bind fun v5 =>
  some (.inl (r4,v5))) (
  some (.inr s5.1))
def f_E (x0:zB) (x1:List (List Int)) (x2:List Int) (x3:List Int):Option (List Int) :=
 (zG (zRJ x0 x1 x3) (x2,0)).bind fun r6 =>
 some r6
def zRK (x0:SPr) (x1:zB) (x2:List (List Int)) (s9:(List Int) × Int) (s10:(List Int) × Int):Option (((List Int) × Int) ⊕ (List Int)) :=
 (ixO x0.zA s9.2).bind fun v2 =>
 cond (decide (s10.2 < v2)) (
  (zEU x1 x2 s10.1 s9.2).bind fun r3 =>
  (rng (s10.2 + 1)).bind fun v4 =>
  some (.inl (r3,v4))) (
  some (.inr s10.1))
def zRL (x0:SPr) (x1:zB) (x2:List (List Int)) (m1:Nat) (s9:(List Int) × Int) (s12:(List Int) × Int):Option (((List Int) × Int) ⊕ (List Int)) :=
 cond (decide (s12.2 < (x0.zA.length:Int))) (
  (zEU x1 x2 (List.replicate m1 (0:Int)) s12.2).bind fun r12 =>
  (zEU x1 x2 r12 s9.2).bind fun r13 =>
  (zEU x1 x2 (List.replicate m1 (0:Int)) s9.2).bind fun r14 =>
  (ixO x0.zC s9.2).bind fun v15 =>
  (rng (s12.2 - s9.2)).bind fun v16 =>
  (rng (v16 - 1)).bind fun v17 =>
  (ixO v15 v17).bind fun v18 =>
  (f_E x1 x2 r14 v18).bind fun r19 =>
  (rng (x1.Prime - 1)).bind fun v20 =>
  (f_n x1.Prime r13 v20 r19).bind fun r21 =>
  (xH s12.1 r21).bind fun v22 =>
  (rng (s12.2 + 1)).bind fun v23 =>
  some (.inl (v22,v23))) (
  some (.inr s12.1))
def zRM (x0:SPr) (x1:zB) (x2:List (List Int)) (m1:Nat) (s9:(List Int) × Int):Option (((List Int) × Int) ⊕ (List Int)) :=
 cond (decide (s9.2 < (x0.zA.length:Int))) (
  (zG (zRK x0 x1 x2 s9) (List.replicate m1 (0:Int),0)).bind fun r5 =>
  (rng (x1.Prime - 1)).bind fun v6 =>
  (ixO x0.zT s9.2).bind fun v7 =>
  (f_E x1 x2 (List.replicate m1 (0:Int)) v7).bind fun r8 =>
  (f_n x1.Prime r5 v6 r8).bind fun r9 =>
  (xH s9.1 r9).bind fun v10 =>
  (rng (s9.2 + 1)).bind fun v11 =>
  (zG (zRL x0 x1 x2 m1 s9) (v10,v11)).bind fun r24 =>
  (rng (s9.2 + 1)).bind fun v25 =>
  some (.inl (r24,v25))) (
  some (.inr s9.1))
def f_x (x0:SPr) (x1:zB) (x2:List (List Int)):Option (List Int) :=
 (yU x1.Dim).bind fun m1 =>
 (zG (zRM x0 x1 x2 m1) ([],0)).bind fun r26 =>
 some r26
def zUs (x0:List Int) (s1:Int):Option (Int ⊕ (Unit ⊕ Bool)) :=
 cond (decide (s1 < (x0.length:Int))) (
  (ixO x0 s1).bind fun v1 =>
  cond (v1 != 0) (
   some (.inr (.inr false))) (
   (rng (s1 + 1)).bind fun v2 =>
   some (.inl v2))) (
  some (.inr (.inl ())))
def zRN (x0:List Int):Option Bool :=
 (zG (zUs x0) 0).bind fun r3 =>
 match r3 with
 | (.inl r3) =>
  some true
 | (.inr r3) =>
  some r3
def zN0 (x0:zB) (x1:List (List Int)) (s1:Int):Option (Int ⊕ (Unit ⊕ Bool)) :=
 cond (decide (s1 < (x1.length:Int))) (
  (ixO x1 s1).bind fun v1 =>
  (zRv v1 x0.Prime x0.Dim).bind fun r2 =>
  cond (!r2) (
   some (.inr (.inr false))) (
   (rng (s1 + 1)).bind fun v3 =>
   some (.inl v3))) (
  some (.inr (.inl ())))
def zVB (x0:zB) (x1:List (List Int)):Option Bool :=
 (zG (zN0 x0 x1) 0).bind fun r4 =>
 match r4 with
 | (.inl r4) =>
  some true
 | (.inr r4) =>
  some r4
def zKB (x0:zB) (x1:List (List Int)) (x2:List Int) (s1:(List Int) × Int):Option (((List Int) × Int) ⊕ (List Int)) :=
 cond (decide (s1.2 < (x2.length:Int))) (
  (ixO x2 s1.2).bind fun v2 =>
  (rng (v2 - 1)).bind fun v3 =>
  (zKz x0 v3).bind fun r4 =>
  (zOo s1.1 r4).bind fun r5 =>
  (rng (v2 - 1)).bind fun v6 =>
  (ixO x1 v6).bind fun v7 =>
  (f_u r5 v7 1 x0.Prime).bind fun r8 =>
  (rng (s1.2 + 1)).bind fun v9 =>
  some (.inl (r8,v9))) (
  some (.inr s1.1))
def zRO (x0:zB) (x1:List (List Int)) (x2:List Int):Option (List Int) :=
 (yU x0.Dim).bind fun m1 =>
 (zG (zKB x0 x1 x2) (List.replicate m1 (0:Int),0)).bind fun r10 =>
 some r10
def zKC (x1:zB) (x2:List (List Int)) (r1:(List ((List Int) × (List Int)))) (s1:(List (List Int)) × Int):Option (((List (List Int)) × Int) ⊕ (List (List Int))) :=
 cond (decide (s1.2 < (r1.length:Int))) (
  (ixO r1 s1.2).bind fun v2 =>
  (zRO x1 x2 v2.1).bind fun r3 =>
  (zRO x1 x2 v2.2).bind fun r4 =>
  (f_u r3 r4 (-1) x1.Prime).bind fun r5 =>
  (xH s1.1 [r5]).bind fun v6 =>
  (rng (s1.2 + 1)).bind fun v7 =>
  some (.inl (v6,v7))) (
  some (.inr s1.1))
def zTs (x0:SPr) (x1:zB) (x2:List (List Int)):Option (List (List Int)) :=
 (f_v x0).bind fun r1 =>
 (zG (zKC x1 x2 r1) ([],0)).bind fun r8 =>
 some r8
def zRP (x0:SPr) (x1:zB) (x2:List (List Int)):Option Bool :=
 (zTr x0).bind fun r1 =>
 cond ((x2.length:Int) == r1) (
  (zVA x1 x2).bind fun r2 =>
  some r2) (
  some false)
def zKD (x0:zP):Option zE :=
 cond (decide ((x0.zKO.length:Int) > 0)) (
  (ixO x0.zKO 0).bind fun v1 =>
  (yU (x0.p.zA.length:Int)).bind fun m2 =>
  (yU (v1.length:Int)).bind fun m3 =>
  some (zE.mk (List.replicate m2 (0:Int)) (List.replicate m3 (0:Int)))) (
  (yU (x0.p.zA.length:Int)).bind fun m4 =>
  (yU 0).bind fun m5 =>
  some (zE.mk (List.replicate m4 (0:Int)) (List.replicate m5 (0:Int))))
def f_Y (x0:zP) (x1:Int) (x2:Int):Option zE :=
 (ixO x0.p.zC x1).bind fun v1 =>
 (rng (x2 - x1)).bind fun v2 =>
 (rng (v2 - 1)).bind fun v3 =>
 (ixO v1 v3).bind fun v4 =>
 (zV9 (x0.p.zA.length:Int) x1 x2).bind fun r5 =>
 (ixO x0.zKO r5).bind fun v6 =>
 some (zE.mk v4 v6)
def zHM (x0:zB) (x1:List Int) (x2:Int) (s1:(List Int) × Int):Option (((List Int) × Int) ⊕ (List Int)) :=
 cond (decide (s1.2 < (x1.length:Int))) (
  (rng (s1.2 + x0.Dim)).bind fun v1 =>
  (zU x1 s1.2 v1).bind fun v2 =>
  (ixO x0.zI x2).bind fun v3 =>
  (f_C x0.Prime v2 v3 x0.Dim).bind fun r4 =>
  (xH s1.1 r4).bind fun v5 =>
  (rng (s1.2 + x0.Dim)).bind fun v6 =>
  some (.inl (v5,v6))) (
  some (.inr s1.1))
def zTt (x0:zB) (x1:List Int) (x2:Int):Option (List Int) :=
 (zG (zHM x0 x1 x2) ([],0)).bind fun r7 =>
 some r7
def zMe (x0:zP) (x1:Int):Option zE :=
 (ixO x0.p.zT x1).bind fun v1 =>
 (ixO x0.zKO x1).bind fun v2 =>
 some (zE.mk v1 v2)
def zTu (g_d:zP → Int → zE → zE → Option zE) (x0:zP) (x1:Int) (x2:zE) (s5:(List Int) × (List Int) × Int) (s6:(List Int) × (List Int) × Int):Option (((List Int) × (List Int) × Int) ⊕ ((List Int) × (List Int))) :=
 (ixO x2.x s5.2.2).bind fun v3 =>
 cond (decide (s6.2.2 < v3)) (
  (rng (x1 + 1)).bind fun v4 =>
  (f_Y x0 x1 s5.2.2).bind fun r5 =>
  (g_d x0 v4 (zE.mk s6.1 s6.2.1) r5).bind fun r6 =>
  (rng (s6.2.2 + 1)).bind fun v7 =>
  some (.inl (r6.x,r6.v,v7))) (
  some (.inr (s6.1,s6.2.1)))
def zRQ (g_d:zP → Int → zE → zE → Option zE) (x0:zP) (x1:Int) (x2:zE) (s5:(List Int) × (List Int) × Int):Option (((List Int) × (List Int) × Int) ⊕ ((List Int) × (List Int))) :=
 cond (decide (s5.2.2 < (x2.x.length:Int))) (
  (zG (zTu g_d x0 x1 x2 s5) (s5.1,s5.2.1,0)).bind fun r8 =>
  (rng (s5.2.2 + 1)).bind fun v9 =>
  some (.inl (r8.1,r8.2,v9))) (
  some (.inr (s5.1,s5.2.1)))
def b_f (g_d:zP → Int → zE → zE → Option zE) (x0:zP) (x1:Int) (x2:zE):Option zE :=
 (zKD x0).bind fun r1 =>
 (rng (x1 + 1)).bind fun v2 =>
 (zG (zRQ g_d x0 x1 x2) (r1.x,r1.v,v2)).bind fun r10 =>
 (zTt x0.m x2.v x1).bind fun r11 =>
 (f_n x0.m.Prime r10.2 1 r11).bind fun r12 =>
 some (zE.mk r10.1 r12)
def zO2 (g_f:zP → Int → zE → Option zE) (x0:zP) (x1:Int) (x3:zE) (s1:(List Int) × (List Int) × Int):Option (((List Int) × (List Int) × Int) ⊕ ((List Int) × (List Int))) :=
 (ixO x3.x x1).bind fun v7 =>
 cond (decide (s1.2.2 < v7)) (
  (g_f x0 x1 (zE.mk s1.1 s1.2.1)).bind fun r8 =>
  (rng (s1.2.2 + 1)).bind fun v9 =>
  some (.inl (r8.x,r8.v,v9))) (
  some (.inr (s1.1,s1.2.1)))
def b_d (g_f:zP → Int → zE → Option zE) (g_d:zP → Int → zE → zE → Option zE) (x0:zP) (x1:Int) (x2:zE) (x3:zE):Option zE :=
 cond (decide (x1 ≥ (x0.p.zA.length:Int))) (
  (yU (x0.p.zA.length:Int)).bind fun m1 =>
  (f_n x0.m.Prime x2.v 1 x3.v).bind fun r2 =>
  some (zE.mk (List.replicate m1 (0:Int)) r2)) (
  (f_s x2.x).bind fun r3 =>
  (f_s x3.x).bind fun r4 =>
  (ixO r3 x1).bind fun _ =>
  (ixO r4 x1).bind fun _ =>
  (zG (zO2 g_f x0 x1 x3) (r3.set x1.toNat 0,x2.v,0)).bind fun r10 =>
  (rng (x1 + 1)).bind fun v11 =>
  (g_d x0 v11 (zE.mk r10.1 r10.2) (zE.mk (r4.set x1.toNat 0) x3.v)).bind fun r12 =>
  (ixO x2.x x1).bind fun v13 =>
  (ixO x3.x x1).bind fun v14 =>
  (rng (v13 + v14)).bind fun v15 =>
  (ixO x0.p.zA x1).bind fun v16 =>
  cond (decide (v15 ≥ v16)) (
   (ixO x0.p.zA x1).bind fun v17 =>
   (rng (v15 - v17)).bind fun v18 =>
   (rng (x1 + 1)).bind fun v19 =>
   (zMe x0 x1).bind fun r20 =>
   (g_d x0 v19 r20 r12).bind fun r21 =>
   (f_s r21.x).bind fun r22 =>
   (ixO r22 x1).bind fun _ =>
   some (zE.mk (r22.set x1.toNat v18) r21.v)) (
   (f_s r12.x).bind fun r24 =>
   (ixO r24 x1).bind fun _ =>
   some (zE.mk (r24.set x1.toNat v15) r12.v)))
mutual
def zMf:Nat → zP → Int → zE → Option zE
 | 0 => fun _ _ _ => none
 | n + 1 => b_f (zMg n)
def zMg:Nat → zP → Int → zE → zE → Option zE
 | 0 => fun _ _ _ _ => none
 | n + 1 => b_d (zMf n) (zMg n)
end
def f_f (x0:zP) (x1:Int) (x2:zE):Option zE:=zC2 fun n => zMf n x0 x1 x2
def f_d (x0:zP) (x1:Int) (x2:zE) (x3:zE):Option zE:=zC2 fun n => zMg n x0 x1 x2 x3
def zKE (x0:zP) (x1:zE) (x2:zE):Option (List Int) :=
 (rng (x0.m.Prime - 1)).bind fun v1 =>
 (f_n x0.m.Prime x1.v v1 x2.v).bind fun r2 =>
 some r2
def zO3 (x0:zP) (x1:Int) (s9:(List (List Int)) × Int) (s10:(List Int) × (List Int) × Int):Option (((List Int) × (List Int) × Int) ⊕ ((List Int) × (List Int))) :=
 (ixO x0.p.zA s9.2).bind fun v3 =>
 cond (decide (s10.2.2 < v3)) (
  (rng (x1 + 1)).bind fun v4 =>
  (f_Y x0 x1 s9.2).bind fun r5 =>
  (f_d x0 v4 (zE.mk s10.1 s10.2.1) r5).bind fun r6 =>
  (rng (s10.2.2 + 1)).bind fun v7 =>
  some (.inl (r6.x,r6.v,v7))) (
  some (.inr (s10.1,s10.2.1)))
def zO4 (x0:zP) (x1:Int) (s9:(List (List Int)) × Int) (s12:(List (List Int)) × Int):Option (((List (List Int)) × Int) ⊕ (List (List Int))) :=
 cond (decide (s12.2 < (x0.p.zA.length:Int))) (
  (f_Y x0 x1 s9.2).bind fun r14 =>
  (f_Y x0 x1 s12.2).bind fun r15 =>
  (f_Y x0 s9.2 s12.2).bind fun r16 =>
  (f_f x0 x1 r16).bind fun r17 =>
  (rng (x1 + 1)).bind fun v18 =>
  (f_d x0 v18 r15 r14).bind fun r19 =>
  (rng (x1 + 1)).bind fun v20 =>
  (f_d x0 v20 r14 r17).bind fun r21 =>
  (zKE x0 r19 r21).bind fun r22 =>
  (xH s12.1 [r22]).bind fun v23 =>
  (rng (s12.2 + 1)).bind fun v24 =>
  some (.inl (v23,v24))) (
  some (.inr s12.1))
def zRR (x0:zP) (x1:Int) (s9:(List (List Int)) × Int):Option (((List (List Int)) × Int) ⊕ (List (List Int))) :=
 cond (decide (s9.2 < (x0.p.zA.length:Int))) (
  (zKD x0).bind fun r2 =>
  (zG (zO3 x0 x1 s9) (r2.x,r2.v,0)).bind fun r8 =>
  (zMe x0 s9.2).bind fun r9 =>
  (f_f x0 x1 r9).bind fun r10 =>
  (zKE x0 (zE.mk r8.1 r8.2) r10).bind fun r11 =>
  (xH s9.1 [r11]).bind fun v12 =>
  (rng (s9.2 + 1)).bind fun v13 =>
  (zG (zO4 x0 x1 s9) (v12,v13)).bind fun r25 =>
  (rng (s9.2 + 1)).bind fun v26 =>
  some (.inl (r25,v26))) (
  some (.inr s9.1))
def zRS (x0:zP) (x1:Int) (s20:(List Int) × (List Int) × Int):Option (((List Int) × (List Int) × Int) ⊕ ((List Int) × (List Int))) :=
 (ixO x0.p.zA x1).bind fun v35 =>
 cond (decide (s20.2.2 < v35)) (
  (f_f x0 x1 (zE.mk s20.1 s20.2.1)).bind fun r36 =>
  (rng (s20.2.2 + 1)).bind fun v37 =>
  some (.inl (r36.x,r36.v,v37))) (
  some (.inr (s20.1,s20.2.1)))
def zO5 (x0:zP) (x1:Int) (r28:zE) (s19:(List (List Int)) × Int):Option (((List (List Int)) × Int) ⊕ (List (List Int))) :=
 cond (decide (s19.2 < (x0.p.zA.length:Int))) (
  (zKD x0).bind fun r33 =>
  (ixO r33.x s19.2).bind fun _ =>
  (zG (zRS x0 x1) (r33.x.set s19.2.toNat 1,r33.v,0)).bind fun r38 =>
  (rng (x1 + 1)).bind fun v39 =>
  (f_d x0 v39 r28 (zE.mk r38.1 r38.2)).bind fun r40 =>
  (rng (x1 + 1)).bind fun v41 =>
  (f_d x0 v41 (zE.mk (r33.x.set s19.2.toNat 1) r33.v) r28).bind fun r42 =>
  (zKE x0 r40 r42).bind fun r43 =>
  (xH s19.1 [r43]).bind fun v44 =>
  (rng (s19.2 + 1)).bind fun v45 =>
  some (.inl (v44,v45))) (
  some (.inr s19.1))
def f_h (x0:zP) (x1:Int):Option (List (List Int)) :=
 (rng (x1 + 1)).bind fun v1 =>
 (zG (zRR x0 x1) ([],v1)).bind fun r27 =>
 (zMe x0 x1).bind fun r28 =>
 (f_f x0 x1 r28).bind fun r29 =>
 (zKE x0 r29 r28).bind fun r30 =>
 (xH r27 [r30]).bind fun v31 =>
 (rng (x1 + 1)).bind fun v32 =>
 (zG (zO5 x0 x1 r28) (v31,v32)).bind fun r46 =>
 some r46
def zKF (x0:zP) (s1:(List (List Int)) × Int):Option (((List (List Int)) × Int) ⊕ (List (List Int))) :=
 cond (decide (s1.2 < (x0.p.zA.length:Int))) (
  (f_h x0 s1.2).bind fun r1 =>
  (xH s1.1 r1).bind fun v2 =>
  (rng (s1.2 + 1)).bind fun v3 =>
  some (.inl (v2,v3))) (
  some (.inr s1.1))
def zTv (x0:zP):Option (List (List Int)) :=
 (zG (zKF x0) ([],0)).bind fun r4 =>
 some r4
def zKG (r1:(List (List Int))) (s1:Int):Option (Int ⊕ (Unit ⊕ Bool)) :=
 cond (decide (s1 < (r1.length:Int))) (
  (ixO r1 s1).bind fun v2 =>
  (zRN v2).bind fun r3 =>
  cond (!r3) (
   some (.inr (.inr false))) (
   (rng (s1 + 1)).bind fun v4 =>
   some (.inl v4))) (
  some (.inr (.inl ())))
def zRT (x0:SPr) (x1:zB) (x2:List (List Int)):Option Bool :=
 (zTv (zP.mk x0 x1 x2)).bind fun r1 =>
 (zG (zKG r1) 0).bind fun r5 =>
 match r5 with
 | (.inl r5) =>
  some true
 | (.inr r5) =>
  some r5
def zTw (x0:SPr) (x1:zB) (x2:List (List Int)):Option Bool :=
 (zMd x0).bind fun r1 =>
 cond ((x2.length:Int) == r1) (
  (zVB x1 x2).bind fun r2 =>
  some r2) (
  some false)
def zTx (x0:SPr) (x1:zB) (x2:List (List Int)):Option Bool :=
 (f_j x0 x1 x2).bind fun r1 =>
 (f_M r1).bind fun r2 =>
 some (r2 == 0)
def zTy (x0:Int):Option Bool :=
 some (x0 != 0)
def zHN (x0:List Int) (s1:Int):Option (Int ⊕ (Unit ⊕ Int)) :=
 cond (decide (s1 < (x0.length:Int))) (
  (ixO x0 s1).bind fun v1 =>
  (zTy v1).bind fun r2 =>
  cond r2 (
   some (.inr (.inr s1))) (
   (rng (s1 + 1)).bind fun v3 =>
   some (.inl v3))) (
  some (.inr (.inl ())))
def zTz (x0:List Int):Option Int :=
 (zG (zHN x0) 0).bind fun r4 =>
 match r4 with
 | (.inl r4) =>
  some (-1)
 | (.inr r4) =>
  some r4
def zKH (x0:List (List Int)) (s1:(List Int) × Int):Option (((List Int) × Int) ⊕ (List Int)) :=
 cond (decide (s1.2 < (x0.length:Int))) (
  (ixO x0 s1.2).bind fun v1 =>
  (zTz v1).bind fun r2 =>
  (xH s1.1 [r2]).bind fun v3 =>
  (rng (s1.2 + 1)).bind fun v4 =>
  some (.inl (v3,v4))) (
  some (.inr s1.1))
def zT0 (x0:List (List Int)):Option (List Int) :=
 (zG (zKH x0) ([],0)).bind fun r5 =>
 some r5
def zHO (x0:zS) (r2:(List Int)) (s1:(List Int) × Int):Option (((List Int) × Int) ⊕ (List Int)) :=
 cond (decide (s1.2 < (r2.length:Int))) (
  (ixO r2 s1.2).bind fun v3 =>
  (ixO x0.Rows s1.2).bind fun v4 =>
  (ixO s1.1 v3).bind fun v5 =>
  (rng (0 - v5)).bind fun v6 =>
  (f_u s1.1 v4 v6 x0.Prime).bind fun r7 =>
  (rng (s1.2 + 1)).bind fun v8 =>
  some (.inl (r7,v8))) (
  some (.inr s1.1))
def zT1 (x0:zS) (x1:List Int):Option (List Int) :=
 (f_w x1).bind fun r1 =>
 (zT0 x0.Rows).bind fun r2 =>
 (zG (zHO x0 r2) (r1,0)).bind fun r9 =>
 some r9
def zKI (x0:zB) (x1:List Int) (s1:(List (List Int)) × Int):Option (((List (List Int)) × Int) ⊕ (List (List Int))) :=
 cond (decide (s1.2 < (x0.zI.length:Int))) (
  (ixO x0.zI s1.2).bind fun v1 =>
  (f_C x0.Prime x1 v1 x0.Dim).bind fun r2 =>
  (rng (x0.Prime - 1)).bind fun v3 =>
  (f_n x0.Prime r2 v3 x1).bind fun r4 =>
  (xH s1.1 [r4]).bind fun v5 =>
  (rng (s1.2 + 1)).bind fun v6 =>
  some (.inl (v5,v6))) (
  some (.inr s1.1))
def zT2 (x0:zB) (x1:List Int):Option (List (List Int)) :=
 (zG (zKI x0 x1) ([],0)).bind fun r7 =>
 some r7
def zRU (x0:List (List Int)) (s1:(List Int) × Int):Option (((List Int) × Int) ⊕ (List Int)) :=
 cond (decide (s1.2 < (x0.length:Int))) (
  (ixO x0 s1.2).bind fun v1 =>
  (xH s1.1 v1).bind fun v2 =>
  (rng (s1.2 + 1)).bind fun v3 =>
  some (.inl (v2,v3))) (
  some (.inr s1.1))
def f_W (x0:List (List Int)):Option (List Int) :=
 (zG (zRU x0) ([],0)).bind fun r4 =>
 some r4
def zKJ (x0:zB) (r1:(List (List Int))) (s1:(List (List Int)) × Int):Option (((List (List Int)) × Int) ⊕ (List (List Int))) :=
 cond (decide (s1.2 < (r1.length:Int))) (
  (ixO r1 s1.2).bind fun v2 =>
  (zT2 x0 v2).bind fun r3 =>
  (f_W r3).bind fun r4 =>
  (xH s1.1 [r4]).bind fun v5 =>
  (rng (s1.2 + 1)).bind fun v6 =>
  some (.inl (v5,v6))) (
  some (.inr s1.1))
def zT3 (x0:zB):Option (List (List Int)) :=
 (f_G x0.Dim).bind fun r1 =>
 (zG (zKJ x0 r1) ([],0)).bind fun r7 =>
 some r7
def zKK (x0:SPr) (x1:zB) (x2:List Int) (s1:(List (List Int)) × Int):Option (((List (List Int)) × Int) ⊕ (List (List Int))) :=
 cond (decide (s1.2 < (x0.zA.length:Int))) (
  (zKz x1 s1.2).bind fun r1 =>
  (zOo x2 r1).bind fun r2 =>
  (f_u r2 x2 (-1) x1.Prime).bind fun r3 =>
  (xH s1.1 [r3]).bind fun v4 =>
  (rng (s1.2 + 1)).bind fun v5 =>
  some (.inl (v4,v5))) (
  some (.inr s1.1))
def zT4 (x0:SPr) (x1:zB) (x2:List Int):Option (List (List Int)) :=
 (zG (zKK x0 x1 x2) ([],0)).bind fun r6 =>
 some r6
def zKL (x0:SPr) (x1:zB) (s1:(List (List Int)) × Int):Option (((List (List Int)) × Int) ⊕ (List (List Int))) :=
 cond (decide (s1.2 < x1.Dim)) (
  (zGW x1.Dim s1.2).bind fun r1 =>
  (zT4 x0 x1 r1).bind fun r2 =>
  (f_r r2).bind fun r3 =>
  (xH s1.1 [r3]).bind fun v4 =>
  (rng (s1.2 + 1)).bind fun v5 =>
  some (.inl (v4,v5))) (
  some (.inr s1.1))
def zT5 (x0:SPr) (x1:zB):Option (List (List Int)) :=
 (zG (zKL x0 x1) ([],0)).bind fun r6 =>
 some r6
def zO6 (x2:Int) (r2:(List (List Int))) (s1:(List (List Int)) × Int):Option (((List (List Int)) × Int) ⊕ (List (List Int))) :=
 cond (decide (s1.2 < (r2.length:Int))) (
  (ixO r2 s1.2).bind fun v3 =>
  (zU v3 0 x2).bind fun v4 =>
  (f_F v4).bind fun r5 =>
  cond r5 (
   (zU v3 x2 v3.length).bind fun v6 =>
   (xH s1.1 [v6]).bind fun v7 =>
   (rng (s1.2 + 1)).bind fun v8 =>
   some (.inl (v7,v8))) (
   (rng (s1.2 + 1)).bind fun v9 =>
   some (.inl (s1.1,v9)))) (
  some (.inr s1.1))
def f_O (x0:Int) (x1:List (List Int)) (x2:Int):Option (List (List Int)) :=
 (zRE x1).bind fun r1 =>
 (f_g x0 r1).bind fun r2 =>
 (zG (zO6 x2 r2) ([],0)).bind fun r10 =>
 (f_g x0 r10).bind fun r11 =>
 some r11
def zO7 (x0:List Int) (x1:Int) (s1:(List (List Int)) × Int):Option (((List (List Int)) × Int) ⊕ (List (List Int))) :=
 (rng (s1.2 + x1)).bind fun v1 =>
 cond (decide (v1 ≤ (x0.length:Int))) (
  (rng (s1.2 + x1)).bind fun v2 =>
  (zU x0 s1.2 v2).bind fun v3 =>
  (f_s v3).bind fun r4 =>
  (xH s1.1 [r4]).bind fun v5 =>
  (rng (s1.2 + x1)).bind fun v6 =>
  some (.inl (v5,v6))) (
  some (.inr s1.1))
def f_P (x0:List Int) (x1:Int):Option (List (List Int)) :=
 (zG (zO7 x0 x1) ([],0)).bind fun r7 =>
 some r7
def zRV (x0:SPr) (x1:zB) (x2:List (List Int)) (s5:(List (List Int)) × Int) (s6:(List Int) × Int):Option (((List Int) × Int) ⊕ (List Int)) :=
 (ixO x0.zA s5.2).bind fun v2 =>
 cond (decide (s6.2 < v2)) (
  (zEU x1 x2 s6.1 s5.2).bind fun r3 =>
  (rng (s6.2 + 1)).bind fun v4 =>
  some (.inl (r3,v4))) (
  some (.inr s6.1))
def zRW (x0:SPr) (x1:zB) (x2:List (List Int)) (m1:Nat) (s5:(List (List Int)) × Int):Option (((List (List Int)) × Int) ⊕ (List (List Int))) :=
 cond (decide (s5.2 < (x0.zA.length:Int))) (
  (zG (zRV x0 x1 x2 s5) (List.replicate m1 (0:Int),0)).bind fun r5 =>
  (rng (x1.Prime - 1)).bind fun v6 =>
  (ixO x0.zT s5.2).bind fun v7 =>
  (f_E x1 x2 (List.replicate m1 (0:Int)) v7).bind fun r8 =>
  (f_n x1.Prime r5 v6 r8).bind fun r9 =>
  (xH s5.1 [r9]).bind fun v10 =>
  (rng (s5.2 + 1)).bind fun v11 =>
  some (.inl (v10,v11))) (
  some (.inr s5.1))
def zRX (x0:SPr) (x1:zB) (x2:List (List Int)) (m1:Nat) (s13:(List (List Int)) × Int) (s14:(List (List Int)) × Int):Option (((List (List Int)) × Int) ⊕ (List (List Int))) :=
 cond (decide (s14.2 < (x0.zA.length:Int))) (
  (zEU x1 x2 (List.replicate m1 (0:Int)) s14.2).bind fun r14 =>
  (zEU x1 x2 r14 s13.2).bind fun r15 =>
  (zEU x1 x2 (List.replicate m1 (0:Int)) s13.2).bind fun r16 =>
  (ixO x0.zC s13.2).bind fun v17 =>
  (rng (s14.2 - s13.2)).bind fun v18 =>
  (rng (v18 - 1)).bind fun v19 =>
  (ixO v17 v19).bind fun v20 =>
  (f_E x1 x2 r16 v20).bind fun r21 =>
  (rng (x1.Prime - 1)).bind fun v22 =>
  (f_n x1.Prime r15 v22 r21).bind fun r23 =>
  (xH s14.1 [r23]).bind fun v24 =>
  (rng (s14.2 + 1)).bind fun v25 =>
  some (.inl (v24,v25))) (
  some (.inr s14.1))
def zO8 (x0:SPr) (x1:zB) (x2:List (List Int)) (m1:Nat) (s13:(List (List Int)) × Int):Option (((List (List Int)) × Int) ⊕ (List (List Int))) :=
 cond (decide (s13.2 < (x0.zA.length:Int))) (
  (rng (s13.2 + 1)).bind fun v13 =>
  (zG (zRX x0 x1 x2 m1 s13) (s13.1,v13)).bind fun r26 =>
  (rng (s13.2 + 1)).bind fun v27 =>
  some (.inl (r26,v27))) (
  some (.inr s13.1))
def f_o (x0:SPr) (x1:zB) (x2:List (List Int)):Option (List (List Int)) :=
 (yU x1.Dim).bind fun m1 =>
 (zG (zRW x0 x1 x2 m1) ([],0)).bind fun r12 =>
 (zG (zO8 x0 x1 x2 m1) (r12,0)).bind fun r28 =>
 some r28
def zKM (x0:SPr) (x1:zB) (v1:Int) (s1:(List (List Int)) × Int):Option (((List (List Int)) × Int) ⊕ (List (List Int))) :=
 cond (decide (s1.2 < v1)) (
  (yU v1).bind fun m2 =>
  (ixO (List.replicate m2 (0:Int)) s1.2).bind fun _ =>
  (f_P ((List.replicate m2 (0:Int)).set s1.2.toNat 1) x1.Dim).bind fun r4 =>
  (f_o x0 x1 r4).bind fun r5 =>
  (f_W r5).bind fun r6 =>
  (xH s1.1 [r6]).bind fun v7 =>
  (rng (s1.2 + 1)).bind fun v8 =>
  some (.inl (v7,v8))) (
  some (.inr s1.1))
def zT6 (x0:SPr) (x1:zB):Option (List (List Int)) :=
 (rng ((x0.zA.length:Int) * x1.Dim)).bind fun v1 =>
 (zG (zKM x0 x1 v1) ([],0)).bind fun r9 =>
 some r9
def zKN (x0:SPr) (x1:zB) (v1:Int) (s1:(List (List Int)) × Int):Option (((List (List Int)) × Int) ⊕ (List (List Int))) :=
 cond (decide (s1.2 < v1)) (
  (zGW v1 s1.2).bind fun r2 =>
  (f_X r2 x1.Dim).bind fun r3 =>
  (zTs x0 x1 r3).bind fun r4 =>
  (f_r r4).bind fun r5 =>
  (xH s1.1 [r5]).bind fun v6 =>
  (rng (s1.2 + 1)).bind fun v7 =>
  some (.inl (v6,v7))) (
  some (.inr s1.1))
def zRY (x0:SPr) (x1:zB):Option (List (List Int)) :=
 (rng ((x0.zA.length:Int) * x1.Dim)).bind fun v1 =>
 (zG (zKN x0 x1 v1) ([],0)).bind fun r8 =>
 some r8
def zHP (x0:SPr) (x1:zB) (v1:Int) (s1:(List (List Int)) × Int × Int):Option (((List (List Int)) × Int × Int) ⊕ ((List (List Int)) × Int)) :=
 cond (decide (s1.2.2 < v1)) (
  (yU v1).bind fun m2 =>
  (ixO (List.replicate m2 (0:Int)) s1.2.2).bind fun _ =>
  (f_P ((List.replicate m2 (0:Int)).set s1.2.2.toNat 1) x1.Dim).bind fun r4 =>
  (f_x x0 x1 r4).bind fun r5 =>
  (xH s1.1 [r5]).bind fun v6 =>
  (rng (s1.2.2 + 1)).bind fun v7 =>
  some (.inl (v6,(r5.length:Int),v7))) (
  some (.inr (s1.1,s1.2.1)))
def zRZ (x0:SPr) (x1:zB):Option (List (List Int)) :=
 (rng ((x0.zA.length:Int) * x1.Dim)).bind fun v1 =>
 (zG (zHP x0 x1 v1) ([],0,0)).bind fun r8 =>
 (f_K x1.Prime r8.1 r8.2).bind fun r9 =>
 some r9
def zT7 (x0:SPr) (x1:zB):Option (List (List Int)) :=
 (zRY x0 x1).bind fun r1 =>
 (zMd x0).bind fun r2 =>
 (rng (r2 * x1.Dim)).bind fun v3 =>
 (f_O x1.Prime r1 v3).bind fun r4 =>
 some r4
def zVC (x0:SPr) (x1:zB):Option Int :=
 (zT7 x0 x1).bind fun r1 =>
 (zT5 x0 x1).bind fun r2 =>
 (f_g x1.Prime r2).bind fun r3 =>
 (rng ((r1.length:Int) - (r3.length:Int))).bind fun v4 =>
 some v4
def zT8 (x0:SPr) (x1:zB) (x2:List (List Int)) (x3:List (List Int)):Option Int :=
 (zTe x0 x1).bind fun r1 =>
 cond (!r1) (
  some 1) (
  (zRP x0 x1 x2).bind fun r2 =>
  cond (!r2) (
   some 1) (
   (zRP x0 x1 x3).bind fun r3 =>
   cond (!r3) (
    some 1) (
    (zRT x0 x1 x2).bind fun r4 =>
    cond (!r4) (
     some 5) (
     (zRT x0 x1 x3).bind fun r5 =>
     cond (!r5) (
      some 5) (
      some 0)))))
def zSa (x0:SPr) (x1:zB) (x2:List (List (List Int))) (s1:Int):Option (Int ⊕ (Unit ⊕ Int)) :=
 cond (decide (s1 < (x2.length:Int))) (
  (ixO x2 s1).bind fun v2 =>
  (zTw x0 x1 v2).bind fun r3 =>
  cond (!r3) (
   some (.inr (.inr 1))) (
   (rng (s1 + 1)).bind fun v4 =>
   some (.inl v4))) (
  some (.inr (.inl ())))
def zSb (x0:SPr) (x1:zB) (x2:List (List (List Int))) (s3:Int):Option (Int ⊕ (Unit ⊕ Int)) :=
 cond (decide (s3 < (x2.length:Int))) (
  (ixO x2 s3).bind fun v6 =>
  (zTx x0 x1 v6).bind fun r7 =>
  cond (!r7) (
   some (.inr (.inr 5))) (
   (rng (s3 + 1)).bind fun v8 =>
   some (.inl v8))) (
  some (.inr (.inl ())))
def f_L (x0:SPr) (x1:zB) (x2:List (List (List Int))):Option Int :=
 (f_D x0 x1).bind fun r1 =>
 cond (!r1) (
  some 1) (
  (zG (zSa x0 x1 x2) 0).bind fun r5 =>
  match r5 with
  | (.inl r5) =>
   (zG (zSb x0 x1 x2) 0).bind fun r9 =>
   match r9 with
   | (.inl r9) =>
    some 0
   | (.inr r9) =>
    some r9
  | (.inr r5) =>
   some r5)
def zO9 (x2:Int) (r1:(List (List Int))) (s1:(List (List Int)) × Int):Option (((List (List Int)) × Int) ⊕ (List (List Int))) :=
 cond (decide (s1.2 < (r1.length:Int))) (
  (ixO r1 s1.2).bind fun v4 =>
  (f_A v4).bind fun r5 =>
  cond (decide (r5 < x2)) (
   (ixO r1 s1.2).bind fun v6 =>
   (xH s1.1 [v6]).bind fun v7 =>
   (rng (s1.2 + 1)).bind fun v8 =>
   some (.inl (v7,v8))) (
   (rng (s1.2 + 1)).bind fun v9 =>
   some (.inl (s1.1,v9)))) (
  some (.inr s1.1))
def f_Q (x0:Int) (x1:List (List Int)) (x2:Int) (x3:List Int):Option ((List Int) × Bool) :=
 (zRH x0 x1).bind fun r1 =>
 (f_s x3).bind fun r2 =>
 (vP r2 (x1.length:Int) (0:Int)).bind fun v3 =>
 (zG (zO9 x2 r1) ([],0)).bind fun r10 =>
 (zOr x0 r10 v3).bind fun r11 =>
 (zU r11 0 x2).bind fun v12 =>
 (zRN v12).bind fun r13 =>
 cond (!r13) (
  some ([],false)) (
  (rng (x0 - 1)).bind fun v14 =>
  (zU r11 x2 r11.length).bind fun v15 =>
  (zOs x0 v14 v15).bind fun r16 =>
  (f_K x0 x1 x2).bind fun r17 =>
  (zOr x0 r17 r16).bind fun r18 =>
  some (r18,true))
def zVD (x0:Int) (x1:List (List Int)):Option zS :=
 (ixO x1 0).bind fun v1 =>
 some (zS.mk x0 (v1.length:Int) x1)
def zT9 (x0:Int):Option Bool :=
 some (x0 != 0)
def zHQ (x0:List Int) (s1:Int):Option (Int ⊕ (Unit ⊕ Int)) :=
 cond (decide (s1 < (x0.length:Int))) (
  (ixO x0 s1).bind fun v1 =>
  (zT9 v1).bind fun r2 =>
  cond r2 (
   some (.inr (.inr s1))) (
   (rng (s1 + 1)).bind fun v3 =>
   some (.inl v3))) (
  some (.inr (.inl ())))
def zTA (x0:List Int):Option Int :=
 (zG (zHQ x0) 0).bind fun r4 =>
 match r4 with
 | (.inl r4) =>
  some (-1)
 | (.inr r4) =>
  some r4
def zVE (x0:zS):Option zS :=
 (f_O x0.Prime x0.Rows x0.xS).bind fun r1 =>
 some (zS.mk x0.Prime (x0.Rows.length:Int) r1)
def zOA (x0:zS) (r4:(List (List Int))) (s1:(List Int) × Int):Option (((List Int) × Int) ⊕ (List Int)) :=
 cond (decide (s1.2 < (r4.length:Int))) (
  (ixO r4 s1.2).bind fun v5 =>
  (zTA v5).bind fun r6 =>
  cond (decide (r6 < x0.xS)) (
   (ixO s1.1 r6).bind fun v7 =>
   (rng (0 - v7)).bind fun v8 =>
   (f_u s1.1 v5 v8 x0.Prime).bind fun r9 =>
   (rng (s1.2 + 1)).bind fun v10 =>
   some (.inl (r9,v10))) (
   (rng (s1.2 + 1)).bind fun v11 =>
   some (.inl (s1.1,v11)))) (
  some (.inr s1.1))
def zOB (x0:zS) (r12:(List Int)) (s3:(List Int) × Int):Option (((List Int) × Int) ⊕ (List Int)) :=
 cond (decide (s3.2 < (((r12.length:Int).toNat - (x0.xS:Int).toNat:Nat):Int))) (
  (zU s3.1 x0.xS r12.length).bind fun v16 =>
  (ixO v16 s3.2).bind fun v17 =>
  (rng (0 - v17)).bind fun v18 =>
  (zGX v18 x0.Prime).bind fun r19 =>
  (zU s3.1 x0.xS r12.length).bind fun v20 =>
  (ixO v20 s3.2).bind fun _ =>
  (rng (s3.2 + 1)).bind fun v22 =>
  some (.inl (s3.1.set (x0.xS + s3.2).toNat r19,v22))) (
  some (.inr s3.1))
def f_z (x0:zS) (x1:List Int):Option ((List Int) × Bool) :=
 (f_w x1).bind fun r1 =>
 (vP r1 (x0.Rows.length:Int) (0:Int)).bind fun v2 =>
 (zRE x0.Rows).bind fun r3 =>
 (f_g x0.Prime r3).bind fun r4 =>
 (zG (zOA x0 r4) (v2,0)).bind fun r12 =>
 (zU r12 0 x0.xS).bind fun v13 =>
 (f_F v13).bind fun r14 =>
 cond (!r14) (
  some ([],false)) (
  (zU r12 x0.xS r12.length).bind fun _ =>
  (zG (zOB x0 r12) (r12,0)).bind fun r23 =>
  (zVE x0).bind fun r24 =>
  (zU r23 x0.xS r12.length).bind fun v25 =>
  (zT1 r24 v25).bind fun r26 =>
  some (r26,true))
def zSc (x0:SPr) (x1:zB) (x2:List Int):Option ((List (List Int)) × Bool) :=
 cond ((x0.zA.length:Int) == 0) (
  some ([],true)) (
  (yU (x2.length:Int)).bind fun m1 =>
  (f_u (List.replicate m1 (0:Int)) x2 (-1) x1.Prime).bind fun r2 =>
  (zRY x0 x1).bind fun r3 =>
  (zVD x1.Prime r3).bind fun r4 =>
  (f_z r4 r2).bind fun r5 =>
  cond (!r5.2) (
   some ([],false)) (
   (f_X r5.1 x1.Dim).bind fun r6 =>
   some (r6,true)))
def zTB (x0:SPr) (x1:zB) (x2:List (List Int)):Option ((List (List Int)) × Bool) :=
 (f_W x2).bind fun r1 =>
 (zT6 x0 x1).bind fun r2 =>
 (rng (x1.Prime - 1)).bind fun v3 =>
 (zOs x1.Prime v3 r1).bind fun r4 =>
 (f_Q x1.Prime r2 (r1.length:Int) r4).bind fun r5 =>
 cond (!r5.2) (
  some ([],false)) (
  (f_P r5.1 x1.Dim).bind fun r6 =>
  some (r6,true))
def zHR (x1:zB) (s1:Int × Int):Option ((Int × Int) ⊕ Int) :=
 cond (decide (s1.2 > 0)) (
  (rng (s1.1 * x1.Prime)).bind fun v7 =>
  (rng (s1.2 - 1)).bind fun v8 =>
  some (.inl (v7,v8))) (
  some (.inr s1.1))
def zSd (x0:SPr) (x1:zB) (x2:List (List Int)):Option (Int × Int) :=
 (zT8 x0 x1 x2 x2).bind fun r1 =>
 cond (r1 != 0) (
  some (0,r1)) (
  (zTB x0 x1 x2).bind fun r2 =>
  cond (!r2.2) (
   some (0,4)) (
   (zRZ x0 x1).bind fun r3 =>
   (zT3 x1).bind fun r4 =>
   (f_m x1.Prime r4).bind fun r5 =>
   (rng ((r3.length:Int) - (r5.length:Int))).bind fun v6 =>
   (zG (zHR x1) (1,v6)).bind fun r9 =>
   some (r9,0)))
def zHS (x0:Int) (x1:Int) (s1:Int × Int):Option ((Int × Int) ⊕ Int) :=
 cond (decide (s1.2 < x1)) (
  (rng (s1.1 * x0)).bind fun v1 =>
  (rng (s1.2 + 1)).bind fun v2 =>
  some (.inl (v1,v2))) (
  some (.inr s1.1))
def zTC (x0:Int) (x1:Int):Option Int :=
 (zG (zHS x0 x1) (1,0)).bind fun r3 =>
 some r3
def zSe (x0:SPr) (x1:zB) (x2:List (List Int)):Option (Int × Int) :=
 (f_L x0 x1 [x2]).bind fun r1 =>
 cond (r1 != 0) (
  some (0,r1)) (
  (f_r x2).bind fun r2 =>
  (zSc x0 x1 r2).bind fun r3 =>
  cond (!r3.2) (
   some (0,4)) (
   (zVC x0 x1).bind fun r4 =>
   (zTC x1.Prime r4).bind fun r5 =>
   some (r5,0)))
def zTD (x0:SPr) (x1:zB) (x2:List (List Int)):Option Bool :=
 (zSV x0 1048576).bind fun r1 =>
 cond (decide (r1 < 0)) (
  some true) (
  (zSW x1 r1).bind fun r2 =>
  cond (decide (r2 < 0)) (
   some true) (
   (zQF x2 r2).bind fun r3 =>
   cond (decide (r3 < 0)) (
    some true) (
    (zOi x0).bind fun r4 =>
    (zOj x1).bind fun r5 =>
    (f_R x2).bind fun r6 =>
    (zSd r4 r5 r6).bind fun r7 =>
    (zOi x0).bind fun r8 =>
    (zOj x1).bind fun r9 =>
    (f_R x2).bind fun r10 =>
    (zSe r8 r9 r10).bind fun r11 =>
    cond (r11.1 != r7.1) (
     some false) (
     cond (r11.2 != r7.2) (
      some false) (
      (zOi x0).bind fun r12 =>
      (zTo r8 r12).bind fun r13 =>
      cond (!r13) (
       some false) (
       (zOj x1).bind fun r14 =>
       (zTn r9 r14).bind fun r15 =>
       cond (!r15) (
        some false) (
        (f_R x2).bind fun r16 =>
        (zOp r10 r16).bind fun r17 =>
        cond (!r17) (
         some false) (
         some true))))))))
end Go.Wk
