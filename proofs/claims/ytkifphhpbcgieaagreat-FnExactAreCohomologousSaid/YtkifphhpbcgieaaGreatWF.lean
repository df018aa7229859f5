/- The program and the reference agree which cocycles are cohomologous, for all arguments (FnExactAreCohomologous). This file is a part of the proof. -/
import Derived.Test.YtkifphhpbcgieaaGreatAbC
noncomputable section
namespace Go.Wk
open Go Go.Ab
structure SPr where
 zA:List Int
 zW:List (List Int)
 zC:List (List (List Int))
abbrev wJ (x:SPr):T:=.agg [(L 1 I) x.zA,(L 1 (L 1 I)) x.zW,(L 1 (L 1 (L 1 I))) x.zC]
instance:Enc wJ:=.of fun _ => zOZ ⟨Enc.t (f:=(L 1 I)) inferInstance _,Enc.t (f:=(L 1 (L 1 I))) inferInstance _,Enc.t (f:=(L 1 (L 1 (L 1 I)))) inferInstance _,trivial⟩
structure zE where
 Prime:Int
 Dim:Int
 zL:List (List (List Int))
abbrev yN (x:zE):T:=.agg [I x.Prime,I x.Dim,(L 1 (L 1 (L 1 I))) x.zL]
instance:Enc yN:=.of fun _ => zOZ ⟨Enc.t (f:=I) inferInstance _,Enc.t (f:=I) inferInstance _,Enc.t (f:=(L 1 (L 1 (L 1 I)))) inferInstance _,trivial⟩
structure yU where
 Kind:Int
 zTB:Int
 zTA:Int
 zR8:Int
abbrev zFf (x:yU):T:=.agg [I x.Kind,I x.zTB,I x.zTA,I x.zR8]
instance:Enc zFf:=.of fun _ => zOZ ⟨Enc.t (f:=I) inferInstance _,Enc.t (f:=I) inferInstance _,Enc.t (f:=I) inferInstance _,Enc.t (f:=I) inferInstance _,trivial⟩
structure zU where
 Prime:Int
 xG:Int
 Rows:List (List Int)
abbrev kX (x:zU):T:=.agg [I x.Prime,I x.xG,(L 1 (L 1 I)) x.Rows]
instance:Enc kX:=.of fun _ => zOZ ⟨Enc.t (f:=I) inferInstance _,Enc.t (f:=I) inferInstance _,Enc.t (f:=(L 1 (L 1 I))) inferInstance _,trivial⟩
structure zS where
 p:SPr
 m:zE
 wK:List (List Int)
structure zJ where
 x:List Int
 v:List Int
abbrev yP (x:zJ):T:=.agg [(L 1 I) x.x,(L 1 I) x.v]
instance:Enc yP:=.of fun _ => zOZ ⟨Enc.t (f:=(L 1 I)) inferInstance _,Enc.t (f:=(L 1 I)) inferInstance _,trivial⟩
def zQh (x0:List Int) (x1:Int):Option Int :=
 (rng (x1 - (x0.length:Int))).bind fun v1 =>
 cond (decide (v1 < 0)) (
  some (-1)) (
  some v1)
def zT6 (x0:List (List Int)) (s1:Int × Int):Option ((Int × Int) ⊕ (Int ⊕ Int)) :=
 cond (decide (s1.2 < (x0.length:Int))) (
  (ixO x0 s1.2).bind fun v2 =>
  (zQh v2 s1.1).bind fun r3 =>
  cond (decide (r3 < 0)) (
   some (.inr (.inr (-1)))) (
   (rng (s1.2 + 1)).bind fun v4 =>
   some (.inl (r3,v4)))) (
  some (.inr (.inl s1.1)))
def zNK (x0:List (List Int)) (x1:Int):Option Int :=
 (rng (x1 - (x0.length:Int))).bind fun v1 =>
 cond (decide (v1 < 0)) (
  some (-1)) (
  (zH (zT6 x0) (v1,0)).bind fun r5 =>
  match r5 with
  | (.inl r5) =>
   some r5
  | (.inr r5) =>
   some r5)
def zT7 (x0:List (List (List Int))) (s1:Int × Int):Option ((Int × Int) ⊕ (Int ⊕ Int)) :=
 cond (decide (s1.2 < (x0.length:Int))) (
  (ixO x0 s1.2).bind fun v2 =>
  (zNK v2 s1.1).bind fun r3 =>
  cond (decide (r3 < 0)) (
   some (.inr (.inr (-1)))) (
   (rng (s1.2 + 1)).bind fun v4 =>
   some (.inl (r3,v4)))) (
  some (.inr (.inl s1.1)))
def zSu (x0:List (List (List Int))) (x1:Int):Option Int :=
 (rng (x1 - (x0.length:Int))).bind fun v1 =>
 cond (decide (v1 < 0)) (
  some (-1)) (
  (zH (zT7 x0) (v1,0)).bind fun r5 =>
  match r5 with
  | (.inl r5) =>
   some r5
  | (.inr r5) =>
   some r5)
def zSv (x0:SPr) (x1:Int):Option Int :=
 (zQh x0.zA x1).bind fun r1 =>
 cond (decide (r1 < 0)) (
  some (-1)) (
  (zNK x0.zW r1).bind fun r2 =>
  cond (decide (r2 < 0)) (
   some (-1)) (
   (zSu x0.zC r2).bind fun r3 =>
   cond (decide (r3 < 0)) (
    some (-1)) (
    some r3)))
def zSw (x0:zE) (x1:Int):Option Int :=
 (zSu x0.zL x1).bind fun r1 =>
 cond (decide (r1 < 0)) (
  some (-1)) (
  some r1)
def zQi (x0:List Int) (s1:(List Int) × Int):Option (((List Int) × Int) ⊕ (List Int)) :=
 cond (decide (s1.2 < (x0.length:Int))) (
  (ixO x0 s1.2).bind fun v2 =>
  (ixO s1.1 s1.2).bind fun _ =>
  (rng (s1.2 + 1)).bind fun v4 =>
  some (.inl (s1.1.set s1.2.toNat v2,v4))) (
  some (.inr s1.1))
def zNL (x0:List Int):Option (List Int) :=
 (yS (x0.length:Int)).bind fun m1 =>
 (zH (zQi x0) (List.replicate m1 (0:Int),0)).bind fun r5 =>
 some r5
def zUB (x0:List (List Int)) (s1:(List (List Int)) × Int):Option (((List (List Int)) × Int) ⊕ (List (List Int))) :=
 cond (decide (s1.2 < (x0.length:Int))) (
  (ixO x0 s1.2).bind fun v2 =>
  (zNL v2).bind fun r3 =>
  (ixO s1.1 s1.2).bind fun _ =>
  (rng (s1.2 + 1)).bind fun v5 =>
  some (.inl (s1.1.set s1.2.toNat r3,v5))) (
  some (.inr s1.1))
def f_J (x0:List (List Int)):Option (List (List Int)) :=
 (yS (x0.length:Int)).bind fun m1 =>
 (zH (zUB x0) (List.replicate m1 ([]:List Int),0)).bind fun r6 =>
 some r6
def zQj (x0:List (List (List Int))) (s1:(List (List (List Int))) × Int):Option (((List (List (List Int))) × Int) ⊕ (List (List (List Int)))) :=
 cond (decide (s1.2 < (x0.length:Int))) (
  (ixO x0 s1.2).bind fun v2 =>
  (f_J v2).bind fun r3 =>
  (ixO s1.1 s1.2).bind fun _ =>
  (rng (s1.2 + 1)).bind fun v5 =>
  some (.inl (s1.1.set s1.2.toNat r3,v5))) (
  some (.inr s1.1))
def zQk (x0:List (List (List Int))):Option (List (List (List Int))) :=
 (yS (x0.length:Int)).bind fun m1 =>
 (zH (zQj x0) (List.replicate m1 ([]:List (List Int)),0)).bind fun r6 =>
 some r6
def zNM (x0:SPr):Option SPr :=
 (zNL x0.zA).bind fun r1 =>
 (f_J x0.zW).bind fun r2 =>
 (zQk x0.zC).bind fun r3 =>
 some (SPr.mk r1 r2 r3)
def zNN (x0:zE):Option zE :=
 (zQk x0.zL).bind fun r1 =>
 some (zE.mk x0.Prime x0.Dim r1)
def zSx (x0:Int):Option Bool :=
 cond (x0 == 2) (
  some true) (
  cond (x0 == 3) (
   some true) (
   cond (x0 == 5) (
    some true) (
    some (x0 == 7))))
def zKm (x0:List Int) (s1:Int × Int):Option ((Int × Int) ⊕ Int) :=
 cond (decide (s1.2 < (x0.length:Int))) (
  cond (decide (s1.1 ≤ 729)) (
   (ixO x0 s1.2).bind fun v1 =>
   (rng (s1.1 * v1)).bind fun v2 =>
   (rng (s1.2 + 1)).bind fun v3 =>
   some (.inl (v2,v3))) (
   (rng (s1.2 + 1)).bind fun v4 =>
   some (.inl (s1.1,v4)))) (
  some (.inr s1.1))
def zSy (x0:List Int):Option Int :=
 (zH (zKm x0) (1,0)).bind fun r5 =>
 some r5
def zQl (x0:Int) (x1:Int) (x2:Int):Option Bool :=
 cond (decide (x0 ≥ x1)) (
  some (decide (x0 ≤ x2))) (
  some false)
def zMX (x0:List Int) (x1:List Int) (x2:Int) (s1:Int):Option (Int ⊕ (Unit ⊕ Bool)) :=
 cond (decide (s1 < (x1.length:Int))) (
  (ixO x1 s1).bind fun v1 =>
  (ixO x0 s1).bind fun v2 =>
  (rng (v2 - 1)).bind fun v3 =>
  (zQl v1 0 v3).bind fun r4 =>
  cond (!r4) (
   some (.inr (.inr false))) (
   cond (decide (s1 ≤ x2)) (
    (ixO x1 s1).bind fun v5 =>
    cond (v5 != 0) (
     some (.inr (.inr false))) (
     (rng (s1 + 1)).bind fun v6 =>
     some (.inl v6))) (
    (rng (s1 + 1)).bind fun v5 =>
    some (.inl v5)))) (
  some (.inr (.inl ())))
def zQm (x0:List Int) (x1:List Int) (x2:Int):Option Bool :=
 cond ((x1.length:Int) != (x0.length:Int)) (
  some false) (
  (zH (zMX x0 x1 x2) 0).bind fun r6 =>
  match r6 with
  | (.inl r6) =>
   some true
  | (.inr r6) =>
   some r6)
def zQn (x0:SPr) (s1:Int):Option (Int ⊕ (Unit ⊕ Bool)) :=
 cond (decide (s1 < (x0.zA.length:Int))) (
  (ixO x0.zA s1).bind fun v1 =>
  (zSx v1).bind fun r2 =>
  cond (!r2) (
   some (.inr (.inr false))) (
   (rng (s1 + 1)).bind fun v3 =>
   some (.inl v3))) (
  some (.inr (.inl ())))
def zQo (x0:SPr) (s7:Int) (s8:Int):Option (Int ⊕ (Unit ⊕ Bool)) :=
 (ixO x0.zC s7).bind fun v11 =>
 cond (decide (s8 < (v11.length:Int))) (
  (ixO x0.zC s7).bind fun v12 =>
  (ixO v12 s8).bind fun v13 =>
  (zQm x0.zA v13 s7).bind fun r14 =>
  cond (!r14) (
   some (.inr (.inr false))) (
   (rng (s8 + 1)).bind fun v15 =>
   some (.inl v15))) (
  some (.inr (.inl ())))
def zL9 (x0:SPr) (s7:Int):Option (Int ⊕ (Unit ⊕ Bool)) :=
 cond (decide (s7 < (x0.zA.length:Int))) (
  (ixO x0.zW s7).bind fun v6 =>
  (zQm x0.zA v6 s7).bind fun r7 =>
  cond (!r7) (
   some (.inr (.inr false))) (
   (ixO x0.zC s7).bind fun v8 =>
   (rng ((x0.zA.length:Int) - 1)).bind fun v9 =>
   (rng (v9 - s7)).bind fun v10 =>
   cond ((v8.length:Int) != v10) (
    some (.inr (.inr false))) (
    (zH (zQo x0 s7) 0).bind fun r16 =>
    match r16 with
    | (.inl r16) =>
     (rng (s7 + 1)).bind fun v17 =>
     some (.inl v17)
    | (.inr r16) =>
     some (.inr (.inr r16))))) (
  some (.inr (.inl ())))
def f_v (x0:SPr):Option Bool :=
 cond (decide ((x0.zA.length:Int) > 6)) (
  some false) (
  cond ((x0.zW.length:Int) != (x0.zA.length:Int)) (
   some false) (
   cond ((x0.zC.length:Int) != (x0.zA.length:Int)) (
    some false) (
    (zH (zQn x0) 0).bind fun r4 =>
    match r4 with
    | (.inl r4) =>
     (zSy x0.zA).bind fun r5 =>
     cond (decide (r5 > 729)) (
      some false) (
      (zH (zL9 x0) 0).bind fun r18 =>
      match r18 with
      | (.inl r18) =>
       some true
      | (.inr r18) =>
       some r18)
    | (.inr r4) =>
     some r4)))
def f_t (x0:List Int):Option (List Int) :=
 (xM [] x0).bind fun v1 =>
 some v1
def zQp (g_a:SPr → Int → (List Int) → (List Int) → Option (List Int)) (x0:SPr) (x1:Int) (x2:List Int) (s5:(List Int) × Int) (s6:(List Int) × Int):Option (((List Int) × Int) ⊕ (List Int)) :=
 (ixO x2 s5.2).bind fun v3 =>
 cond (decide (s6.2 < v3)) (
  (rng (x1 + 1)).bind fun v4 =>
  (ixO x0.zC x1).bind fun v5 =>
  (rng (s5.2 - x1)).bind fun v6 =>
  (rng (v6 - 1)).bind fun v7 =>
  (ixO v5 v7).bind fun v8 =>
  (g_a x0 v4 s6.1 v8).bind fun r9 =>
  (rng (s6.2 + 1)).bind fun v10 =>
  some (.inl (r9,v10))) (
  some (.inr s6.1))
def zQq (g_a:SPr → Int → (List Int) → (List Int) → Option (List Int)) (x0:SPr) (x1:Int) (x2:List Int) (s5:(List Int) × Int):Option (((List Int) × Int) ⊕ (List Int)) :=
 cond (decide (s5.2 < (x0.zA.length:Int))) (
  (zH (zQp g_a x0 x1 x2 s5) (s5.1,0)).bind fun r11 =>
  (rng (s5.2 + 1)).bind fun v12 =>
  some (.inl (r11,v12))) (
  some (.inr s5.1))
def b_e (g_a:SPr → Int → (List Int) → (List Int) → Option (List Int)) (x0:SPr) (x1:Int) (x2:List Int):Option (List Int) :=
 (yS (x0.zA.length:Int)).bind fun m1 =>
 (rng (x1 + 1)).bind fun v2 =>
 (zH (zQq g_a x0 x1 x2) (List.replicate m1 (0:Int),v2)).bind fun r13 =>
 some r13
def zSz (g_e:SPr → Int → (List Int) → Option (List Int)) (x0:SPr) (x1:Int) (x3:List Int) (s1:(List Int) × Int):Option (((List Int) × Int) ⊕ (List Int)) :=
 (ixO x3 x1).bind fun v6 =>
 cond (decide (s1.2 < v6)) (
  (g_e x0 x1 s1.1).bind fun r7 =>
  (rng (s1.2 + 1)).bind fun v8 =>
  some (.inl (r7,v8))) (
  some (.inr s1.1))
def b_a (g_e:SPr → Int → (List Int) → Option (List Int)) (g_a:SPr → Int → (List Int) → (List Int) → Option (List Int)) (x0:SPr) (x1:Int) (x2:List Int) (x3:List Int):Option (List Int) :=
 cond (decide (x1 ≥ (x0.zA.length:Int))) (
  (yS (x0.zA.length:Int)).bind fun m1 =>
  some (List.replicate m1 (0:Int))) (
  (f_t x2).bind fun r2 =>
  (f_t x3).bind fun r3 =>
  (ixO r2 x1).bind fun _ =>
  (ixO r3 x1).bind fun _ =>
  (zH (zSz g_e x0 x1 x3) (r2.set x1.toNat 0,0)).bind fun r9 =>
  (rng (x1 + 1)).bind fun v10 =>
  (g_a x0 v10 r9 (r3.set x1.toNat 0)).bind fun r11 =>
  (ixO x2 x1).bind fun v12 =>
  (ixO x3 x1).bind fun v13 =>
  (rng (v12 + v13)).bind fun v14 =>
  (ixO x0.zA x1).bind fun v15 =>
  cond (decide (v14 ≥ v15)) (
   (ixO x0.zA x1).bind fun v16 =>
   (rng (v14 - v16)).bind fun v17 =>
   (rng (x1 + 1)).bind fun v18 =>
   (ixO x0.zW x1).bind fun v19 =>
   (g_a x0 v18 v19 r11).bind fun r20 =>
   (f_t r20).bind fun r21 =>
   (ixO r21 x1).bind fun _ =>
   some (r21.set x1.toNat v17)) (
   (f_t r11).bind fun r23 =>
   (ixO r23 x1).bind fun _ =>
   some (r23.set x1.toNat v14)))
mutual
def zLA:Nat → SPr → Int → (List Int) → Option (List Int)
 | 0 => fun _ _ _ => none
 | n + 1 => b_e (zLB n)
def zLB:Nat → SPr → Int → (List Int) → (List Int) → Option (List Int)
 | 0 => fun _ _ _ _ => none
 | n + 1 => b_a (zLA n) (zLB n)
end
def f_e (x0:SPr) (x1:Int) (x2:List Int):Option (List Int):=zCB fun n => zLA n x0 x1 x2
def f_a (x0:SPr) (x1:Int) (x2:List Int) (x3:List Int):Option (List Int):=zCB fun n => zLB n x0 x1 x2 x3
def zMY (x0:SPr) (x1:Int) (s1:Int × (List Int) × (List Int)):Option ((Int × (List Int) × (List Int)) ⊕ (List Int)) :=
 cond (decide (s1.1 > 0)) (
  (vU s1.1 2).bind fun v2 =>
  cond (v2 == 1) (
   (f_a x0 x1 s1.2.1 s1.2.2).bind fun r3 =>
   (f_a x0 x1 s1.2.2 s1.2.2).bind fun r4 =>
   (uQ s1.1 2).bind fun v5 =>
   some (.inl (v5,r3,r4))) (
   (f_a x0 x1 s1.2.2 s1.2.2).bind fun r6 =>
   (uQ s1.1 2).bind fun v7 =>
   some (.inl (v7,s1.2.1,r6)))) (
  some (.inr s1.2.1))
def zS0 (x0:SPr) (x1:Int) (x2:List Int) (x3:Int):Option (List Int) :=
 (yS (x0.zA.length:Int)).bind fun m1 =>
 (zH (zMY x0 x1) (x3,List.replicate m1 (0:Int),x2)).bind fun r8 =>
 some r8
def zT8 (x0:List Int) (x1:List Int) (s1:Int):Option (Int ⊕ (Unit ⊕ Bool)) :=
 cond (decide (s1 < (x0.length:Int))) (
  (ixO x0 s1).bind fun v1 =>
  (ixO x1 s1).bind fun v2 =>
  cond (v1 != v2) (
   some (.inr (.inr false))) (
   (rng (s1 + 1)).bind fun v3 =>
   some (.inl v3))) (
  some (.inr (.inl ())))
def zI8 (x0:List Int) (x1:List Int):Option Bool :=
 cond ((x0.length:Int) != (x1.length:Int)) (
  some false) (
  (zH (zT8 x0 x1) 0).bind fun r4 =>
  match r4 with
  | (.inl r4) =>
   some true
  | (.inr r4) =>
   some r4)
def zUC (x0:Int) (x1:Int):Option (List Int) :=
 (yS x0).bind fun m1 =>
 (ixO (List.replicate m1 (0:Int)) x1).bind fun _ =>
 some ((List.replicate m1 (0:Int)).set x1.toNat 1)
def zQr (x0:SPr) (x1:Int) (s1:Int):Option (Int ⊕ (Unit ⊕ yU)) :=
 cond (decide (s1 < (x0.zA.length:Int))) (
  (rng (x1 + 1)).bind fun v2 =>
  (ixO x0.zC x1).bind fun v3 =>
  (rng (s1 - x1)).bind fun v4 =>
  (rng (v4 - 1)).bind fun v5 =>
  (ixO v3 v5).bind fun v6 =>
  (ixO x0.zA s1).bind fun v7 =>
  (zS0 x0 v2 v6 v7).bind fun r8 =>
  (ixO x0.zW s1).bind fun v9 =>
  (f_e x0 x1 v9).bind fun r10 =>
  (zI8 r8 r10).bind fun r11 =>
  cond (!r11) (
   some (.inr (.inr (yU.mk 1 x1 s1 0)))) (
   (rng (s1 + 1)).bind fun v12 =>
   some (.inl v12))) (
  some (.inr (.inl ())))
def zQs (x0:SPr) (x1:Int) (s7:Int) (s8:Int):Option (Int ⊕ (Unit ⊕ yU)) :=
 cond (decide (s8 < (x0.zA.length:Int))) (
  (ixO x0.zC x1).bind fun v16 =>
  (rng (s7 - x1)).bind fun v17 =>
  (rng (v17 - 1)).bind fun v18 =>
  (ixO v16 v18).bind fun v19 =>
  (ixO x0.zC x1).bind fun v20 =>
  (rng (s8 - x1)).bind fun v21 =>
  (rng (v21 - 1)).bind fun v22 =>
  (ixO v20 v22).bind fun v23 =>
  (ixO x0.zC s7).bind fun v24 =>
  (rng (s8 - s7)).bind fun v25 =>
  (rng (v25 - 1)).bind fun v26 =>
  (ixO v24 v26).bind fun v27 =>
  (f_e x0 x1 v27).bind fun r28 =>
  (rng (x1 + 1)).bind fun v29 =>
  (f_a x0 v29 v23 v19).bind fun r30 =>
  (rng (x1 + 1)).bind fun v31 =>
  (f_a x0 v31 v19 r28).bind fun r32 =>
  (zI8 r30 r32).bind fun r33 =>
  cond (!r33) (
   some (.inr (.inr (yU.mk 2 x1 s7 s8)))) (
   (rng (s8 + 1)).bind fun v34 =>
   some (.inl v34))) (
  some (.inr (.inl ())))
def zQt (x0:SPr) (x1:Int) (s7:Int):Option (Int ⊕ (Unit ⊕ yU)) :=
 cond (decide (s7 < (x0.zA.length:Int))) (
  (rng (s7 + 1)).bind fun v15 =>
  (zH (zQs x0 x1 s7) v15).bind fun r35 =>
  match r35 with
  | (.inl r35) =>
   (rng (s7 + 1)).bind fun v36 =>
   some (.inl v36)
  | (.inr r35) =>
   some (.inr (.inr r35))) (
  some (.inr (.inl ())))
def zQu (x0:SPr) (x1:Int) (s16:(List Int) × Int):Option (((List Int) × Int) ⊕ (List Int)) :=
 (ixO x0.zA x1).bind fun v43 =>
 cond (decide (s16.2 < v43)) (
  (f_e x0 x1 s16.1).bind fun r44 =>
  (rng (s16.2 + 1)).bind fun v45 =>
  some (.inl (r44,v45))) (
  some (.inr s16.1))
def zQv (x0:SPr) (x1:Int) (v38:List Int) (s15:Int):Option (Int ⊕ (Unit ⊕ yU)) :=
 cond (decide (s15 < (x0.zA.length:Int))) (
  (zUC (x0.zA.length:Int) s15).bind fun r42 =>
  (zH (zQu x0 x1) (r42,0)).bind fun r46 =>
  (rng (x1 + 1)).bind fun v47 =>
  (f_a x0 v47 v38 r46).bind fun r48 =>
  (rng (x1 + 1)).bind fun v49 =>
  (f_a x0 v49 r42 v38).bind fun r50 =>
  (zI8 r48 r50).bind fun r51 =>
  cond (!r51) (
   some (.inr (.inr (yU.mk 4 x1 s15 0)))) (
   (rng (s15 + 1)).bind fun v52 =>
   some (.inl v52))) (
  some (.inr (.inl ())))
def f_m (x0:SPr) (x1:Int):Option yU :=
 (rng (x1 + 1)).bind fun v1 =>
 (zH (zQr x0 x1) v1).bind fun r13 =>
 match r13 with
 | (.inl r13) =>
  (rng (x1 + 1)).bind fun v14 =>
  (zH (zQt x0 x1) v14).bind fun r37 =>
  match r37 with
  | (.inl r37) =>
   (ixO x0.zW x1).bind fun v38 =>
   (f_e x0 x1 v38).bind fun r39 =>
   (zI8 r39 v38).bind fun r40 =>
   cond (!r40) (
    some (yU.mk 3 x1 0 0)) (
    (rng (x1 + 1)).bind fun v41 =>
    (zH (zQv x0 x1 v38) v41).bind fun r53 =>
    match r53 with
    | (.inl r53) =>
     some (yU.mk 0 0 0 0)
    | (.inr r53) =>
     some r53)
  | (.inr r37) =>
   some r37
 | (.inr r13) =>
  some r13
def zKn (x0:SPr) (s1:Int):Option (Int ⊕ (Unit ⊕ yU)) :=
 cond (decide (s1 ≥ 0)) (
  (f_m x0 s1).bind fun r2 =>
  cond (r2.Kind != 0) (
   some (.inr (.inr r2))) (
   (rng (s1 - 1)).bind fun v3 =>
   some (.inl v3))) (
  some (.inr (.inl ())))
def zUD (x0:SPr):Option yU :=
 (rng ((x0.zA.length:Int) - 1)).bind fun v1 =>
 (zH (zKn x0) v1).bind fun r4 =>
 match r4 with
 | (.inl r4) =>
  some (yU.mk 0 0 0 0)
 | (.inr r4) =>
  some r4
def zUE (x0:SPr):Option Bool :=
 (zUD x0).bind fun r1 =>
 some (r1.Kind == 0)
def zS1 (x0:SPr):Option Bool :=
 (f_v x0).bind fun r1 =>
 cond r1 (
  (zUE x0).bind fun r2 =>
  some r2) (
  some false)
def zMZ (x0:Int) (x2:List Int) (s1:Int):Option (Int ⊕ (Unit ⊕ Bool)) :=
 cond (decide (s1 < (x2.length:Int))) (
  (ixO x2 s1).bind fun v1 =>
  (rng (x0 - 1)).bind fun v2 =>
  (zQl v1 0 v2).bind fun r3 =>
  cond (!r3) (
   some (.inr (.inr false))) (
   (rng (s1 + 1)).bind fun v4 =>
   some (.inl v4))) (
  some (.inr (.inl ())))
def zQw (x0:Int) (x1:Int) (x2:List Int):Option Bool :=
 cond ((x2.length:Int) != x1) (
  some false) (
  (zH (zMZ x0 x2) 0).bind fun r5 =>
  match r5 with
  | (.inl r5) =>
   some true
  | (.inr r5) =>
   some r5)
def zNa (x0:Int) (x1:Int) (x2:List (List Int)) (s1:Int):Option (Int ⊕ (Unit ⊕ Bool)) :=
 cond (decide (s1 < (x2.length:Int))) (
  (ixO x2 s1).bind fun v1 =>
  (zQw x0 x1 v1).bind fun r2 =>
  cond (!r2) (
   some (.inr (.inr false))) (
   (rng (s1 + 1)).bind fun v3 =>
   some (.inl v3))) (
  some (.inr (.inl ())))
def zS2 (x0:Int) (x1:Int) (x2:List (List Int)):Option Bool :=
 cond ((x2.length:Int) != x1) (
  some false) (
  (zH (zNa x0 x1 x2) 0).bind fun r4 =>
  match r4 with
  | (.inl r4) =>
   some true
  | (.inr r4) =>
   some r4)
def zKo (x0:Int) (s1:(List (List Int)) × Int):Option (((List (List Int)) × Int) ⊕ (List (List Int))) :=
 cond (decide (s1.2 < x0)) (
  (yS x0).bind fun m1 =>
  (ixO (List.replicate m1 (0:Int)) s1.2).bind fun _ =>
  (xM s1.1 [(List.replicate m1 (0:Int)).set s1.2.toNat 1]).bind fun v3 =>
  (rng (s1.2 + 1)).bind fun v4 =>
  some (.inl (v3,v4))) (
  some (.inr s1.1))
def f_G (x0:Int):Option (List (List Int)) :=
 (zH (zKo x0) ([],0)).bind fun r5 =>
 some r5
def zQx (x0:Int) (x1:List Int) (x2:List (List Int)) (s5:(List Int) × Int) (s6:(List Int) × Int):Option (((List Int) × Int) ⊕ (List Int)) :=
 cond (decide (s6.2 < (s6.1.length:Int))) (
  (ixO x2 s5.2).bind fun v2 =>
  cond (decide (s6.2 < (v2.length:Int))) (
   (ixO s6.1 s6.2).bind fun v3 =>
   (ixO x1 s5.2).bind fun v4 =>
   (ixO x2 s5.2).bind fun v5 =>
   (ixO v5 s6.2).bind fun v6 =>
   (rng (v4 * v6)).bind fun v7 =>
   (rng (v3 + v7)).bind fun v8 =>
   (vU v8 x0).bind fun v9 =>
   (ixO s6.1 s6.2).bind fun _ =>
   (rng (s6.2 + 1)).bind fun v11 =>
   some (.inl (s6.1.set s6.2.toNat v9,v11))) (
   some (.inr s6.1))) (
  some (.inr s6.1))
def zQy (x0:Int) (x1:List Int) (x2:List (List Int)) (s5:(List Int) × Int):Option (((List Int) × Int) ⊕ (List Int)) :=
 cond (decide (s5.2 < (x1.length:Int))) (
  cond (decide (s5.2 < (x2.length:Int))) (
   (zH (zQx x0 x1 x2 s5) (s5.1,0)).bind fun r12 =>
   (rng (s5.2 + 1)).bind fun v13 =>
   some (.inl (r12,v13))) (
   some (.inr s5.1))) (
  some (.inr s5.1))
def f_E (x0:Int) (x1:List Int) (x2:List (List Int)) (x3:Int):Option (List Int) :=
 (yS x3).bind fun m1 =>
 (zH (zQy x0 x1 x2) (List.replicate m1 (0:Int),0)).bind fun r14 =>
 some r14
def zQz (x0:Int) (x1:List (List Int)) (x2:List (List Int)) (x3:Int) (s1:(List (List Int)) × Int):Option (((List (List Int)) × Int) ⊕ (List (List Int))) :=
 cond (decide (s1.2 < (x1.length:Int))) (
  (ixO x1 s1.2).bind fun v1 =>
  (f_E x0 v1 x2 x3).bind fun r2 =>
  (xM s1.1 [r2]).bind fun v3 =>
  (rng (s1.2 + 1)).bind fun v4 =>
  some (.inl (v3,v4))) (
  some (.inr s1.1))
def f_T (x0:Int) (x1:List (List Int)) (x2:List (List Int)) (x3:Int):Option (List (List Int)) :=
 (zH (zQz x0 x1 x2 x3) ([],0)).bind fun r5 =>
 some r5
def zQ0 (x0:zE) (x1:List Int) (s5:(List (List Int)) × Int) (s6:(List (List Int)) × Int):Option (((List (List Int)) × Int) ⊕ (List (List Int))) :=
 (ixO x1 s5.2).bind fun v2 =>
 cond (decide (s6.2 < v2)) (
  (ixO x0.zL s5.2).bind fun v3 =>
  (f_T x0.Prime s6.1 v3 x0.Dim).bind fun r4 =>
  (rng (s6.2 + 1)).bind fun v5 =>
  some (.inl (r4,v5))) (
  some (.inr s6.1))
def zQ1 (x0:zE) (x1:List Int) (s5:(List (List Int)) × Int):Option (((List (List Int)) × Int) ⊕ (List (List Int))) :=
 cond (decide (s5.2 < (x1.length:Int))) (
  (zH (zQ0 x0 x1 s5) (s5.1,0)).bind fun r6 =>
  (rng (s5.2 + 1)).bind fun v7 =>
  some (.inl (r6,v7))) (
  some (.inr s5.1))
def f_H (x0:zE) (x1:List Int):Option (List (List Int)) :=
 (f_G x0.Dim).bind fun r1 =>
 (zH (zQ1 x0 x1) (r1,0)).bind fun r8 =>
 some r8
def zQ2 (x0:List (List Int)) (x1:List (List Int)) (s1:Int):Option (Int ⊕ (Unit ⊕ Bool)) :=
 cond (decide (s1 < (x0.length:Int))) (
  (ixO x0 s1).bind fun v1 =>
  (ixO x1 s1).bind fun v2 =>
  (zI8 v1 v2).bind fun r3 =>
  cond (!r3) (
   some (.inr (.inr false))) (
   (rng (s1 + 1)).bind fun v4 =>
   some (.inl v4))) (
  some (.inr (.inl ())))
def zS3 (x0:List (List Int)) (x1:List (List Int)):Option Bool :=
 cond ((x0.length:Int) != (x1.length:Int)) (
  some false) (
  (zH (zQ2 x0 x1) 0).bind fun r5 =>
  match r5 with
  | (.inl r5) =>
   some true
  | (.inr r5) =>
   some r5)
def zQ3 (x0:SPr) (x1:zE) (s1:Int):Option (Int ⊕ (Unit ⊕ Bool)) :=
 cond (decide (s1 < (x0.zA.length:Int))) (
  (ixO x1.zL s1).bind fun v3 =>
  (zS2 x1.Prime x1.Dim v3).bind fun r4 =>
  cond (!r4) (
   some (.inr (.inr false))) (
   (rng (s1 + 1)).bind fun v5 =>
   some (.inl v5))) (
  some (.inr (.inl ())))
def zQ4 (x0:SPr) (x1:zE) (s11:Int) (s12:(List (List Int)) × Int):Option (((List (List Int)) × Int) ⊕ (List (List Int))) :=
 (ixO x0.zA s11).bind fun v8 =>
 cond (decide (s12.2 < v8)) (
  (ixO x1.zL s11).bind fun v9 =>
  (f_T x1.Prime s12.1 v9 x1.Dim).bind fun r10 =>
  (rng (s12.2 + 1)).bind fun v11 =>
  some (.inl (r10,v11))) (
  some (.inr s12.1))
def zQ5 (x0:SPr) (x1:zE) (s11:Int) (s14:Int):Option (Int ⊕ (Unit ⊕ Bool)) :=
 cond (decide (s14 < (x0.zA.length:Int))) (
  (ixO x1.zL s14).bind fun v17 =>
  (ixO x1.zL s11).bind fun v18 =>
  (f_T x1.Prime v17 v18 x1.Dim).bind fun r19 =>
  (ixO x1.zL s11).bind fun v20 =>
  (ixO x0.zC s11).bind fun v21 =>
  (rng (s14 - s11)).bind fun v22 =>
  (rng (v22 - 1)).bind fun v23 =>
  (ixO v21 v23).bind fun v24 =>
  (f_H x1 v24).bind fun r25 =>
  (f_T x1.Prime v20 r25 x1.Dim).bind fun r26 =>
  (zS3 r19 r26).bind fun r27 =>
  cond (!r27) (
   some (.inr (.inr false))) (
   (rng (s14 + 1)).bind fun v28 =>
   some (.inl v28))) (
  some (.inr (.inl ())))
def zQ6 (x0:SPr) (x1:zE) (s11:Int):Option (Int ⊕ (Unit ⊕ Bool)) :=
 cond (decide (s11 < (x0.zA.length:Int))) (
  (f_G x1.Dim).bind fun r7 =>
  (zH (zQ4 x0 x1 s11) (r7,0)).bind fun r12 =>
  (ixO x0.zW s11).bind fun v13 =>
  (f_H x1 v13).bind fun r14 =>
  (zS3 r12 r14).bind fun r15 =>
  cond (!r15) (
   some (.inr (.inr false))) (
   (rng (s11 + 1)).bind fun v16 =>
   (zH (zQ5 x0 x1 s11) v16).bind fun r29 =>
   match r29 with
   | (.inl r29) =>
    (rng (s11 + 1)).bind fun v30 =>
    some (.inl v30)
   | (.inr r29) =>
    some (.inr (.inr r29)))) (
  some (.inr (.inl ())))
def f_p (x0:SPr) (x1:zE):Option Bool :=
 (zSx x1.Prime).bind fun r1 =>
 cond (!r1) (
  some false) (
  (zQl x1.Dim 1 3).bind fun r2 =>
  cond (!r2) (
   some false) (
   cond ((x1.zL.length:Int) != (x0.zA.length:Int)) (
    some false) (
    (zH (zQ3 x0 x1) 0).bind fun r6 =>
    match r6 with
    | (.inl r6) =>
     (zH (zQ6 x0 x1) 0).bind fun r31 =>
     match r31 with
     | (.inl r31) =>
      some true
     | (.inr r31) =>
      some r31
    | (.inr r6) =>
     some r6)))
def zS4 (x0:SPr) (x1:zE):Option Bool :=
 (zS1 x0).bind fun r1 =>
 cond r1 (
  (f_p x0 x1).bind fun r2 =>
  some r2) (
  some false)
def zNO (x0:Int):Option Bool :=
 cond (x0 == 2) (
  some true) (
  cond (x0 == 3) (
   some true) (
   cond (x0 == 5) (
    some true) (
    some (x0 == 7))))
def zLC (x0:Int) (x1:Int) (x2:Int):Option Bool :=
 cond (decide (x0 ≥ x1)) (
  some (decide (x0 ≤ x2))) (
  some false)
def zNb (x0:SPr) (x1:List Int) (s1:Int):Option (Int ⊕ (Unit ⊕ Bool)) :=
 cond (decide (s1 < (x1.length:Int))) (
  (ixO x1 s1).bind fun v1 =>
  (ixO x0.zA s1).bind fun v2 =>
  (rng (v2 - 1)).bind fun v3 =>
  (zLC v1 0 v3).bind fun r4 =>
  cond (!r4) (
   some (.inr (.inr false))) (
   (rng (s1 + 1)).bind fun v5 =>
   some (.inl v5))) (
  some (.inr (.inl ())))
def zS5 (x0:SPr) (x1:List Int):Option Bool :=
 cond ((x1.length:Int) != (x0.zA.length:Int)) (
  some false) (
  (zH (zNb x0 x1) 0).bind fun r6 =>
  match r6 with
  | (.inl r6) =>
   some true
  | (.inr r6) =>
   some r6)
def zKp (x0:List Int) (s1:Int):Option (Int ⊕ (Unit ⊕ Bool)) :=
 cond (decide (s1 < (x0.length:Int))) (
  (ixO x0 s1).bind fun v1 =>
  cond (v1 != 0) (
   some (.inr (.inr false))) (
   (rng (s1 + 1)).bind fun v2 =>
   some (.inl v2))) (
  some (.inr (.inl ())))
def f_A (x0:List Int):Option Bool :=
 (zH (zKp x0) 0).bind fun r3 =>
 match r3 with
 | (.inl r3) =>
  some true
 | (.inr r3) =>
  some r3
def zQ7 (x0:SPr) (x1:Int) (x2:List Int):Option Bool :=
 (zS5 x0 x2).bind fun r1 =>
 cond r1 (
  (rng (x1 + 1)).bind fun v2 =>
  (zT x2 0 v2).bind fun v3 =>
  (f_A v3).bind fun r4 =>
  some r4) (
  some false)
def zLD (x0:SPr) (s1:Int × Int):Option ((Int × Int) ⊕ (Unit ⊕ Bool)) :=
 cond (decide (s1.2 < (x0.zA.length:Int))) (
  (ixO x0.zA s1.2).bind fun v1 =>
  (zNO v1).bind fun r2 =>
  cond (!r2) (
   some (.inr (.inr false))) (
   (rng (s1.1 * v1)).bind fun v3 =>
   cond (decide (v3 > 729)) (
    some (.inr (.inr false))) (
    (rng (s1.1 * v1)).bind fun v4 =>
    (rng (s1.2 + 1)).bind fun v5 =>
    some (.inl (v4,v5))))) (
  some (.inr (.inl ())))
def zQ8 (x0:SPr) (s7:Int) (v12:List (List Int)) (s8:Int):Option (Int ⊕ (Unit ⊕ Bool)) :=
 cond (decide (s8 < (v12.length:Int))) (
  (ixO v12 s8).bind fun v13 =>
  (zQ7 x0 s7 v13).bind fun r14 =>
  cond (!r14) (
   some (.inr (.inr false))) (
   (rng (s8 + 1)).bind fun v15 =>
   some (.inl v15))) (
  some (.inr (.inl ())))
def zLE (x0:SPr) (s7:Int):Option (Int ⊕ (Unit ⊕ Bool)) :=
 cond (decide (s7 < (x0.zA.length:Int))) (
  (ixO x0.zW s7).bind fun v7 =>
  (zQ7 x0 s7 v7).bind fun r8 =>
  cond (!r8) (
   some (.inr (.inr false))) (
   (ixO x0.zC s7).bind fun v9 =>
   (rng ((x0.zA.length:Int) - 1)).bind fun v10 =>
   (rng (v10 - s7)).bind fun v11 =>
   cond ((v9.length:Int) != v11) (
    some (.inr (.inr false))) (
    (ixO x0.zC s7).bind fun v12 =>
    (zH (zQ8 x0 s7 v12) 0).bind fun r16 =>
    match r16 with
    | (.inl r16) =>
     (rng (s7 + 1)).bind fun v17 =>
     some (.inl v17)
    | (.inr r16) =>
     some (.inr (.inr r16))))) (
  some (.inr (.inl ())))
def f_q (x0:SPr):Option Bool :=
 cond (decide ((x0.zA.length:Int) > 6)) (
  some false) (
  cond ((x0.zW.length:Int) != (x0.zA.length:Int)) (
   some false) (
   cond ((x0.zC.length:Int) != (x0.zA.length:Int)) (
    some false) (
    (zH (zLD x0) (1,0)).bind fun r6 =>
    match r6 with
    | (.inl r6) =>
     (zH (zLE x0) 0).bind fun r18 =>
     match r18 with
     | (.inl r18) =>
      some true
     | (.inr r18) =>
      some r18
    | (.inr r6) =>
     some r6)))
def f_w (x0:List Int):Option (List Int) :=
 (xM [] x0).bind fun v2 =>
 some v2
def zQ9 (x2:Int) (r3:(List Int)) (s1:(List Int) × Int):Option (((List Int) × Int) ⊕ (List Int)) :=
 cond (decide (s1.2 < (r3.length:Int))) (
  (rng (x2 + 1)).bind fun v4 =>
  (rng (v4 + s1.2)).bind fun v5 =>
  (ixO s1.1 v5).bind fun _ =>
  (rng (s1.2 + 1)).bind fun v7 =>
  some (.inl (s1.1.set v5.toNat 0,v7))) (
  some (.inr s1.1))
def zUF (g_c:SPr → (List Int) → (List Int) → Option (List Int)) (x0:SPr) (x2:Int) (s7:(List Int) × Int) (v17:Int) (s8:(List Int) × Int):Option (((List Int) × Int) ⊕ (List Int)) :=
 cond (decide (s8.2 < v17)) (
  (ixO x0.zC x2).bind fun v18 =>
  (ixO v18 s7.2).bind fun v19 =>
  (g_c x0 s8.1 v19).bind fun r20 =>
  (rng (s8.2 + 1)).bind fun v21 =>
  some (.inl (r20,v21))) (
  some (.inr s8.1))
def zUG (g_c:SPr → (List Int) → (List Int) → Option (List Int)) (x0:SPr) (x2:Int) (r3:(List Int)) (s7:(List Int) × Int):Option (((List Int) × Int) ⊕ (List Int)) :=
 cond (decide (s7.2 < (r3.length:Int))) (
  (ixO r3 s7.2).bind fun v17 =>
  (zH (zUF g_c x0 x2 s7 v17) (s7.1,0)).bind fun r22 =>
  (rng (s7.2 + 1)).bind fun v23 =>
  some (.inl (r22,v23))) (
  some (.inr s7.1))
def zUH (g_c:SPr → (List Int) → (List Int) → Option (List Int)) (x0:SPr) (x2:Int) (s15:(List Int) × Int) (v25:Int) (s16:(List Int) × Int):Option (((List Int) × Int) ⊕ (List Int)) :=
 cond (decide (s16.2 < v25)) (
  (ixO x0.zC x2).bind fun v26 =>
  (ixO v26 s15.2).bind fun v27 =>
  (g_c x0 s16.1 v27).bind fun r28 =>
  (rng (s16.2 + 1)).bind fun v29 =>
  some (.inl (r28,v29))) (
  some (.inr s16.1))
def zUI (g_c:SPr → (List Int) → (List Int) → Option (List Int)) (x0:SPr) (x2:Int) (r3:(List Int)) (s15:(List Int) × Int):Option (((List Int) × Int) ⊕ (List Int)) :=
 cond (decide (s15.2 < (r3.length:Int))) (
  (ixO r3 s15.2).bind fun v25 =>
  (zH (zUH g_c x0 x2 s15 v25) (s15.1,0)).bind fun r30 =>
  (rng (s15.2 + 1)).bind fun v31 =>
  some (.inl (r30,v31))) (
  some (.inr s15.1))
def b_b (g_c:SPr → (List Int) → (List Int) → Option (List Int)) (x0:SPr) (x1:List Int) (x2:Int):Option (List Int) :=
 (rng (x2 + 1)).bind fun v1 =>
 (zT x1 v1 x1.length).bind fun v2 =>
 (f_w v2).bind fun r3 =>
 (zH (zQ9 x2 r3) (x1,0)).bind fun r8 =>
 (ixO r8 x2).bind fun v9 =>
 (rng (v9 + 1)).bind fun v10 =>
 (ixO r8 x2).bind fun _ =>
 (ixO (r8.set x2.toNat v10) x2).bind fun v12 =>
 (ixO x0.zA x2).bind fun v13 =>
 cond (v12 == v13) (
  (ixO (r8.set x2.toNat v10) x2).bind fun _ =>
  (ixO x0.zW x2).bind fun v15 =>
  (g_c x0 ((r8.set x2.toNat v10).set x2.toNat 0) v15).bind fun r16 =>
  (zH (zUG g_c x0 x2 r3) (r16,0)).bind fun r24 =>
  some r24) (
  (zH (zUI g_c x0 x2 r3) (r8.set x2.toNat v10,0)).bind fun r32 =>
  some r32)
def zQA (g_b:SPr → (List Int) → Int → Option (List Int)) (x0:SPr) (s5:(List Int) × Int) (v1:Int) (s6:(List Int) × Int):Option (((List Int) × Int) ⊕ (List Int)) :=
 cond (decide (s6.2 < v1)) (
  (g_b x0 s6.1 s5.2).bind fun r2 =>
  (rng (s6.2 + 1)).bind fun v3 =>
  some (.inl (r2,v3))) (
  some (.inr s6.1))
def zQB (g_b:SPr → (List Int) → Int → Option (List Int)) (x0:SPr) (x2:List Int) (s5:(List Int) × Int):Option (((List Int) × Int) ⊕ (List Int)) :=
 cond (decide (s5.2 < (x2.length:Int))) (
  (ixO x2 s5.2).bind fun v1 =>
  (zH (zQA g_b x0 s5 v1) (s5.1,0)).bind fun r4 =>
  (rng (s5.2 + 1)).bind fun v5 =>
  some (.inl (r4,v5))) (
  some (.inr s5.1))
def b_c (g_b:SPr → (List Int) → Int → Option (List Int)) (x0:SPr) (x1:List Int) (x2:List Int):Option (List Int) :=
 (zH (zQB g_b x0 x2) (x1,0)).bind fun r6 =>
 some r6
mutual
def zQC:Nat → SPr → (List Int) → Int → Option (List Int)
 | 0 => fun _ _ _ => none
 | n + 1 => b_b (zNP n)
def zNP:Nat → SPr → (List Int) → (List Int) → Option (List Int)
 | 0 => fun _ _ _ => none
 | n + 1 => b_c (zQC n)
end
def f_b (x0:SPr) (x1:List Int) (x2:Int):Option (List Int):=zCB fun n => zQC n x0 x1 x2
def f_c (x0:SPr) (x1:List Int) (x2:List Int):Option (List Int):=zCB fun n => zNP n x0 x1 x2
def zKq (x0:SPr) (x1:List Int) (x2:Int) (s1:(List Int) × Int):Option (((List Int) × Int) ⊕ (List Int)) :=
 cond (decide (s1.2 < x2)) (
  (f_c x0 s1.1 x1).bind fun r2 =>
  (rng (s1.2 + 1)).bind fun v3 =>
  some (.inl (r2,v3))) (
  some (.inr s1.1))
def zS6 (x0:SPr) (x1:List Int) (x2:Int):Option (List Int) :=
 (yS (x1.length:Int)).bind fun m1 =>
 (zH (zKq x0 x1 x2) (List.replicate m1 (0:Int),0)).bind fun r4 =>
 some r4
def zQD (x0:SPr) (v3:List Int) (v6:Int) (s6:(List Int) × Int):Option (((List Int) × Int) ⊕ (List Int)) :=
 cond (decide (s6.2 < v6)) (
  (f_c x0 s6.1 v3).bind fun r7 =>
  (rng (s6.2 + 1)).bind fun v8 =>
  some (.inl (r7,v8))) (
  some (.inr s6.1))
def zQE (x0:SPr) (x1:Int) (x2:List Int) (v2:List (List Int)) (s5:(List Int) × Int):Option (((List Int) × Int) ⊕ (List Int)) :=
 cond (decide (s5.2 < (v2.length:Int))) (
  (ixO v2 s5.2).bind fun v3 =>
  (rng (x1 + 1)).bind fun v4 =>
  (rng (v4 + s5.2)).bind fun v5 =>
  (ixO x2 v5).bind fun v6 =>
  (zH (zQD x0 v3 v6) (s5.1,0)).bind fun r9 =>
  (rng (s5.2 + 1)).bind fun v10 =>
  some (.inl (r9,v10))) (
  some (.inr s5.1))
def f_B (x0:SPr) (x1:Int) (x2:List Int):Option (List Int) :=
 (yS (x2.length:Int)).bind fun m1 =>
 (ixO x0.zC x1).bind fun v2 =>
 (zH (zQE x0 x1 x2 v2) (List.replicate m1 (0:Int),0)).bind fun r11 =>
 some r11
def zUJ (x0:List Int) (x1:List Int) (s1:Int):Option (Int ⊕ (Unit ⊕ Bool)) :=
 cond (decide (s1 < (x0.length:Int))) (
  (ixO x0 s1).bind fun v1 =>
  (ixO x1 s1).bind fun v2 =>
  cond (v1 != v2) (
   some (.inr (.inr false))) (
   (rng (s1 + 1)).bind fun v3 =>
   some (.inl v3))) (
  some (.inr (.inl ())))
def f_S (x0:List Int) (x1:List Int):Option Bool :=
 cond ((x0.length:Int) != (x1.length:Int)) (
  some false) (
  (zH (zUJ x0 x1) 0).bind fun r4 =>
  match r4 with
  | (.inl r4) =>
   some true
  | (.inr r4) =>
   some r4)
def zNQ (x0:SPr) (s5:(List Int) × (List Int) × Int) (s6:(List Int) × (List Int)):Option (((List Int) × (List Int)) ⊕ ((List Int) × (List Int))) :=
 (ixO s6.1 s5.2.2).bind fun v3 =>
 cond (v3 != 0) (
  (f_b x0 s6.1 s5.2.2).bind fun r4 =>
  (f_b x0 s6.2 s5.2.2).bind fun r5 =>
  some (.inl (r4,r5))) (
  some (.inr (s6.1,s6.2)))
def zQF (x0:SPr) (r1:(List Int)) (s5:(List Int) × (List Int) × Int):Option (((List Int) × (List Int) × Int) ⊕ (List Int)) :=
 cond (decide (s5.2.2 < (r1.length:Int))) (
  (zH (zNQ x0 s5) (s5.1,s5.2.1)).bind fun r6 =>
  (rng (s5.2.2 + 1)).bind fun v7 =>
  some (.inl (r6.1,r6.2,v7))) (
  some (.inr s5.2.1))
def f_F (x0:SPr) (x1:List Int):Option (List Int) :=
 (f_w x1).bind fun r1 =>
 (yS (x1.length:Int)).bind fun m2 =>
 (zH (zQF x0 r1) (r1,List.replicate m2 (0:Int),0)).bind fun r8 =>
 some r8
def zQG (x0:SPr) (x1:List Int) (x2:List Int):Option (List Int) :=
 (f_w x1).bind fun r1 =>
 (f_c x0 r1 x2).bind fun r2 =>
 some r2
def zQH (x0:SPr) (x1:List Int) (x2:List Int):Option (List Int) :=
 (f_F x0 x2).bind fun r1 =>
 (zQG x0 x1 x2).bind fun r2 =>
 (zQG x0 r1 r2).bind fun r3 =>
 some r3
def zI9 (x0:Int) (x1:Int):Option (List Int) :=
 (yS x0).bind fun m1 =>
 (ixO (List.replicate m1 (0:Int)) x1).bind fun _ =>
 some ((List.replicate m1 (0:Int)).set x1.toNat 1)
def zQI (x0:SPr) (x1:Int) (s1:Int):Option (Int ⊕ (Unit ⊕ yU)) :=
 cond (decide (s1 < (x0.zA.length:Int))) (
  (ixO x0.zC x1).bind fun v2 =>
  (rng (s1 - x1)).bind fun v3 =>
  (rng (v3 - 1)).bind fun v4 =>
  (ixO v2 v4).bind fun v5 =>
  (ixO x0.zA s1).bind fun v6 =>
  (zS6 x0 v5 v6).bind fun r7 =>
  (ixO x0.zW s1).bind fun v8 =>
  (f_B x0 x1 v8).bind fun r9 =>
  (f_S r7 r9).bind fun r10 =>
  cond (!r10) (
   some (.inr (.inr (yU.mk 1 x1 s1 0)))) (
   (rng (s1 + 1)).bind fun v11 =>
   some (.inl v11))) (
  some (.inr (.inl ())))
def zQJ (x0:SPr) (x1:Int) (s7:Int) (s8:Int):Option (Int ⊕ (Unit ⊕ yU)) :=
 cond (decide (s8 < (x0.zA.length:Int))) (
  (ixO x0.zC x1).bind fun v15 =>
  (rng (s8 - x1)).bind fun v16 =>
  (rng (v16 - 1)).bind fun v17 =>
  (ixO v15 v17).bind fun v18 =>
  (ixO x0.zC x1).bind fun v19 =>
  (rng (s7 - x1)).bind fun v20 =>
  (rng (v20 - 1)).bind fun v21 =>
  (ixO v19 v21).bind fun v22 =>
  (zQH x0 v18 v22).bind fun r23 =>
  (ixO x0.zC s7).bind fun v24 =>
  (rng (s8 - s7)).bind fun v25 =>
  (rng (v25 - 1)).bind fun v26 =>
  (ixO v24 v26).bind fun v27 =>
  (f_B x0 x1 v27).bind fun r28 =>
  (f_S r23 r28).bind fun r29 =>
  cond (!r29) (
   some (.inr (.inr (yU.mk 2 x1 s7 s8)))) (
   (rng (s8 + 1)).bind fun v30 =>
   some (.inl v30))) (
  some (.inr (.inl ())))
def zQK (x0:SPr) (x1:Int) (s7:Int):Option (Int ⊕ (Unit ⊕ yU)) :=
 cond (decide (s7 < (x0.zA.length:Int))) (
  (rng (s7 + 1)).bind fun v14 =>
  (zH (zQJ x0 x1 s7) v14).bind fun r31 =>
  match r31 with
  | (.inl r31) =>
   (rng (s7 + 1)).bind fun v32 =>
   some (.inl v32)
  | (.inr r31) =>
   some (.inr (.inr r31))) (
  some (.inr (.inl ())))
def zQL (x0:SPr) (x1:Int) (v39:Int) (s16:(List Int) × Int):Option (((List Int) × Int) ⊕ (List Int)) :=
 cond (decide (s16.2 < v39)) (
  (f_B x0 x1 s16.1).bind fun r40 =>
  (rng (s16.2 + 1)).bind fun v41 =>
  some (.inl (r40,v41))) (
  some (.inr s16.1))
def zQM (x0:SPr) (x1:Int) (v34:List Int) (s15:Int):Option (Int ⊕ (Unit ⊕ yU)) :=
 cond (decide (s15 < (x0.zA.length:Int))) (
  (zI9 (x0.zA.length:Int) s15).bind fun r38 =>
  (ixO x0.zA x1).bind fun v39 =>
  (zH (zQL x0 x1 v39) (r38,0)).bind fun r42 =>
  (zI9 (x0.zA.length:Int) s15).bind fun r43 =>
  (zQH x0 r43 v34).bind fun r44 =>
  (f_S r42 r44).bind fun r45 =>
  cond (!r45) (
   some (.inr (.inr (yU.mk 4 x1 s15 0)))) (
   (rng (s15 + 1)).bind fun v46 =>
   some (.inl v46))) (
  some (.inr (.inl ())))
def f_l (x0:SPr) (x1:Int):Option yU :=
 (rng (x1 + 1)).bind fun v1 =>
 (zH (zQI x0 x1) v1).bind fun r12 =>
 match r12 with
 | (.inl r12) =>
  (rng (x1 + 1)).bind fun v13 =>
  (zH (zQK x0 x1) v13).bind fun r33 =>
  match r33 with
  | (.inl r33) =>
   (ixO x0.zW x1).bind fun v34 =>
   (f_B x0 x1 v34).bind fun r35 =>
   (f_S r35 v34).bind fun r36 =>
   cond (!r36) (
    some (yU.mk 3 x1 0 0)) (
    (rng (x1 + 1)).bind fun v37 =>
    (zH (zQM x0 x1 v34) v37).bind fun r47 =>
    match r47 with
    | (.inl r47) =>
     some (yU.mk 0 0 0 0)
    | (.inr r47) =>
     some r47)
  | (.inr r33) =>
   some r33
 | (.inr r12) =>
  some r12
def zKr (x0:SPr) (s1:Int):Option (Int ⊕ Int) :=
 cond (decide (s1 > 0)) (
  (rng (s1 - 1)).bind fun v1 =>
  (f_l x0 v1).bind fun r2 =>
  cond (r2.Kind == 0 && (r2.zTB == 0 && (r2.zTA == 0 && r2.zR8 == 0))) (
   (rng (s1 - 1)).bind fun v3 =>
   some (.inl v3)) (
   some (.inr s1))) (
  some (.inr s1))
def f_M (x0:SPr):Option Int :=
 (zH (zKr x0) (x0.zA.length:Int)).bind fun r4 =>
 some r4
def zS7 (x0:SPr):Option Bool :=
 (f_q x0).bind fun r1 =>
 cond r1 (
  (f_M x0).bind fun r2 =>
  some (r2 == 0)) (
  some false)
def zLF (x0:zE) (x1:Int):Option zU :=
 (ixO x0.zL x1).bind fun v1 =>
 some (zU.mk x0.Prime x0.Dim v1)
def zNc (x0:List Int) (x1:Int) (s1:Int):Option (Int ⊕ (Unit ⊕ Bool)) :=
 cond (decide (s1 < (x0.length:Int))) (
  (ixO x0 s1).bind fun v1 =>
  (rng (x1 - 1)).bind fun v2 =>
  (zLC v1 0 v2).bind fun r3 =>
  cond (!r3) (
   some (.inr (.inr false))) (
   (rng (s1 + 1)).bind fun v4 =>
   some (.inl v4))) (
  some (.inr (.inl ())))
def zQN (x0:List Int) (x1:Int) (x2:Int):Option Bool :=
 cond ((x0.length:Int) != x2) (
  some false) (
  (zH (zNc x0 x1) 0).bind fun r5 =>
  match r5 with
  | (.inl r5) =>
   some true
  | (.inr r5) =>
   some r5)
def zKs (x0:zU) (s1:Int):Option (Int ⊕ (Unit ⊕ Bool)) :=
 cond (decide (s1 < (x0.Rows.length:Int))) (
  (ixO x0.Rows s1).bind fun v3 =>
  (zQN v3 x0.Prime x0.xG).bind fun r4 =>
  cond (!r4) (
   some (.inr (.inr false))) (
   (rng (s1 + 1)).bind fun v5 =>
   some (.inl v5))) (
  some (.inr (.inl ())))
def zS8 (x0:zU):Option Bool :=
 (zNO x0.Prime).bind fun r1 =>
 cond (!r1) (
  some false) (
  (zLC x0.xG 0 8).bind fun r2 =>
  cond (!r2) (
   some false) (
   cond (decide ((x0.Rows.length:Int) > 8)) (
    some false) (
    (zH (zKs x0) 0).bind fun r6 =>
    match r6 with
    | (.inl r6) =>
     some true
    | (.inr r6) =>
     some r6)))
def zW9 (x0:Int) (x1:Int):Option (Int × Int) :=
 some ((IntKind.wrap .u64 ((IntKind.wrap .u64 ((IntKind.wrap .u64 ((Int.fdiv x0 (2 ^ (min (32:Int).toNat (IntKind.bits .u64)))) * (Int.fdiv x1 (2 ^ (min (32:Int).toNat (IntKind.bits .u64)))))) + (Int.fdiv (IntKind.wrap .u64 ((IntKind.wrap .u64 ((Int.fdiv x0 (2 ^ (min (32:Int).toNat (IntKind.bits .u64)))) * (zEK .u64 x1 4294967295))) + (Int.fdiv (IntKind.wrap .u64 ((zEK .u64 x0 4294967295) * (zEK .u64 x1 4294967295))) (2 ^ (min (32:Int).toNat (IntKind.bits .u64)))))) (2 ^ (min (32:Int).toNat (IntKind.bits .u64)))))) + (Int.fdiv (IntKind.wrap .u64 ((zEK .u64 (IntKind.wrap .u64 ((IntKind.wrap .u64 ((Int.fdiv x0 (2 ^ (min (32:Int).toNat (IntKind.bits .u64)))) * (zEK .u64 x1 4294967295))) + (Int.fdiv (IntKind.wrap .u64 ((zEK .u64 x0 4294967295) * (zEK .u64 x1 4294967295))) (2 ^ (min (32:Int).toNat (IntKind.bits .u64)))))) 4294967295) + (IntKind.wrap .u64 ((zEK .u64 x0 4294967295) * (Int.fdiv x1 (2 ^ (min (32:Int).toNat (IntKind.bits .u64)))))))) (2 ^ (min (32:Int).toNat (IntKind.bits .u64)))))),(IntKind.wrap .u64 (x0 * x1)))
def zS9 (x0:Int) (x1:Int):Option (Int × Int) :=
 (zW9 x0 x1).bind fun r1 =>
 some (r1.1,r1.2)
def jN  (s1:(List Int) × Int):Option (((List Int) × Int) ⊕ (List Int)) :=
 cond (decide (s1.2 < (s1.1.length:Int))) (
  (zT s1.1 s1.2 s1.1.length).bind fun _ =>
  (zT s1.1 0 s1.2).bind fun v4 =>
  (rng (s1.2 + ((min v4.length (((s1.1.length:Int).toNat) - ((s1.2:Int).toNat)):Nat):Int))).bind fun v5 =>
  some (.inl (xX s1.1 ((s1.2:Int).toNat) (v4.take (((s1.1.length:Int).toNat) - ((s1.2:Int).toNat))),v5))) (
  some (.inr s1.1))
def f_i (x0:List Int) (x1:Int):Option (List Int) :=
 cond (decide (x1 < 0)) (
  none) (
  (zS9 (IntKind.wrap .u64 (x0.length:Int)) (IntKind.wrap .u64 x1)).bind fun r1 =>
  cond (decide (r1.1 > 0)) (
   none) (
   cond (decide (r1.2 > 9223372036854775807)) (
    none) (
    (yS (IntKind.wrap .i64 r1.2)).bind fun m2 =>
    (zH jN (xX (List.replicate m2 (0:Int)) 0 (x0.take (((List.replicate m2 (0:Int)).length) - 0)),((min x0.length (((List.replicate m2 (0:Int)).length) - 0):Nat):Int))).bind fun r6 =>
    some r6)))
def zQO (s5:(List Int) × Int) (v1:Int) (s6:(List Int) × Int):Option (((List Int) × Int) ⊕ (List Int)) :=
 cond (decide (s6.2 < v1)) (
  (rng (s5.2 + 1)).bind fun v2 =>
  (xM s6.1 [v2]).bind fun v3 =>
  (rng (s6.2 + 1)).bind fun v4 =>
  some (.inl (v3,v4))) (
  some (.inr s6.1))
def zQP (x0:List Int) (s5:(List Int) × Int):Option (((List Int) × Int) ⊕ (List Int)) :=
 cond (decide (s5.2 < (x0.length:Int))) (
  (ixO x0 s5.2).bind fun v1 =>
  (zH (zQO s5 v1) (s5.1,0)).bind fun r5 =>
  (rng (s5.2 + 1)).bind fun v6 =>
  some (.inl (r5,v6))) (
  some (.inr s5.1))
def f_I (x0:List Int):Option (List Int) :=
 (zH (zQP x0) ([],0)).bind fun r7 =>
 some r7
def zQQ (x0:SPr) (s1:(List ((List Int) × (List Int))) × Int):Option (((List ((List Int) × (List Int))) × Int) ⊕ (List ((List Int) × (List Int)))) :=
 cond (decide (s1.2 < (x0.zA.length:Int))) (
  (ixO x0.zA s1.2).bind fun v1 =>
  (rng (s1.2 + 1)).bind fun v2 =>
  (f_i [v2] v1).bind fun r3 =>
  (ixO x0.zW s1.2).bind fun v4 =>
  (f_I v4).bind fun r5 =>
  (xM s1.1 [(r3,r5)]).bind fun v6 =>
  (rng (s1.2 + 1)).bind fun v7 =>
  some (.inl (v6,v7))) (
  some (.inr s1.1))
def zQR (s7:(List ((List Int) × (List Int))) × Int) (v9:List (List Int)) (s8:(List ((List Int) × (List Int))) × Int):Option (((List ((List Int) × (List Int))) × Int) ⊕ (List ((List Int) × (List Int)))) :=
 cond (decide (s8.2 < (v9.length:Int))) (
  (ixO v9 s8.2).bind fun v10 =>
  (rng (s7.2 + 1)).bind fun v11 =>
  (rng (s7.2 + s8.2)).bind fun v12 =>
  (rng (v12 + 2)).bind fun v13 =>
  (f_I v10).bind fun r14 =>
  (xM [v11] r14).bind fun v15 =>
  (xM s8.1 [([v13,v11],v15)]).bind fun v16 =>
  (rng (s8.2 + 1)).bind fun v17 =>
  some (.inl (v16,v17))) (
  some (.inr s8.1))
def zQS (x0:SPr) (s7:(List ((List Int) × (List Int))) × Int):Option (((List ((List Int) × (List Int))) × Int) ⊕ (List ((List Int) × (List Int)))) :=
 cond (decide (s7.2 < (x0.zA.length:Int))) (
  (ixO x0.zC s7.2).bind fun v9 =>
  (zH (zQR s7 v9) (s7.1,0)).bind fun r18 =>
  (rng (s7.2 + 1)).bind fun v19 =>
  some (.inl (r18,v19))) (
  some (.inr s7.1))
def f_u (x0:SPr):Option (List ((List Int) × (List Int))) :=
 (zH (zQQ x0) ([],0)).bind fun r8 =>
 (zH (zQS x0) (r8,0)).bind fun r20 =>
 some r20
def zQT (x1:Int) (s1:(List (List Int)) × Int):Option (((List (List Int)) × Int) ⊕ (List (List Int))) :=
 cond (decide (s1.2 < x1)) (
  (yS x1).bind fun m1 =>
  (ixO (List.replicate m1 (0:Int)) s1.2).bind fun _ =>
  (xM s1.1 [(List.replicate m1 (0:Int)).set s1.2.toNat 1]).bind fun v3 =>
  (rng (s1.2 + 1)).bind fun v4 =>
  some (.inl (v3,v4))) (
  some (.inr s1.1))
def f_V (x0:Int) (x1:Int):Option zU :=
 (zH (zQT x1) ([],0)).bind fun r5 =>
 some (zU.mk x0 x1 r5)
def zGR (x0:Int) (x1:Int):Option Int :=
 (vU x0 x1).bind fun v1 =>
 (rng (v1 + x1)).bind fun v2 =>
 (vU v2 x1).bind fun v3 =>
 some v3
def zKt (x0:List Int) (x1:List Int) (x2:Int) (x3:Int) (s1:(List Int) × Int):Option (((List Int) × Int) ⊕ (List Int)) :=
 cond (decide (s1.2 < (x0.length:Int))) (
  (ixO s1.1 s1.2).bind fun v1 =>
  (ixO x1 s1.2).bind fun v2 =>
  (rng (x2 * v2)).bind fun v3 =>
  (rng (v1 + v3)).bind fun v4 =>
  (zGR v4 x3).bind fun r5 =>
  (ixO s1.1 s1.2).bind fun _ =>
  (rng (s1.2 + 1)).bind fun v7 =>
  some (.inl (s1.1.set s1.2.toNat r5,v7))) (
  some (.inr s1.1))
def f_r (x0:List Int) (x1:List Int) (x2:Int) (x3:Int):Option (List Int) :=
 (zH (zKt x0 x1 x2 x3) (x0,0)).bind fun r8 =>
 some r8
def zKu (x0:List Int) (x1:zU) (s1:(List Int) × Int):Option (((List Int) × Int) ⊕ (List Int)) :=
 cond (decide (s1.2 < (x0.length:Int))) (
  (ixO x0 s1.2).bind fun v2 =>
  (ixO x1.Rows s1.2).bind fun v3 =>
  (f_r s1.1 v3 v2 x1.Prime).bind fun r4 =>
  (rng (s1.2 + 1)).bind fun v5 =>
  some (.inl (r4,v5))) (
  some (.inr s1.1))
def zQU (x0:List Int) (x1:zU):Option (List Int) :=
 (yS x1.xG).bind fun m1 =>
 (zH (zKu x0 x1) (List.replicate m1 (0:Int),0)).bind fun r6 =>
 some r6
def zQV (x0:zU) (x1:zU) (s1:(List (List Int)) × Int):Option (((List (List Int)) × Int) ⊕ (List (List Int))) :=
 cond (decide (s1.2 < (x0.Rows.length:Int))) (
  (ixO x0.Rows s1.2).bind fun v1 =>
  (zQU v1 x1).bind fun r2 =>
  (xM s1.1 [r2]).bind fun v3 =>
  (rng (s1.2 + 1)).bind fun v4 =>
  some (.inl (v3,v4))) (
  some (.inr s1.1))
def f_U (x0:zU) (x1:zU):Option zU :=
 (zH (zQV x0 x1) ([],0)).bind fun r5 =>
 some (zU.mk x0.Prime x1.xG r5)
def zQW (x0:zE) (x1:List Int) (s1:Int × Int × (List (List Int)) × Int):Option ((Int × Int × (List (List Int)) × Int) ⊕ (Int × Int × (List (List Int)))) :=
 cond (decide (s1.2.2.2 < (x1.length:Int))) (
  (ixO x1 s1.2.2.2).bind fun v2 =>
  (rng (v2 - 1)).bind fun v3 =>
  (zLF x0 v3).bind fun r4 =>
  (f_U (zU.mk s1.1 s1.2.1 s1.2.2.1) r4).bind fun r5 =>
  (rng (s1.2.2.2 + 1)).bind fun v6 =>
  some (.inl (r5.Prime,r5.xG,r5.Rows,v6))) (
  some (.inr (s1.1,s1.2.1,s1.2.2.1)))
def f_W (x0:zE) (x1:List Int):Option zU :=
 (f_V x0.Prime x0.Dim).bind fun r1 =>
 (zH (zQW x0 x1) (r1.Prime,r1.xG,r1.Rows,0)).bind fun r7 =>
 some (zU.mk r7.1 r7.2.1 r7.2.2)
def zQX (x0:List (List Int)) (x1:List (List Int)) (s1:Int):Option (Int ⊕ (Unit ⊕ Bool)) :=
 cond (decide (s1 < (x0.length:Int))) (
  (ixO x0 s1).bind fun v1 =>
  (ixO x1 s1).bind fun v2 =>
  (f_S v1 v2).bind fun r3 =>
  cond (!r3) (
   some (.inr (.inr false))) (
   (rng (s1 + 1)).bind fun v4 =>
   some (.inl v4))) (
  some (.inr (.inl ())))
def zUK (x0:List (List Int)) (x1:List (List Int)):Option Bool :=
 cond ((x0.length:Int) != (x1.length:Int)) (
  some false) (
  (zH (zQX x0 x1) 0).bind fun r5 =>
  match r5 with
  | (.inl r5) =>
   some true
  | (.inr r5) =>
   some r5)
def zSA (x0:List (List Int)) (x1:List (List Int)):Option Bool :=
 (zUK x0 x1).bind fun r1 =>
 some r1
def zQY (x1:zE) (s1:Int):Option (Int ⊕ (Unit ⊕ Bool)) :=
 cond (decide (s1 < (x1.zL.length:Int))) (
  (ixO x1.zL s1).bind fun v4 =>
  cond ((v4.length:Int) != x1.Dim) (
   some (.inr (.inr false))) (
   (zLF x1 s1).bind fun r5 =>
   (zS8 r5).bind fun r6 =>
   cond (!r6) (
    some (.inr (.inr false))) (
    (rng (s1 + 1)).bind fun v7 =>
    some (.inl v7)))) (
  some (.inr (.inl ())))
def zQZ (x1:zE) (r9:(List ((List Int) × (List Int)))) (s3:Int):Option (Int ⊕ (Unit ⊕ Bool)) :=
 cond (decide (s3 < (r9.length:Int))) (
  (ixO r9 s3).bind fun v10 =>
  (f_W x1 v10.1).bind fun r11 =>
  (f_W x1 v10.2).bind fun r12 =>
  (zSA r11.Rows r12.Rows).bind fun r13 =>
  cond (!r13) (
   some (.inr (.inr false))) (
   (rng (s3 + 1)).bind fun v14 =>
   some (.inl v14))) (
  some (.inr (.inl ())))
def f_C (x0:SPr) (x1:zE):Option Bool :=
 (zS7 x0).bind fun r1 =>
 cond (!r1) (
  some false) (
  (zNO x1.Prime).bind fun r2 =>
  cond (!r2) (
   some false) (
   (zLC x1.Dim 1 3).bind fun r3 =>
   cond (!r3) (
    some false) (
    cond ((x1.zL.length:Int) != (x0.zA.length:Int)) (
     some false) (
     (zH (zQY x1) 0).bind fun r8 =>
     match r8 with
     | (.inl r8) =>
      (f_u x0).bind fun r9 =>
      (zH (zQZ x1 r9) 0).bind fun r15 =>
      match r15 with
      | (.inl r15) =>
       some true
      | (.inr r15) =>
       some r15
     | (.inr r8) =>
      some r8))))
def zRa (x1:Int):Option (List Int) :=
 cond (decide (x1 < 0)) (
  none) (
  (rng (0 - 0)).bind fun v1 =>
  (rng (x1 - v1)).bind fun v2 =>
  cond (decide (v2 > 0)) (
   (wX [] v2 (0:Int)).bind fun v3 =>
   (zT v3 0 0).bind fun v4 =>
   some v4) (
   some []))
def zRb (x0:List (List Int)) (s1:Int × Int):Option ((Int × Int) ⊕ Int) :=
 cond (decide (s1.2 < (x0.length:Int))) (
  (ixO x0 s1.2).bind fun v1 =>
  (rng (s1.1 + (v1.length:Int))).bind fun v2 =>
  cond (decide (v2 < 0)) (
   none) (
   (rng (s1.2 + 1)).bind fun v3 =>
   some (.inl (v2,v3)))) (
  some (.inr s1.1))
def zRc (x0:List (List Int)) (s3:(List Int) × Int):Option (((List Int) × Int) ⊕ (List Int)) :=
 cond (decide (s3.2 < (x0.length:Int))) (
  (ixO x0 s3.2).bind fun v6 =>
  (xM s3.1 v6).bind fun v7 =>
  (rng (s3.2 + 1)).bind fun v8 =>
  some (.inl (v7,v8))) (
  some (.inr s3.1))
def f_s (x0:List (List Int)):Option (List Int) :=
 (zH (zRb x0) (0,0)).bind fun r4 =>
 (zRa r4).bind fun r5 =>
 (zH (zRc x0) (r5,0)).bind fun r9 =>
 some r9
def zRd (x0:List Int) (x1:Int) (x2:Int):Option (List Int) :=
 (yS x1).bind fun m1 =>
 (yS x2).bind fun m2 =>
 (f_s [List.replicate m1 (0:Int),x0,List.replicate m2 (0:Int)]).bind fun r3 =>
 some r3
def zRe (x0:List Int) (x1:List Int) (s1:Int):Option (Int ⊕ (Unit ⊕ Bool)) :=
 cond (decide (s1 < (x0.length:Int))) (
  (ixO x0 s1).bind fun v1 =>
  (ixO x1 s1).bind fun v2 =>
  cond (v1 != v2) (
   some (.inr (.inr false))) (
   (rng (s1 + 1)).bind fun v3 =>
   some (.inl v3))) (
  some (.inr (.inl ())))
def zRf (x0:List Int) (x1:List Int):Option Bool :=
 cond ((x0.length:Int) != (x1.length:Int)) (
  some false) (
  (zH (zRe x0 x1) 0).bind fun r4 =>
  match r4 with
  | (.inl r4) =>
   some true
  | (.inr r4) =>
   some r4)
def zRg (x0:List (List Int)) (x1:List (List Int)) (s1:Int):Option (Int ⊕ (Unit ⊕ Bool)) :=
 cond (decide (s1 < (x0.length:Int))) (
  (ixO x0 s1).bind fun v1 =>
  (ixO x1 s1).bind fun v2 =>
  (zRf v1 v2).bind fun r3 =>
  cond (!r3) (
   some (.inr (.inr false))) (
   (rng (s1 + 1)).bind fun v4 =>
   some (.inl v4))) (
  some (.inr (.inl ())))
def zLG (x0:List (List Int)) (x1:List (List Int)):Option Bool :=
 cond ((x0.length:Int) != (x1.length:Int)) (
  some false) (
  (zH (zRg x0 x1) 0).bind fun r5 =>
  match r5 with
  | (.inl r5) =>
   some true
  | (.inr r5) =>
   some r5)
def zRh (x0:List (List (List Int))) (x1:List (List (List Int))) (s1:Int):Option (Int ⊕ (Unit ⊕ Bool)) :=
 cond (decide (s1 < (x0.length:Int))) (
  (ixO x0 s1).bind fun v1 =>
  (ixO x1 s1).bind fun v2 =>
  (zLG v1 v2).bind fun r3 =>
  cond (!r3) (
   some (.inr (.inr false))) (
   (rng (s1 + 1)).bind fun v4 =>
   some (.inl v4))) (
  some (.inr (.inl ())))
def zSB (x0:List (List (List Int))) (x1:List (List (List Int))):Option Bool :=
 cond ((x0.length:Int) != (x1.length:Int)) (
  some false) (
  (zH (zRh x0 x1) 0).bind fun r5 =>
  match r5 with
  | (.inl r5) =>
   some true
  | (.inr r5) =>
   some r5)
def zSC (x0:zE) (x1:zE):Option Bool :=
 cond (x0.Prime != x1.Prime) (
  some false) (
  cond (x0.Dim != x1.Dim) (
   some false) (
   (zSB x0.zL x1.zL).bind fun r1 =>
   cond (!r1) (
    some false) (
    some true)))
def zSD (x0:SPr) (x1:SPr):Option Bool :=
 (zRf x0.zA x1.zA).bind fun r1 =>
 cond (!r1) (
  some false) (
  (zLG x0.zW x1.zW).bind fun r2 =>
  cond (!r2) (
   some false) (
   (zSB x0.zC x1.zC).bind fun r3 =>
   cond (!r3) (
    some false) (
    some true)))
def zRi (x0:List (List Int)) (s1:(List (List Int)) × Int):Option (((List (List Int)) × Int) ⊕ (List (List Int))) :=
 cond (decide (s1.2 < (x0.length:Int))) (
  (ixO x0 s1.2).bind fun v1 =>
  (rng ((v1.length:Int) + (x0.length:Int))).bind fun v2 =>
  (yS v2).bind fun m3 =>
  (rng ((v1.length:Int) + s1.2)).bind fun v4 =>
  (ixO (xX (List.replicate m3 (0:Int)) 0 (v1.take (((List.replicate m3 (0:Int)).length) - 0))) v4).bind fun _ =>
  (xM s1.1 [(xX (List.replicate m3 (0:Int)) 0 (v1.take (((List.replicate m3 (0:Int)).length) - 0))).set v4.toNat 1]).bind fun v6 =>
  (rng (s1.2 + 1)).bind fun v7 =>
  some (.inl (v6,v7))) (
  some (.inr s1.1))
def f_K (x0:List (List Int)):Option (List (List Int)) :=
 (zH (zRi x0) ([],0)).bind fun r8 =>
 some r8
def zKv (x0:List (List Int)) (s1:(List (List Int)) × Int):Option (((List (List Int)) × Int) ⊕ (List (List Int))) :=
 cond (decide (s1.2 < (x0.length:Int))) (
  (ixO x0 s1.2).bind fun v1 =>
  (f_w v1).bind fun r2 =>
  (xM s1.1 [r2]).bind fun v3 =>
  (rng (s1.2 + 1)).bind fun v4 =>
  some (.inl (v3,v4))) (
  some (.inr s1.1))
def zSE (x0:List (List Int)):Option (List (List Int)) :=
 (zH (zKv x0) ([],0)).bind fun r5 =>
 some r5
def zNR  (s1:Int × Int × Int × Int):Option ((Int × Int × Int × Int) ⊕ (Int × Int)) :=
 cond (s1.2.1 != 0) (
  (uQ s1.1 s1.2.1).bind fun v1 =>
  (rng (v1 * s1.2.1)).bind fun v2 =>
  (rng (s1.1 - v2)).bind fun v3 =>
  (rng (v1 * s1.2.2.2)).bind fun v4 =>
  (rng (s1.2.2.1 - v4)).bind fun v5 =>
  some (.inl (s1.2.1,v3,s1.2.2.2,v5))) (
  some (.inr (s1.1,s1.2.2.1)))
def f_N (x0:Int) (x1:Int):Option (Int × Bool) :=
 (zH zNR (x1,x0,0,1)).bind fun r6 =>
 (zGR r6.2 x1).bind fun r7 =>
 some (r7,(r6.1 == 1))
def zGS (s13:(List (List Int)) × Int × Int) (s14:Int):Option (Int ⊕ Int) :=
 cond (decide (s14 < (s13.1.length:Int))) (
  (ixO s13.1 s14).bind fun v3 =>
  (ixO v3 s13.2.2).bind fun v4 =>
  cond (v4 == 0) (
   (rng (s14 + 1)).bind fun v5 =>
   some (.inl v5)) (
   some (.inr s14))) (
  some (.inr s14))
def zKw (x0:Int) (s13:(List (List Int)) × Int × Int) (r12:Int × Bool) (v13:List Int) (s16:(List (List Int)) × Int):Option (((List (List Int)) × Int) ⊕ (List (List Int))) :=
 cond (decide (s16.2 < (v13.length:Int))) (
  (ixO s16.1 s13.2.1).bind fun v14 =>
  (ixO s16.1 s13.2.1).bind fun v15 =>
  (ixO v15 s16.2).bind fun v16 =>
  (rng (v16 * r12.1)).bind fun v17 =>
  (vU v17 x0).bind fun v18 =>
  (ixO v14 s16.2).bind fun _ =>
  (rng (s16.2 + 1)).bind fun v20 =>
  some (.inl (s16.1.set s13.2.1.toNat (v14.set s16.2.toNat v18),v20))) (
  some (.inr s16.1))
def zLH (x0:Int) (s13:(List (List Int)) × Int × Int) (r21:(List (List Int))) (s18:(List (List Int)) × Int):Option (((List (List Int)) × Int) ⊕ (List (List Int))) :=
 cond (decide (s18.2 < (r21.length:Int))) (
  cond (s18.2 != s13.2.1) (
   (ixO s18.1 s18.2).bind fun v22 =>
   (ixO s18.1 s13.2.1).bind fun v23 =>
   (ixO s18.1 s18.2).bind fun v24 =>
   (ixO v24 s13.2.2).bind fun v25 =>
   (rng (0 - v25)).bind fun v26 =>
   (f_r v22 v23 v26 x0).bind fun r27 =>
   (rng (s18.2 + 1)).bind fun v28 =>
   some (.inl (s18.1.set s18.2.toNat r27,v28))) (
   (rng (s18.2 + 1)).bind fun v29 =>
   some (.inl (s18.1,v29)))) (
  some (.inr s18.1))
def zLI (x0:Int) (s13:(List (List Int)) × Int × Int):Option (((List (List Int)) × Int × Int) ⊕ ((List (List Int)) × Int)) :=
 cond (decide ((s13.1.length:Int) > 0)) (
  (ixO s13.1 0).bind fun v2 =>
  cond (decide (s13.2.2 < (v2.length:Int))) (
   cond (decide (s13.2.1 < (s13.1.length:Int))) (
    (zH (zGS s13) s13.2.1).bind fun r6 =>
    cond (r6 == (s13.1.length:Int)) (
     (rng (s13.2.2 + 1)).bind fun v7 =>
     some (.inl (s13.1,s13.2.1,v7))) (
     (ixO s13.1 r6).bind fun v8 =>
     (ixO s13.1 s13.2.1).bind fun v9 =>
     (ixO (qD s13.1 s13.2.1 r6 v8 v9) s13.2.1).bind fun v10 =>
     (ixO v10 s13.2.2).bind fun v11 =>
     (f_N v11 x0).bind fun r12 =>
     (ixO (qD s13.1 s13.2.1 r6 v8 v9) s13.2.1).bind fun v13 =>
     (zH (zKw x0 s13 r12 v13) (qD s13.1 s13.2.1 r6 v8 v9,0)).bind fun r21 =>
     (zH (zLH x0 s13 r21) (r21,0)).bind fun r30 =>
     (rng (s13.2.1 + 1)).bind fun v31 =>
     (rng (s13.2.2 + 1)).bind fun v32 =>
     some (.inl (r30,v31,v32)))) (
    some (.inr (s13.1,s13.2.1)))) (
   some (.inr (s13.1,s13.2.1)))) (
  some (.inr (s13.1,s13.2.1)))
def f_g (x0:Int) (x1:List (List Int)):Option (List (List Int)) :=
 (zSE x1).bind fun r1 =>
 (zH (zLI x0) (r1,0,0)).bind fun r33 =>
 (zT r33.1 0 r33.2).bind fun v34 =>
 some v34
def zRj (x0:Int) (x1:Int):Option Int :=
 (vU x0 x1).bind fun v1 =>
 cond (decide (v1 < 0)) (
  (rng (v1 + x1)).bind fun v2 =>
  some v2) (
  some v1)
def zGT (x0:List Int) (s1:Int):Option (Int ⊕ (Unit ⊕ Int)) :=
 cond (decide (s1 < (x0.length:Int))) (
  (ixO x0 s1).bind fun v1 =>
  cond (v1 != 0) (
   some (.inr (.inr s1))) (
   (rng (s1 + 1)).bind fun v2 =>
   some (.inl v2))) (
  some (.inr (.inl ())))
def f_x (x0:List Int):Option Int :=
 (zH (zGT x0) 0).bind fun r3 =>
 match r3 with
 | (.inl r3) =>
  some (x0.length:Int)
 | (.inr r3) =>
  some r3
def zRk (x0:Int) (x2:Int) (x3:List Int) (s1:(List Int) × Int):Option (((List Int) × Int) ⊕ (List Int)) :=
 cond (decide (s1.2 < (s1.1.length:Int))) (
  cond (decide (s1.2 < (x3.length:Int))) (
   (ixO s1.1 s1.2).bind fun v2 =>
   (ixO x3 s1.2).bind fun v3 =>
   (rng (x2 * v3)).bind fun v4 =>
   (rng (v2 + v4)).bind fun v5 =>
   (zRj v5 x0).bind fun r6 =>
   (ixO s1.1 s1.2).bind fun _ =>
   (rng (s1.2 + 1)).bind fun v8 =>
   some (.inl (s1.1.set s1.2.toNat r6,v8))) (
   some (.inr s1.1))) (
  some (.inr s1.1))
def f_n (x0:Int) (x1:List Int) (x2:Int) (x3:List Int):Option (List Int) :=
 (f_t x1).bind fun r1 =>
 (zH (zRk x0 x2 x3) (r1,0)).bind fun r9 =>
 some r9
def zRl (x0:Int) (x1:List (List Int)) (s1:(List Int) × Int):Option (((List Int) × Int) ⊕ (List Int)) :=
 cond (decide (s1.2 < (x1.length:Int))) (
  (ixO x1 s1.2).bind fun v2 =>
  (f_x v2).bind fun r3 =>
  cond (decide (r3 < (s1.1.length:Int))) (
   (ixO s1.1 r3).bind fun v4 =>
   cond (v4 != 0) (
    (ixO s1.1 r3).bind fun v5 =>
    (rng (x0 - v5)).bind fun v6 =>
    (ixO x1 s1.2).bind fun v7 =>
    (f_n x0 s1.1 v6 v7).bind fun r8 =>
    (rng (s1.2 + 1)).bind fun v9 =>
    some (.inl (r8,v9))) (
    (rng (s1.2 + 1)).bind fun v10 =>
    some (.inl (s1.1,v10)))) (
   (rng (s1.2 + 1)).bind fun v11 =>
   some (.inl (s1.1,v11)))) (
  some (.inr s1.1))
def f_O (x0:Int) (x1:List (List Int)) (x2:List Int):Option (List Int) :=
 (f_t x2).bind fun r1 =>
 (zH (zRl x0 x1) (r1,0)).bind fun r12 =>
 some r12
def zKx (x0:Int) (x1:Int) (s1:Int):Option (Int ⊕ (Unit ⊕ Int)) :=
 cond (decide (s1 < x1)) (
  (zRj x0 x1).bind fun r1 =>
  (rng (r1 * s1)).bind fun v2 =>
  (vU v2 x1).bind fun v3 =>
  cond (v3 == 1) (
   some (.inr (.inr s1))) (
   (rng (s1 + 1)).bind fun v4 =>
   some (.inl v4))) (
  some (.inr (.inl ())))
def zSF (x0:Int) (x1:Int):Option Int :=
 (zH (zKx x0 x1) 1).bind fun r5 =>
 match r5 with
 | (.inl r5) =>
  some 0
 | (.inr r5) =>
  some r5
def zRm (x0:Int) (x1:Int) (x2:List Int):Option (List Int) :=
 (yS (x2.length:Int)).bind fun m1 =>
 (f_n x0 (List.replicate m1 (0:Int)) x1 x2).bind fun r2 =>
 some r2
def zGU (x0:Int) (s5:(List (List Int)) × Int) (r3:Int) (r7:(List Int)) (s6:(List (List Int)) × Bool × Int):Option (((List (List Int)) × Bool × Int) ⊕ ((List (List Int)) × Bool)) :=
 cond (decide (s6.2.2 < (s5.1.length:Int))) (
  cond (!s6.2.1) (
   (ixO s5.1 s6.2.2).bind fun v8 =>
   (f_x v8).bind fun r9 =>
   cond (decide (r9 > r3)) (
    (xM s6.1 [r7]).bind fun v10 =>
    (ixO s5.1 s6.2.2).bind fun v11 =>
    (ixO s5.1 s6.2.2).bind fun v12 =>
    (ixO v12 r3).bind fun v13 =>
    (rng (x0 - v13)).bind fun v14 =>
    (f_n x0 v11 v14 r7).bind fun r15 =>
    (xM v10 [r15]).bind fun v16 =>
    (rng (s6.2.2 + 1)).bind fun v17 =>
    some (.inl (v16,true,v17))) (
    (ixO s5.1 s6.2.2).bind fun v18 =>
    (ixO s5.1 s6.2.2).bind fun v19 =>
    (ixO v19 r3).bind fun v20 =>
    (rng (x0 - v20)).bind fun v21 =>
    (f_n x0 v18 v21 r7).bind fun r22 =>
    (xM s6.1 [r22]).bind fun v23 =>
    (rng (s6.2.2 + 1)).bind fun v24 =>
    some (.inl (v23,s6.2.1,v24)))) (
   (ixO s5.1 s6.2.2).bind fun v25 =>
   (ixO s5.1 s6.2.2).bind fun v26 =>
   (ixO v26 r3).bind fun v27 =>
   (rng (x0 - v27)).bind fun v28 =>
   (f_n x0 v25 v28 r7).bind fun r29 =>
   (xM s6.1 [r29]).bind fun v30 =>
   (rng (s6.2.2 + 1)).bind fun v31 =>
   some (.inl (v30,s6.2.1,v31)))) (
  some (.inr (s6.1,s6.2.1)))
def zNS (x0:Int) (x1:List (List Int)) (s5:(List (List Int)) × Int):Option (((List (List Int)) × Int) ⊕ (List (List Int))) :=
 cond (decide (s5.2 < (x1.length:Int))) (
  (ixO x1 s5.2).bind fun v1 =>
  (f_O x0 s5.1 v1).bind fun r2 =>
  (f_x r2).bind fun r3 =>
  cond (r3 == (r2.length:Int)) (
   (rng (s5.2 + 1)).bind fun v4 =>
   some (.inl (s5.1,v4))) (
   (ixO r2 r3).bind fun v5 =>
   (zSF v5 x0).bind fun r6 =>
   (zRm x0 r6 r2).bind fun r7 =>
   (zH (zGU x0 s5 r3 r7) ([],false,0)).bind fun r32 =>
   cond (!r32.2) (
    (xM r32.1 [r7]).bind fun v33 =>
    (rng (s5.2 + 1)).bind fun v34 =>
    some (.inl (v33,v34))) (
    (rng (s5.2 + 1)).bind fun v35 =>
    some (.inl (r32.1,v35))))) (
  some (.inr s5.1))
def f_j (x0:Int) (x1:List (List Int)):Option (List (List Int)) :=
 (zH (zNS x0 x1) ([],0)).bind fun r36 =>
 some r36
def zNd (x1:List (List Int)) (r1:(List (List Int))) (s1:(List (List Int)) × Int):Option (((List (List Int)) × Int) ⊕ (List (List Int))) :=
 cond (decide (s1.2 < (x1.length:Int))) (
  (ixO x1 s1.2).bind fun v2 =>
  (f_t v2).bind fun r3 =>
  (ixO r1 s1.2).bind fun v4 =>
  (xM r3 v4).bind fun v5 =>
  (xM s1.1 [v5]).bind fun v6 =>
  (rng (s1.2 + 1)).bind fun v7 =>
  some (.inl (v6,v7))) (
  some (.inr s1.1))
def zSG (x0:Int) (x1:List (List Int)):Option (List (List Int)) :=
 (f_G (x1.length:Int)).bind fun r1 =>
 (zH (zNd x1 r1) ([],0)).bind fun r8 =>
 (f_j x0 r8).bind fun r9 =>
 some r9
def zHF (x2:Int) (r1:(List (List Int))) (s1:(List (List Int)) × Int):Option (((List (List Int)) × Int) ⊕ (List (List Int))) :=
 cond (decide (s1.2 < (r1.length:Int))) (
  (ixO r1 s1.2).bind fun v2 =>
  (f_x v2).bind fun r3 =>
  cond (decide (r3 ≥ x2)) (
   (ixO r1 s1.2).bind fun v4 =>
   (zT v4 x2 v4.length).bind fun v5 =>
   (f_t v5).bind fun r6 =>
   (xM s1.1 [r6]).bind fun v7 =>
   (rng (s1.2 + 1)).bind fun v8 =>
   some (.inl (v7,v8))) (
   (rng (s1.2 + 1)).bind fun v9 =>
   some (.inl (s1.1,v9)))) (
  some (.inr s1.1))
def zUL (x0:Int) (x1:List (List Int)) (x2:Int):Option (List (List Int)) :=
 (zSG x0 x1).bind fun r1 =>
 (zH (zHF x2 r1) ([],0)).bind fun r10 =>
 some r10
def zSH (x0:SPr):Option Int :=
 (rng ((x0.zA.length:Int) - 1)).bind fun v1 =>
 (rng ((x0.zA.length:Int) * v1)).bind fun v2 =>
 (uQ v2 2).bind fun v3 =>
 (rng ((x0.zA.length:Int) + v3)).bind fun v4 =>
 some v4
def zUM (x0:Int) (x1:Int) (x2:Int):Option Int :=
 (rng (x1 * x0)).bind fun v1 =>
 (rng (x0 + v1)).bind fun v2 =>
 (rng (x1 + 1)).bind fun v3 =>
 (rng (x1 * v3)).bind fun v4 =>
 (uQ v4 2).bind fun v5 =>
 (rng (v2 - v5)).bind fun v6 =>
 (rng (v6 + x2)).bind fun v7 =>
 (rng (v7 - x1)).bind fun v8 =>
 (rng (v8 - 1)).bind fun v9 =>
 some v9
def zSI (x0:SPr):Option Int :=
 (rng ((x0.zA.length:Int) + 1)).bind fun v1 =>
 (rng ((x0.zA.length:Int) * v1)).bind fun v2 =>
 (uQ v2 2).bind fun v3 =>
 some v3
def zNT (x0:List Int) (x1:Int) (s1:(List (List Int)) × Int):Option (((List (List Int)) × Int) ⊕ (List (List Int))) :=
 cond (decide (s1.2 < (x0.length:Int))) (
  (rng (s1.2 + x1)).bind fun v1 =>
  (zT x0 s1.2 v1).bind fun v2 =>
  (f_w v2).bind fun r3 =>
  (xM s1.1 [r3]).bind fun v4 =>
  (rng (s1.2 + x1)).bind fun v5 =>
  some (.inl (v4,v5))) (
  some (.inr s1.1))
def f_Q (x0:List Int) (x1:Int):Option (List (List Int)) :=
 (zH (zNT x0 x1) ([],0)).bind fun r6 =>
 some r6
def zNU (x0:List Int) (s6:(List (List Int)) × Int):Option (((List (List Int)) × Int) ⊕ (List (List Int))) :=
 cond (decide (s6.2 < (x0.length:Int))) (
  (zI9 (x0.length:Int) s6.2).bind fun r5 =>
  (xM s6.1 [r5]).bind fun v6 =>
  (rng (s6.2 + 1)).bind fun v7 =>
  some (.inl (v6,v7))) (
  some (.inr s6.1))
def zNV (x0:List Int) (s5:(List (List Int)) × (List (List (List Int))) × Int):Option (((List (List Int)) × (List (List (List Int))) × Int) ⊕ ((List (List Int)) × (List (List (List Int))))) :=
 cond (decide (s5.2.2 < (x0.length:Int))) (
  (yS (x0.length:Int)).bind fun m2 =>
  (xM s5.1 [List.replicate m2 (0:Int)]).bind fun v3 =>
  (rng (s5.2.2 + 1)).bind fun v4 =>
  (zH (zNU x0) ([],v4)).bind fun r8 =>
  (xM s5.2.1 [r8]).bind fun v9 =>
  (rng (s5.2.2 + 1)).bind fun v10 =>
  some (.inl (v3,v9,v10))) (
  some (.inr (s5.1,s5.2.1)))
def f_z (x0:List Int):Option SPr :=
 (f_w x0).bind fun r1 =>
 (zH (zNV x0) ([],[],0)).bind fun r11 =>
 some (SPr.mk r1 r11.1 r11.2)
def zNW (x0:SPr) (x2:List (List Int)) (s1:(List (List Int)) × Int × Int):Option (((List (List Int)) × Int × Int) ⊕ ((List (List Int)) × Int)) :=
 cond (decide (s1.2.2 < (x0.zW.length:Int))) (
  (ixO x0.zW s1.2.2).bind fun v5 =>
  (ixO x2 s1.2.1).bind fun v6 =>
  (f_s [v5,v6]).bind fun r7 =>
  (ixO s1.1 s1.2.2).bind fun _ =>
  (rng (s1.2.1 + 1)).bind fun v9 =>
  (rng (s1.2.2 + 1)).bind fun v10 =>
  some (.inl (s1.1.set s1.2.2.toNat r7,v9,v10))) (
  some (.inr (s1.1,s1.2.1)))
def zNX (x2:List (List Int)) (s11:(List (List (List Int))) × Int × Int) (v12:List (List Int)) (s12:(List (List (List Int))) × Int × Int):Option (((List (List (List Int))) × Int × Int) ⊕ ((List (List (List Int))) × Int)) :=
 cond (decide (s12.2.2 < (v12.length:Int))) (
  (ixO v12 s12.2.2).bind fun v13 =>
  (ixO s12.1 s11.2.2).bind fun v14 =>
  (ixO x2 s12.2.1).bind fun v15 =>
  (f_s [v13,v15]).bind fun r16 =>
  (ixO v14 s12.2.2).bind fun _ =>
  (rng (s12.2.1 + 1)).bind fun v18 =>
  (rng (s12.2.2 + 1)).bind fun v19 =>
  some (.inl (s12.1.set s11.2.2.toNat (v14.set s12.2.2.toNat r16),v18,v19))) (
  some (.inr (s12.1,s12.2.1)))
def zNY (x0:SPr) (s11:(List (List (List Int))) × Int × Int) (v21:List (List Int)) (s14:(List (List (List Int))) × Int):Option (((List (List (List Int))) × Int) ⊕ (List (List (List Int)))) :=
 cond (decide (s14.2 < (v21.length:Int))) (
  (ixO v21 s14.2).bind fun v22 =>
  (ixO s14.1 s11.2.2).bind fun v23 =>
  (rng ((x0.zA.length:Int) - 1)).bind fun v24 =>
  (rng (v24 - s11.2.2)).bind fun v25 =>
  (rng (v25 + s14.2)).bind fun v26 =>
  (zRd v22 (x0.zA.length:Int) 0).bind fun r27 =>
  (ixO v23 v26).bind fun _ =>
  (rng (s14.2 + 1)).bind fun v29 =>
  some (.inl (s14.1.set s11.2.2.toNat (v23.set v26.toNat r27),v29))) (
  some (.inr s14.1))
def zNZ (x0:SPr) (x1:zE) (x2:List (List Int)) (s11:(List (List (List Int))) × Int × Int):Option (((List (List (List Int))) × Int × Int) ⊕ (List (List (List Int)))) :=
 cond (decide (s11.2.2 < (x0.zA.length:Int))) (
  (ixO x0.zC s11.2.2).bind fun v12 =>
  (zH (zNX x2 s11 v12) (s11.1,s11.2.1,0)).bind fun r20 =>
  (ixO x1.zL s11.2.2).bind fun v21 =>
  (zH (zNY x0 s11 v21) (r20.1,0)).bind fun r30 =>
  (rng (s11.2.2 + 1)).bind fun v31 =>
  some (.inl (r30,r20.2,v31))) (
  some (.inr s11.1))
def f_k (x0:SPr) (x1:zE) (x2:List (List Int)):Option SPr :=
 (f_w x0.zA).bind fun r1 =>
 (f_i [x1.Prime] x1.Dim).bind fun r2 =>
 (xM r1 r2).bind fun v3 =>
 (f_z v3).bind fun r4 =>
 (zH (zNW x0 x2) (r4.zW,0,0)).bind fun r11 =>
 (zH (zNZ x0 x1 x2) (r4.zC,r11.2,0)).bind fun r32 =>
 some (SPr.mk r4.zA r11.1 r32)
def zKy (x0:zE) (x1:List (List Int)) (s1:Int):Option (Int ⊕ (Unit ⊕ Bool)) :=
 cond (decide (s1 < (x1.length:Int))) (
  (ixO x1 s1).bind fun v1 =>
  (zQw x0.Prime x0.Dim v1).bind fun r2 =>
  cond (!r2) (
   some (.inr (.inr false))) (
   (rng (s1 + 1)).bind fun v3 =>
   some (.inl v3))) (
  some (.inr (.inl ())))
def zUN (x0:zE) (x1:List (List Int)):Option Bool :=
 (zH (zKy x0 x1) 0).bind fun r4 =>
 match r4 with
 | (.inl r4) =>
  some true
 | (.inr r4) =>
  some r4
def zKz (x0:zE) (x1:List (List Int)) (x2:List Int) (x3:Int):Option (List Int) :=
 (ixO x0.zL x3).bind fun v1 =>
 (f_E x0.Prime x2 v1 x0.Dim).bind fun r2 =>
 (ixO x1 x3).bind fun v3 =>
 (f_n x0.Prime r2 1 v3).bind fun r4 =>
 some r4
def zRn (x0:zE) (x1:List (List Int)) (x3:List Int) (s5:(List Int) × Int) (s6:(List Int) × Int):Option (((List Int) × Int) ⊕ (List Int)) :=
 (ixO x3 s5.2).bind fun v1 =>
 cond (decide (s6.2 < v1)) (
  (zKz x0 x1 s6.1 s5.2).bind fun r2 =>
  (rng (s6.2 + 1)).bind fun v3 =>
  some (.inl (r2,v3))) (
  some (.inr s6.1))
def zRo (x0:zE) (x1:List (List Int)) (x3:List Int) (s5:(List Int) × Int):Option (((List Int) × Int) ⊕ (List Int)) :=
 cond (decide (s5.2 < (x3.length:Int))) (
  (zH (zRn x0 x1 x3 s5) (s5.1,0)).bind fun r4 =>
  (rng (s5.2 + 1)).bind fun v5 =>
  some (.inl (r4,v5))) (
  some (.inr s5.1))
def f_D (x0:zE) (x1:List (List Int)) (x2:List Int) (x3:List Int):Option (List Int) :=
 (zH (zRo x0 x1 x3) (x2,0)).bind fun r6 =>
 some r6
def zT9 (x0:List Int) (s1:Int):Option (Int ⊕ (Unit ⊕ Bool)) :=
 cond (decide (s1 < (x0.length:Int))) (
  (ixO x0 s1).bind fun v1 =>
  cond (v1 != 0) (
   some (.inr (.inr false))) (
   (rng (s1 + 1)).bind fun v2 =>
   some (.inl v2))) (
  some (.inr (.inl ())))
def zOa (x0:List Int):Option Bool :=
 (zH (zT9 x0) 0).bind fun r3 =>
 match r3 with
 | (.inl r3) =>
  some true
 | (.inr r3) =>
  some r3
def zNe (x0:zE) (x1:List (List Int)) (s1:Int):Option (Int ⊕ (Unit ⊕ Bool)) :=
 cond (decide (s1 < (x1.length:Int))) (
  (ixO x1 s1).bind fun v1 =>
  (zQN v1 x0.Prime x0.Dim).bind fun r2 =>
  cond (!r2) (
   some (.inr (.inr false))) (
   (rng (s1 + 1)).bind fun v3 =>
   some (.inl v3))) (
  some (.inr (.inl ())))
def zUO (x0:zE) (x1:List (List Int)):Option Bool :=
 (zH (zNe x0 x1) 0).bind fun r4 =>
 match r4 with
 | (.inl r4) =>
  some true
 | (.inr r4) =>
  some r4
def zRp (x0:zE) (x1:List (List Int)) (x2:List Int) (s1:(List Int) × Int):Option (((List Int) × Int) ⊕ (List Int)) :=
 cond (decide (s1.2 < (x2.length:Int))) (
  (ixO x2 s1.2).bind fun v2 =>
  (rng (v2 - 1)).bind fun v3 =>
  (zLF x0 v3).bind fun r4 =>
  (zQU s1.1 r4).bind fun r5 =>
  (rng (v2 - 1)).bind fun v6 =>
  (ixO x1 v6).bind fun v7 =>
  (f_r r5 v7 1 x0.Prime).bind fun r8 =>
  (rng (s1.2 + 1)).bind fun v9 =>
  some (.inl (r8,v9))) (
  some (.inr s1.1))
def f_X (x0:zE) (x1:List (List Int)) (x2:List Int):Option (List Int) :=
 (yS x0.Dim).bind fun m1 =>
 (zH (zRp x0 x1 x2) (List.replicate m1 (0:Int),0)).bind fun r10 =>
 some r10
def zRq (x1:zE) (x2:List (List Int)) (r1:(List ((List Int) × (List Int)))) (s1:(List (List Int)) × Int):Option (((List (List Int)) × Int) ⊕ (List (List Int))) :=
 cond (decide (s1.2 < (r1.length:Int))) (
  (ixO r1 s1.2).bind fun v2 =>
  (f_X x1 x2 v2.1).bind fun r3 =>
  (f_X x1 x2 v2.2).bind fun r4 =>
  (f_r r3 r4 (-1) x1.Prime).bind fun r5 =>
  (xM s1.1 [r5]).bind fun v6 =>
  (rng (s1.2 + 1)).bind fun v7 =>
  some (.inl (v6,v7))) (
  some (.inr s1.1))
def f_Y (x0:SPr) (x1:zE) (x2:List (List Int)):Option (List (List Int)) :=
 (f_u x0).bind fun r1 =>
 (zH (zRq x1 x2 r1) ([],0)).bind fun r8 =>
 some r8
def zRr (x0:SPr) (x1:zE) (x2:List (List Int)):Option Bool :=
 (zSH x0).bind fun r1 =>
 cond ((x2.length:Int) == r1) (
  (zUN x1 x2).bind fun r2 =>
  some r2) (
  some false)
def zK0 (x0:zS):Option zJ :=
 cond (decide ((x0.wK.length:Int) > 0)) (
  (ixO x0.wK 0).bind fun v1 =>
  (yS (x0.p.zA.length:Int)).bind fun m2 =>
  (yS (v1.length:Int)).bind fun m3 =>
  some (zJ.mk (List.replicate m2 (0:Int)) (List.replicate m3 (0:Int)))) (
  (yS (x0.p.zA.length:Int)).bind fun m4 =>
  (yS 0).bind fun m5 =>
  some (zJ.mk (List.replicate m4 (0:Int)) (List.replicate m5 (0:Int))))
def f_R (x0:zS) (x1:Int) (x2:Int):Option zJ :=
 (ixO x0.p.zC x1).bind fun v1 =>
 (rng (x2 - x1)).bind fun v2 =>
 (rng (v2 - 1)).bind fun v3 =>
 (ixO v1 v3).bind fun v4 =>
 (zUM (x0.p.zA.length:Int) x1 x2).bind fun r5 =>
 (ixO x0.wK r5).bind fun v6 =>
 some (zJ.mk v4 v6)
def zHG (x0:zE) (x1:List Int) (x2:Int) (s1:(List Int) × Int):Option (((List Int) × Int) ⊕ (List Int)) :=
 cond (decide (s1.2 < (x1.length:Int))) (
  (rng (s1.2 + x0.Dim)).bind fun v1 =>
  (zT x1 s1.2 v1).bind fun v2 =>
  (ixO x0.zL x2).bind fun v3 =>
  (f_E x0.Prime v2 v3 x0.Dim).bind fun r4 =>
  (xM s1.1 r4).bind fun v5 =>
  (rng (s1.2 + x0.Dim)).bind fun v6 =>
  some (.inl (v5,v6))) (
  some (.inr s1.1))
def zSJ (x0:zE) (x1:List Int) (x2:Int):Option (List Int) :=
 (zH (zHG x0 x1 x2) ([],0)).bind fun r7 =>
 some r7
def zLJ (x0:zS) (x1:Int):Option zJ :=
 (ixO x0.p.zW x1).bind fun v1 =>
 (ixO x0.wK x1).bind fun v2 =>
 some (zJ.mk v1 v2)
def zSK (g_d:zS → Int → zJ → zJ → Option zJ) (x0:zS) (x1:Int) (x2:zJ) (s5:(List Int) × (List Int) × Int) (s6:(List Int) × (List Int) × Int):Option (((List Int) × (List Int) × Int) ⊕ ((List Int) × (List Int))) :=
 (ixO x2.x s5.2.2).bind fun v3 =>
 cond (decide (s6.2.2 < v3)) (
  (rng (x1 + 1)).bind fun v4 =>
  (f_R x0 x1 s5.2.2).bind fun r5 =>
  (g_d x0 v4 (zJ.mk s6.1 s6.2.1) r5).bind fun r6 =>
  (rng (s6.2.2 + 1)).bind fun v7 =>
  some (.inl (r6.x,r6.v,v7))) (
  some (.inr (s6.1,s6.2.1)))
def zRs (g_d:zS → Int → zJ → zJ → Option zJ) (x0:zS) (x1:Int) (x2:zJ) (s5:(List Int) × (List Int) × Int):Option (((List Int) × (List Int) × Int) ⊕ ((List Int) × (List Int))) :=
 cond (decide (s5.2.2 < (x2.x.length:Int))) (
  (zH (zSK g_d x0 x1 x2 s5) (s5.1,s5.2.1,0)).bind fun r8 =>
  (rng (s5.2.2 + 1)).bind fun v9 =>
  some (.inl (r8.1,r8.2,v9))) (
  some (.inr (s5.1,s5.2.1)))
def b_f (g_d:zS → Int → zJ → zJ → Option zJ) (x0:zS) (x1:Int) (x2:zJ):Option zJ :=
 (zK0 x0).bind fun r1 =>
 (rng (x1 + 1)).bind fun v2 =>
 (zH (zRs g_d x0 x1 x2) (r1.x,r1.v,v2)).bind fun r10 =>
 (zSJ x0.m x2.v x1).bind fun r11 =>
 (f_n x0.m.Prime r10.2 1 r11).bind fun r12 =>
 some (zJ.mk r10.1 r12)
def zOb (g_f:zS → Int → zJ → Option zJ) (x0:zS) (x1:Int) (x3:zJ) (s1:(List Int) × (List Int) × Int):Option (((List Int) × (List Int) × Int) ⊕ ((List Int) × (List Int))) :=
 (ixO x3.x x1).bind fun v7 =>
 cond (decide (s1.2.2 < v7)) (
  (g_f x0 x1 (zJ.mk s1.1 s1.2.1)).bind fun r8 =>
  (rng (s1.2.2 + 1)).bind fun v9 =>
  some (.inl (r8.x,r8.v,v9))) (
  some (.inr (s1.1,s1.2.1)))
def b_d (g_f:zS → Int → zJ → Option zJ) (g_d:zS → Int → zJ → zJ → Option zJ) (x0:zS) (x1:Int) (x2:zJ) (x3:zJ):Option zJ :=
 cond (decide (x1 ≥ (x0.p.zA.length:Int))) (
  (yS (x0.p.zA.length:Int)).bind fun m1 =>
  (f_n x0.m.Prime x2.v 1 x3.v).bind fun r2 =>
  some (zJ.mk (List.replicate m1 (0:Int)) r2)) (
  (f_t x2.x).bind fun r3 =>
  (f_t x3.x).bind fun r4 =>
  (ixO r3 x1).bind fun _ =>
  (ixO r4 x1).bind fun _ =>
  (zH (zOb g_f x0 x1 x3) (r3.set x1.toNat 0,x2.v,0)).bind fun r10 =>
  (rng (x1 + 1)).bind fun v11 =>
  (g_d x0 v11 (zJ.mk r10.1 r10.2) (zJ.mk (r4.set x1.toNat 0) x3.v)).bind fun r12 =>
  (ixO x2.x x1).bind fun v13 =>
  (ixO x3.x x1).bind fun v14 =>
  (rng (v13 + v14)).bind fun v15 =>
  (ixO x0.p.zA x1).bind fun v16 =>
  cond (decide (v15 ≥ v16)) (
   (ixO x0.p.zA x1).bind fun v17 =>
   (rng (v15 - v17)).bind fun v18 =>
   (rng (x1 + 1)).bind fun v19 =>
   (zLJ x0 x1).bind fun r20 =>
   (g_d x0 v19 r20 r12).bind fun r21 =>
   (f_t r21.x).bind fun r22 =>
   (ixO r22 x1).bind fun _ =>
   some (zJ.mk (r22.set x1.toNat v18) r21.v)) (
   (f_t r12.x).bind fun r24 =>
   (ixO r24 x1).bind fun _ =>
   some (zJ.mk (r24.set x1.toNat v15) r12.v)))
mutual
def zLK:Nat → zS → Int → zJ → Option zJ
 | 0 => fun _ _ _ => none
 | n + 1 => b_f (zLL n)
def zLL:Nat → zS → Int → zJ → zJ → Option zJ
 | 0 => fun _ _ _ _ => none
 | n + 1 => b_d (zLK n) (zLL n)
end
def f_f (x0:zS) (x1:Int) (x2:zJ):Option zJ:=zCB fun n => zLK n x0 x1 x2
def f_d (x0:zS) (x1:Int) (x2:zJ) (x3:zJ):Option zJ:=zCB fun n => zLL n x0 x1 x2 x3
def zK1 (x0:zS) (x1:zJ) (x2:zJ):Option (List Int) :=
 (rng (x0.m.Prime - 1)).bind fun v1 =>
 (f_n x0.m.Prime x1.v v1 x2.v).bind fun r2 =>
 some r2
def zOc (x0:zS) (x1:Int) (s9:(List (List Int)) × Int) (s10:(List Int) × (List Int) × Int):Option (((List Int) × (List Int) × Int) ⊕ ((List Int) × (List Int))) :=
 (ixO x0.p.zA s9.2).bind fun v3 =>
 cond (decide (s10.2.2 < v3)) (
  (rng (x1 + 1)).bind fun v4 =>
  (f_R x0 x1 s9.2).bind fun r5 =>
  (f_d x0 v4 (zJ.mk s10.1 s10.2.1) r5).bind fun r6 =>
  (rng (s10.2.2 + 1)).bind fun v7 =>
  some (.inl (r6.x,r6.v,v7))) (
  some (.inr (s10.1,s10.2.1)))
def zOd (x0:zS) (x1:Int) (s9:(List (List Int)) × Int) (s12:(List (List Int)) × Int):Option (((List (List Int)) × Int) ⊕ (List (List Int))) :=
 cond (decide (s12.2 < (x0.p.zA.length:Int))) (
  (f_R x0 x1 s9.2).bind fun r14 =>
  (f_R x0 x1 s12.2).bind fun r15 =>
  (f_R x0 s9.2 s12.2).bind fun r16 =>
  (f_f x0 x1 r16).bind fun r17 =>
  (rng (x1 + 1)).bind fun v18 =>
  (f_d x0 v18 r15 r14).bind fun r19 =>
  (rng (x1 + 1)).bind fun v20 =>
  (f_d x0 v20 r14 r17).bind fun r21 =>
  (zK1 x0 r19 r21).bind fun r22 =>
  (xM s12.1 [r22]).bind fun v23 =>
  (rng (s12.2 + 1)).bind fun v24 =>
  some (.inl (v23,v24))) (
  some (.inr s12.1))
def zRt (x0:zS) (x1:Int) (s9:(List (List Int)) × Int):Option (((List (List Int)) × Int) ⊕ (List (List Int))) :=
 cond (decide (s9.2 < (x0.p.zA.length:Int))) (
  (zK0 x0).bind fun r2 =>
  (zH (zOc x0 x1 s9) (r2.x,r2.v,0)).bind fun r8 =>
  (zLJ x0 s9.2).bind fun r9 =>
  (f_f x0 x1 r9).bind fun r10 =>
  (zK1 x0 (zJ.mk r8.1 r8.2) r10).bind fun r11 =>
  (xM s9.1 [r11]).bind fun v12 =>
  (rng (s9.2 + 1)).bind fun v13 =>
  (zH (zOd x0 x1 s9) (v12,v13)).bind fun r25 =>
  (rng (s9.2 + 1)).bind fun v26 =>
  some (.inl (r25,v26))) (
  some (.inr s9.1))
def zRu (x0:zS) (x1:Int) (s20:(List Int) × (List Int) × Int):Option (((List Int) × (List Int) × Int) ⊕ ((List Int) × (List Int))) :=
 (ixO x0.p.zA x1).bind fun v35 =>
 cond (decide (s20.2.2 < v35)) (
  (f_f x0 x1 (zJ.mk s20.1 s20.2.1)).bind fun r36 =>
  (rng (s20.2.2 + 1)).bind fun v37 =>
  some (.inl (r36.x,r36.v,v37))) (
  some (.inr (s20.1,s20.2.1)))
def zOe (x0:zS) (x1:Int) (r28:zJ) (s19:(List (List Int)) × Int):Option (((List (List Int)) × Int) ⊕ (List (List Int))) :=
 cond (decide (s19.2 < (x0.p.zA.length:Int))) (
  (zK0 x0).bind fun r33 =>
  (ixO r33.x s19.2).bind fun _ =>
  (zH (zRu x0 x1) (r33.x.set s19.2.toNat 1,r33.v,0)).bind fun r38 =>
  (rng (x1 + 1)).bind fun v39 =>
  (f_d x0 v39 r28 (zJ.mk r38.1 r38.2)).bind fun r40 =>
  (rng (x1 + 1)).bind fun v41 =>
  (f_d x0 v41 (zJ.mk (r33.x.set s19.2.toNat 1) r33.v) r28).bind fun r42 =>
  (zK1 x0 r40 r42).bind fun r43 =>
  (xM s19.1 [r43]).bind fun v44 =>
  (rng (s19.2 + 1)).bind fun v45 =>
  some (.inl (v44,v45))) (
  some (.inr s19.1))
def f_h (x0:zS) (x1:Int):Option (List (List Int)) :=
 (rng (x1 + 1)).bind fun v1 =>
 (zH (zRt x0 x1) ([],v1)).bind fun r27 =>
 (zLJ x0 x1).bind fun r28 =>
 (f_f x0 x1 r28).bind fun r29 =>
 (zK1 x0 r29 r28).bind fun r30 =>
 (xM r27 [r30]).bind fun v31 =>
 (rng (x1 + 1)).bind fun v32 =>
 (zH (zOe x0 x1 r28) (v31,v32)).bind fun r46 =>
 some r46
def zK2 (x0:zS) (s1:(List (List Int)) × Int):Option (((List (List Int)) × Int) ⊕ (List (List Int))) :=
 cond (decide (s1.2 < (x0.p.zA.length:Int))) (
  (f_h x0 s1.2).bind fun r1 =>
  (xM s1.1 r1).bind fun v2 =>
  (rng (s1.2 + 1)).bind fun v3 =>
  some (.inl (v2,v3))) (
  some (.inr s1.1))
def zSL (x0:zS):Option (List (List Int)) :=
 (zH (zK2 x0) ([],0)).bind fun r4 =>
 some r4
def zK3 (r1:(List (List Int))) (s1:Int):Option (Int ⊕ (Unit ⊕ Bool)) :=
 cond (decide (s1 < (r1.length:Int))) (
  (ixO r1 s1).bind fun v2 =>
  (zOa v2).bind fun r3 =>
  cond (!r3) (
   some (.inr (.inr false))) (
   (rng (s1 + 1)).bind fun v4 =>
   some (.inl v4))) (
  some (.inr (.inl ())))
def zRv (x0:SPr) (x1:zE) (x2:List (List Int)):Option Bool :=
 (zSL (zS.mk x0 x1 x2)).bind fun r1 =>
 (zH (zK3 r1) 0).bind fun r5 =>
 match r5 with
 | (.inl r5) =>
  some true
 | (.inr r5) =>
  some r5
def zSM (x0:SPr) (x1:zE) (x2:List (List Int)):Option Bool :=
 (zSI x0).bind fun r1 =>
 cond ((x2.length:Int) == r1) (
  (zUO x1 x2).bind fun r2 =>
  some r2) (
  some false)
def zSN (x0:SPr) (x1:zE) (x2:List (List Int)):Option Bool :=
 (f_k x0 x1 x2).bind fun r1 =>
 (f_M r1).bind fun r2 =>
 some (r2 == 0)
def zSO (x0:Int):Option Bool :=
 some (x0 != 0)
def zHH (x0:List Int) (s1:Int):Option (Int ⊕ (Unit ⊕ Int)) :=
 cond (decide (s1 < (x0.length:Int))) (
  (ixO x0 s1).bind fun v1 =>
  (zSO v1).bind fun r2 =>
  cond r2 (
   some (.inr (.inr s1))) (
   (rng (s1 + 1)).bind fun v3 =>
   some (.inl v3))) (
  some (.inr (.inl ())))
def zSP (x0:List Int):Option Int :=
 (zH (zHH x0) 0).bind fun r4 =>
 match r4 with
 | (.inl r4) =>
  some (-1)
 | (.inr r4) =>
  some r4
def zK4 (x0:List (List Int)) (s1:(List Int) × Int):Option (((List Int) × Int) ⊕ (List Int)) :=
 cond (decide (s1.2 < (x0.length:Int))) (
  (ixO x0 s1.2).bind fun v1 =>
  (zSP v1).bind fun r2 =>
  (xM s1.1 [r2]).bind fun v3 =>
  (rng (s1.2 + 1)).bind fun v4 =>
  some (.inl (v3,v4))) (
  some (.inr s1.1))
def zRw (x0:List (List Int)):Option (List Int) :=
 (zH (zK4 x0) ([],0)).bind fun r5 =>
 some r5
def zHI (x0:zU) (r2:(List Int)) (s1:(List Int) × Int):Option (((List Int) × Int) ⊕ (List Int)) :=
 cond (decide (s1.2 < (r2.length:Int))) (
  (ixO r2 s1.2).bind fun v3 =>
  (ixO x0.Rows s1.2).bind fun v4 =>
  (ixO s1.1 v3).bind fun v5 =>
  (rng (0 - v5)).bind fun v6 =>
  (f_r s1.1 v4 v6 x0.Prime).bind fun r7 =>
  (rng (s1.2 + 1)).bind fun v8 =>
  some (.inl (r7,v8))) (
  some (.inr s1.1))
def zSQ (x0:zU) (x1:List Int):Option (List Int) :=
 (f_w x1).bind fun r1 =>
 (zRw x0.Rows).bind fun r2 =>
 (zH (zHI x0 r2) (r1,0)).bind fun r9 =>
 some r9
def zRx (x0:List (List Int)) (s1:(List Int) × Int):Option (((List Int) × Int) ⊕ (List Int)) :=
 cond (decide (s1.2 < (x0.length:Int))) (
  (ixO x0 s1.2).bind fun v1 =>
  (xM s1.1 v1).bind fun v2 =>
  (rng (s1.2 + 1)).bind fun v3 =>
  some (.inl (v2,v3))) (
  some (.inr s1.1))
def f_Z (x0:List (List Int)):Option (List Int) :=
 (zH (zRx x0) ([],0)).bind fun r4 =>
 some r4
def zOf (x2:Int) (r2:(List (List Int))) (s1:(List (List Int)) × Int):Option (((List (List Int)) × Int) ⊕ (List (List Int))) :=
 cond (decide (s1.2 < (r2.length:Int))) (
  (ixO r2 s1.2).bind fun v3 =>
  (zT v3 0 x2).bind fun v4 =>
  (f_A v4).bind fun r5 =>
  cond r5 (
   (zT v3 x2 v3.length).bind fun v6 =>
   (xM s1.1 [v6]).bind fun v7 =>
   (rng (s1.2 + 1)).bind fun v8 =>
   some (.inl (v7,v8))) (
   (rng (s1.2 + 1)).bind fun v9 =>
   some (.inl (s1.1,v9)))) (
  some (.inr s1.1))
def f_P (x0:Int) (x1:List (List Int)) (x2:Int):Option (List (List Int)) :=
 (f_K x1).bind fun r1 =>
 (f_g x0 r1).bind fun r2 =>
 (zH (zOf x2 r2) ([],0)).bind fun r10 =>
 (f_g x0 r10).bind fun r11 =>
 some r11
def zHJ (x0:List Int) (x1:Int) (s1:(List (List Int)) × Int):Option (((List (List Int)) × Int) ⊕ (List (List Int))) :=
 (rng (s1.2 + x1)).bind fun v1 =>
 cond (decide (v1 ≤ (x0.length:Int))) (
  (rng (s1.2 + x1)).bind fun v2 =>
  (zT x0 s1.2 v2).bind fun v3 =>
  (f_t v3).bind fun r4 =>
  (xM s1.1 [r4]).bind fun v5 =>
  (rng (s1.2 + x1)).bind fun v6 =>
  some (.inl (v5,v6))) (
  some (.inr s1.1))
def zOg (x0:List Int) (x1:Int):Option (List (List Int)) :=
 (zH (zHJ x0 x1) ([],0)).bind fun r7 =>
 some r7
def zRy (x0:SPr) (x1:zE) (x2:List (List Int)) (s5:(List (List Int)) × Int) (s6:(List Int) × Int):Option (((List Int) × Int) ⊕ (List Int)) :=
 (ixO x0.zA s5.2).bind fun v2 =>
 cond (decide (s6.2 < v2)) (
  (zKz x1 x2 s6.1 s5.2).bind fun r3 =>
  (rng (s6.2 + 1)).bind fun v4 =>
  some (.inl (r3,v4))) (
  some (.inr s6.1))
def zRz (x0:SPr) (x1:zE) (x2:List (List Int)) (m1:Nat) (s5:(List (List Int)) × Int):Option (((List (List Int)) × Int) ⊕ (List (List Int))) :=
 cond (decide (s5.2 < (x0.zA.length:Int))) (
  (zH (zRy x0 x1 x2 s5) (List.replicate m1 (0:Int),0)).bind fun r5 =>
  (rng (x1.Prime - 1)).bind fun v6 =>
  (ixO x0.zW s5.2).bind fun v7 =>
  (f_D x1 x2 (List.replicate m1 (0:Int)) v7).bind fun r8 =>
  (f_n x1.Prime r5 v6 r8).bind fun r9 =>
  (xM s5.1 [r9]).bind fun v10 =>
  (rng (s5.2 + 1)).bind fun v11 =>
  some (.inl (v10,v11))) (
  some (.inr s5.1))
def zR0 (x0:SPr) (x1:zE) (x2:List (List Int)) (m1:Nat) (s13:(List (List Int)) × Int) (s14:(List (List Int)) × Int):Option (((List (List Int)) × Int) ⊕ (List (List Int))) :=
 cond (decide (s14.2 < (x0.zA.length:Int))) (
  (zKz x1 x2 (List.replicate m1 (0:Int)) s14.2).bind fun r14 =>
  (zKz x1 x2 r14 s13.2).bind fun r15 =>
  (zKz x1 x2 (List.replicate m1 (0:Int)) s13.2).bind fun r16 =>
  (ixO x0.zC s13.2).bind fun v17 =>
  (rng (s14.2 - s13.2)).bind fun v18 =>
  (rng (v18 - 1)).bind fun v19 =>
  (ixO v17 v19).bind fun v20 =>
  (f_D x1 x2 r16 v20).bind fun r21 =>
  (rng (x1.Prime - 1)).bind fun v22 =>
  (f_n x1.Prime r15 v22 r21).bind fun r23 =>
  (xM s14.1 [r23]).bind fun v24 =>
  (rng (s14.2 + 1)).bind fun v25 =>
  some (.inl (v24,v25))) (
  some (.inr s14.1))
def zOh (x0:SPr) (x1:zE) (x2:List (List Int)) (m1:Nat) (s13:(List (List Int)) × Int):Option (((List (List Int)) × Int) ⊕ (List (List Int))) :=
 cond (decide (s13.2 < (x0.zA.length:Int))) (
  (rng (s13.2 + 1)).bind fun v13 =>
  (zH (zR0 x0 x1 x2 m1 s13) (s13.1,v13)).bind fun r26 =>
  (rng (s13.2 + 1)).bind fun v27 =>
  some (.inl (r26,v27))) (
  some (.inr s13.1))
def f_o (x0:SPr) (x1:zE) (x2:List (List Int)):Option (List (List Int)) :=
 (yS x1.Dim).bind fun m1 =>
 (zH (zRz x0 x1 x2 m1) ([],0)).bind fun r12 =>
 (zH (zOh x0 x1 x2 m1) (r12,0)).bind fun r28 =>
 some r28
def zK5 (x0:SPr) (x1:zE) (v1:Int) (s1:(List (List Int)) × Int):Option (((List (List Int)) × Int) ⊕ (List (List Int))) :=
 cond (decide (s1.2 < v1)) (
  (yS v1).bind fun m2 =>
  (ixO (List.replicate m2 (0:Int)) s1.2).bind fun _ =>
  (zOg ((List.replicate m2 (0:Int)).set s1.2.toNat 1) x1.Dim).bind fun r4 =>
  (f_o x0 x1 r4).bind fun r5 =>
  (f_Z r5).bind fun r6 =>
  (xM s1.1 [r6]).bind fun v7 =>
  (rng (s1.2 + 1)).bind fun v8 =>
  some (.inl (v7,v8))) (
  some (.inr s1.1))
def zSR (x0:SPr) (x1:zE):Option (List (List Int)) :=
 (rng ((x0.zA.length:Int) * x1.Dim)).bind fun v1 =>
 (zH (zK5 x0 x1 v1) ([],0)).bind fun r9 =>
 some r9
def zLM (x0:SPr) (x1:zE):Option (List (List Int)) :=
 (zSR x0 x1).bind fun r1 =>
 (f_j x1.Prime r1).bind fun r2 =>
 some r2
def zK6 (x0:SPr) (x1:zE) (v1:Int) (s1:(List (List Int)) × Int):Option (((List (List Int)) × Int) ⊕ (List (List Int))) :=
 cond (decide (s1.2 < v1)) (
  (zI9 v1 s1.2).bind fun r2 =>
  (f_Q r2 x1.Dim).bind fun r3 =>
  (f_Y x0 x1 r3).bind fun r4 =>
  (f_s r4).bind fun r5 =>
  (xM s1.1 [r5]).bind fun v6 =>
  (rng (s1.2 + 1)).bind fun v7 =>
  some (.inl (v6,v7))) (
  some (.inr s1.1))
def zR1 (x0:SPr) (x1:zE):Option (List (List Int)) :=
 (rng ((x0.zA.length:Int) * x1.Dim)).bind fun v1 =>
 (zH (zK6 x0 x1 v1) ([],0)).bind fun r8 =>
 some r8
def zSS (x0:SPr) (x1:zE) (x2:List (List Int)) (x3:List (List Int)):Option Int :=
 (zS4 x0 x1).bind fun r1 =>
 cond (!r1) (
  some 1) (
  (zRr x0 x1 x2).bind fun r2 =>
  cond (!r2) (
   some 1) (
   (zRr x0 x1 x3).bind fun r3 =>
   cond (!r3) (
    some 1) (
    (zRv x0 x1 x2).bind fun r4 =>
    cond (!r4) (
     some 5) (
     (zRv x0 x1 x3).bind fun r5 =>
     cond (!r5) (
      some 5) (
      some 0)))))
def zR2 (x0:SPr) (x1:zE) (x2:List (List (List Int))) (s1:Int):Option (Int ⊕ (Unit ⊕ Int)) :=
 cond (decide (s1 < (x2.length:Int))) (
  (ixO x2 s1).bind fun v2 =>
  (zSM x0 x1 v2).bind fun r3 =>
  cond (!r3) (
   some (.inr (.inr 1))) (
   (rng (s1 + 1)).bind fun v4 =>
   some (.inl v4))) (
  some (.inr (.inl ())))
def zR3 (x0:SPr) (x1:zE) (x2:List (List (List Int))) (s3:Int):Option (Int ⊕ (Unit ⊕ Int)) :=
 cond (decide (s3 < (x2.length:Int))) (
  (ixO x2 s3).bind fun v6 =>
  (zSN x0 x1 v6).bind fun r7 =>
  cond (!r7) (
   some (.inr (.inr 5))) (
   (rng (s3 + 1)).bind fun v8 =>
   some (.inl v8))) (
  some (.inr (.inl ())))
def f_L (x0:SPr) (x1:zE) (x2:List (List (List Int))):Option Int :=
 (f_C x0 x1).bind fun r1 =>
 cond (!r1) (
  some 1) (
  (zH (zR2 x0 x1 x2) 0).bind fun r5 =>
  match r5 with
  | (.inl r5) =>
   (zH (zR3 x0 x1 x2) 0).bind fun r9 =>
   match r9 with
   | (.inl r9) =>
    some 0
   | (.inr r9) =>
    some r9
  | (.inr r5) =>
   some r5)
def zHK (x2:Int) (r1:(List (List Int))) (s1:(List (List Int)) × Int):Option (((List (List Int)) × Int) ⊕ (List (List Int))) :=
 cond (decide (s1.2 < (r1.length:Int))) (
  (ixO r1 s1.2).bind fun v4 =>
  (f_x v4).bind fun r5 =>
  cond (decide (r5 < x2)) (
   (ixO r1 s1.2).bind fun v6 =>
   (xM s1.1 [v6]).bind fun v7 =>
   (rng (s1.2 + 1)).bind fun v8 =>
   some (.inl (v7,v8))) (
   (rng (s1.2 + 1)).bind fun v9 =>
   some (.inl (s1.1,v9)))) (
  some (.inr s1.1))
def zOi (x0:Int) (x1:List (List Int)) (x2:Int) (x3:List Int):Option ((List Int) × Bool) :=
 (zSG x0 x1).bind fun r1 =>
 (f_t x3).bind fun r2 =>
 (wX r2 (x1.length:Int) (0:Int)).bind fun v3 =>
 (zH (zHK x2 r1) ([],0)).bind fun r10 =>
 (f_O x0 r10 v3).bind fun r11 =>
 (zT r11 0 x2).bind fun v12 =>
 (zOa v12).bind fun r13 =>
 cond (!r13) (
  some ([],false)) (
  (rng (x0 - 1)).bind fun v14 =>
  (zT r11 x2 r11.length).bind fun v15 =>
  (zRm x0 v14 v15).bind fun r16 =>
  (zUL x0 x1 x2).bind fun r17 =>
  (f_O x0 r17 r16).bind fun r18 =>
  some (r18,true))
def zUP (x0:Int) (x1:List (List Int)):Option zU :=
 (ixO x1 0).bind fun v1 =>
 some (zU.mk x0 (v1.length:Int) x1)
def zST (x0:Int):Option Bool :=
 some (x0 != 0)
def zHL (x0:List Int) (s1:Int):Option (Int ⊕ (Unit ⊕ Int)) :=
 cond (decide (s1 < (x0.length:Int))) (
  (ixO x0 s1).bind fun v1 =>
  (zST v1).bind fun r2 =>
  cond r2 (
   some (.inr (.inr s1))) (
   (rng (s1 + 1)).bind fun v3 =>
   some (.inl v3))) (
  some (.inr (.inl ())))
def zSU (x0:List Int):Option Int :=
 (zH (zHL x0) 0).bind fun r4 =>
 match r4 with
 | (.inl r4) =>
  some (-1)
 | (.inr r4) =>
  some r4
def zUQ (x0:zU):Option zU :=
 (f_P x0.Prime x0.Rows x0.xG).bind fun r1 =>
 some (zU.mk x0.Prime (x0.Rows.length:Int) r1)
def zOj (x0:zU) (r4:(List (List Int))) (s1:(List Int) × Int):Option (((List Int) × Int) ⊕ (List Int)) :=
 cond (decide (s1.2 < (r4.length:Int))) (
  (ixO r4 s1.2).bind fun v5 =>
  (zSU v5).bind fun r6 =>
  cond (decide (r6 < x0.xG)) (
   (ixO s1.1 r6).bind fun v7 =>
   (rng (0 - v7)).bind fun v8 =>
   (f_r s1.1 v5 v8 x0.Prime).bind fun r9 =>
   (rng (s1.2 + 1)).bind fun v10 =>
   some (.inl (r9,v10))) (
   (rng (s1.2 + 1)).bind fun v11 =>
   some (.inl (s1.1,v11)))) (
  some (.inr s1.1))
def zOl (x0:zU) (r12:(List Int)) (s3:(List Int) × Int):Option (((List Int) × Int) ⊕ (List Int)) :=
 cond (decide (s3.2 < (((r12.length:Int).toNat - (x0.xG:Int).toNat:Nat):Int))) (
  (zT s3.1 x0.xG r12.length).bind fun v16 =>
  (ixO v16 s3.2).bind fun v17 =>
  (rng (0 - v17)).bind fun v18 =>
  (zGR v18 x0.Prime).bind fun r19 =>
  (zT s3.1 x0.xG r12.length).bind fun v20 =>
  (ixO v20 s3.2).bind fun _ =>
  (rng (s3.2 + 1)).bind fun v22 =>
  some (.inl (s3.1.set (x0.xG + s3.2).toNat r19,v22))) (
  some (.inr s3.1))
def f_y (x0:zU) (x1:List Int):Option ((List Int) × Bool) :=
 (f_w x1).bind fun r1 =>
 (wX r1 (x0.Rows.length:Int) (0:Int)).bind fun v2 =>
 (f_K x0.Rows).bind fun r3 =>
 (f_g x0.Prime r3).bind fun r4 =>
 (zH (zOj x0 r4) (v2,0)).bind fun r12 =>
 (zT r12 0 x0.xG).bind fun v13 =>
 (f_A v13).bind fun r14 =>
 cond (!r14) (
  some ([],false)) (
  (zT r12 x0.xG r12.length).bind fun _ =>
  (zH (zOl x0 r12) (r12,0)).bind fun r23 =>
  (zUQ x0).bind fun r24 =>
  (zT r23 x0.xG r12.length).bind fun v25 =>
  (zSQ r24 v25).bind fun r26 =>
  some (r26,true))
def zUR (x0:SPr) (x1:zE) (x2:List (List Int)) (x3:List (List Int)):Option Bool :=
 (zLM x0 x1).bind fun r1 =>
 (f_Z x2).bind fun r2 =>
 (rng (x1.Prime - 1)).bind fun v3 =>
 (f_Z x3).bind fun r4 =>
 (f_n x1.Prime r2 v3 r4).bind fun r5 =>
 (f_O x1.Prime r1 r5).bind fun r6 =>
 (zOa r6).bind fun r7 =>
 some r7
def zR4 (x0:SPr) (x1:zE) (x2:List (List Int)) (x3:List (List Int)):Option (Bool × Int) :=
 (zSS x0 x1 x2 x3).bind fun r1 =>
 cond (r1 != 0) (
  some (false,r1)) (
  (zUR x0 x1 x2 x3).bind fun r2 =>
  some (r2,0))
def zUS (x0:zE) (x1:List (List Int)) (x2:List (List Int)):Option (List Int) :=
 (f_s x1).bind fun r1 =>
 (f_s x2).bind fun r2 =>
 (f_r r1 r2 (-1) x0.Prime).bind fun r3 =>
 some r3
def zR5 (x0:SPr) (x1:zE) (x2:List Int):Option ((List (List Int)) × Bool) :=
 cond ((x0.zA.length:Int) == 0) (
  some ([],true)) (
  (yS (x2.length:Int)).bind fun m1 =>
  (f_r (List.replicate m1 (0:Int)) x2 (-1) x1.Prime).bind fun r2 =>
  (zR1 x0 x1).bind fun r3 =>
  (zUP x1.Prime r3).bind fun r4 =>
  (f_y r4 r2).bind fun r5 =>
  cond (!r5.2) (
   some ([],false)) (
   (f_Q r5.1 x1.Dim).bind fun r6 =>
   some (r6,true)))
def zR6 (x0:SPr) (x1:zE) (x2:List (List Int)) (x3:List (List Int)):Option (Bool × Int) :=
 (f_L x0 x1 [x2,x3]).bind fun r1 =>
 cond (r1 != 0) (
  some (false,r1)) (
  (zUS x1 x2 x3).bind fun r2 =>
  (zR5 x0 x1 r2).bind fun r3 =>
  some (r3.2,0))
def zSV (x0:SPr) (x1:zE) (x2:List (List Int)) (x3:List (List Int)):Option Bool :=
 (zSv x0 1048576).bind fun r1 =>
 cond (decide (r1 < 0)) (
  some true) (
  (zSw x1 r1).bind fun r2 =>
  cond (decide (r2 < 0)) (
   some true) (
   (zNK x2 r2).bind fun r3 =>
   cond (decide (r3 < 0)) (
    some true) (
    (zNK x3 r3).bind fun r4 =>
    cond (decide (r4 < 0)) (
     some true) (
     (zNM x0).bind fun r5 =>
     (zNN x1).bind fun r6 =>
     (f_J x2).bind fun r7 =>
     (f_J x3).bind fun r8 =>
     (zR4 r5 r6 r7 r8).bind fun r9 =>
     (zNM x0).bind fun r10 =>
     (zNN x1).bind fun r11 =>
     (f_J x2).bind fun r12 =>
     (f_J x3).bind fun r13 =>
     (zR6 r10 r11 r12 r13).bind fun r14 =>
     cond (r14.1 != r9.1) (
      some false) (
      cond (r14.2 != r9.2) (
       some false) (
       (zNM x0).bind fun r15 =>
       (zSD r10 r15).bind fun r16 =>
       cond (!r16) (
        some false) (
        (zNN x1).bind fun r17 =>
        (zSC r11 r17).bind fun r18 =>
        cond (!r18) (
         some false) (
         (f_J x2).bind fun r19 =>
         (zLG r12 r19).bind fun r20 =>
         cond (!r20) (
          some false) (
          (f_J x3).bind fun r21 =>
          (zLG r13 r21).bind fun r22 =>
          cond (!r22) (
           some false) (
           some true))))))))))
end Go.Wk
