/- The program and the reference agree which extensions split, for all arguments (FnExactIsSplit). This file is a part of the proof. -/
import Derived.Test.YtkifphhpbcgieabGreatAbC
noncomputable section
namespace Go.Wk
open Go Go.Ab
structure SPr where
 zA:List Int
 zV:List (List Int)
 zB:List (List (List Int))
abbrev wH (x:SPr):T:=.agg [(L 1 I) x.zA,(L 1 (L 1 I)) x.zV,(L 1 (L 1 (L 1 I))) x.zB]
instance:Enc wH:=.of fun _ => zOR ⟨Enc.t (f:=(L 1 I)) inferInstance _,Enc.t (f:=(L 1 (L 1 I))) inferInstance _,Enc.t (f:=(L 1 (L 1 (L 1 I)))) inferInstance _,trivial⟩
structure zD where
 Prime:Int
 Dim:Int
 zI:List (List (List Int))
abbrev yV (x:zD):T:=.agg [I x.Prime,I x.Dim,(L 1 (L 1 (L 1 I))) x.zI]
instance:Enc yV:=.of fun _ => zOR ⟨Enc.t (f:=I) inferInstance _,Enc.t (f:=I) inferInstance _,Enc.t (f:=(L 1 (L 1 (L 1 I)))) inferInstance _,trivial⟩
structure yQ where
 Kind:Int
 zTA:Int
 zT9:Int
 zRy:Int
abbrev zEV (x:yQ):T:=.agg [I x.Kind,I x.zTA,I x.zT9,I x.zRy]
instance:Enc zEV:=.of fun _ => zOR ⟨Enc.t (f:=I) inferInstance _,Enc.t (f:=I) inferInstance _,Enc.t (f:=I) inferInstance _,Enc.t (f:=I) inferInstance _,trivial⟩
structure zS where
 Prime:Int
 xR:Int
 Rows:List (List Int)
abbrev zAA (x:zS):T:=.agg [I x.Prime,I x.xR,(L 1 (L 1 I)) x.Rows]
instance:Enc zAA:=.of fun _ => zOR ⟨Enc.t (f:=I) inferInstance _,Enc.t (f:=I) inferInstance _,Enc.t (f:=(L 1 (L 1 I))) inferInstance _,trivial⟩
structure zO where
 p:SPr
 m:zD
 zKw:List (List Int)
structure zE where
 x:List Int
 v:List Int
abbrev yM (x:zE):T:=.agg [(L 1 I) x.x,(L 1 I) x.v]
instance:Enc yM:=.of fun _ => zOR ⟨Enc.t (f:=(L 1 I)) inferInstance _,Enc.t (f:=(L 1 I)) inferInstance _,trivial⟩
def zPZ (x0:List Int) (x1:Int):Option Int :=
 (rng (x1 - (x0.length:Int))).bind fun v1 =>
 cond (decide (v1 < 0)) (
  some (-1)) (
  some v1)
def zT6 (x0:List (List Int)) (s1:Int × Int):Option ((Int × Int) ⊕ (Int ⊕ Int)) :=
 cond (decide (s1.2 < (x0.length:Int))) (
  (ixO x0 s1.2).bind fun v2 =>
  (zPZ v2 s1.1).bind fun r3 =>
  cond (decide (r3 < 0)) (
   some (.inr (.inr (-1)))) (
   (rng (s1.2 + 1)).bind fun v4 =>
   some (.inl (r3,v4)))) (
  some (.inr (.inl s1.1)))
def zQa (x0:List (List Int)) (x1:Int):Option Int :=
 (rng (x1 - (x0.length:Int))).bind fun v1 =>
 cond (decide (v1 < 0)) (
  some (-1)) (
  (zG (zT6 x0) (v1,0)).bind fun r5 =>
  match r5 with
  | (.inl r5) =>
   some r5
  | (.inr r5) =>
   some r5)
def zT7 (x0:List (List (List Int))) (s1:Int × Int):Option ((Int × Int) ⊕ (Int ⊕ Int)) :=
 cond (decide (s1.2 < (x0.length:Int))) (
  (ixO x0 s1.2).bind fun v2 =>
  (zQa v2 s1.1).bind fun r3 =>
  cond (decide (r3 < 0)) (
   some (.inr (.inr (-1)))) (
   (rng (s1.2 + 1)).bind fun v4 =>
   some (.inl (r3,v4)))) (
  some (.inr (.inl s1.1)))
def zSl (x0:List (List (List Int))) (x1:Int):Option Int :=
 (rng (x1 - (x0.length:Int))).bind fun v1 =>
 cond (decide (v1 < 0)) (
  some (-1)) (
  (zG (zT7 x0) (v1,0)).bind fun r5 =>
  match r5 with
  | (.inl r5) =>
   some r5
  | (.inr r5) =>
   some r5)
def zSm (x0:SPr) (x1:Int):Option Int :=
 (zPZ x0.zA x1).bind fun r1 =>
 cond (decide (r1 < 0)) (
  some (-1)) (
  (zQa x0.zV r1).bind fun r2 =>
  cond (decide (r2 < 0)) (
   some (-1)) (
   (zSl x0.zB r2).bind fun r3 =>
   cond (decide (r3 < 0)) (
    some (-1)) (
    some r3)))
def zSn (x0:zD) (x1:Int):Option Int :=
 (zSl x0.zI x1).bind fun r1 =>
 cond (decide (r1 < 0)) (
  some (-1)) (
  some r1)
def zQb (x0:List Int) (s1:(List Int) × Int):Option (((List Int) × Int) ⊕ (List Int)) :=
 cond (decide (s1.2 < (x0.length:Int))) (
  (ixO x0 s1.2).bind fun v2 =>
  (ixO s1.1 s1.2).bind fun _ =>
  (rng (s1.2 + 1)).bind fun v4 =>
  some (.inl (s1.1.set s1.2.toNat v2,v4))) (
  some (.inr s1.1))
def zND (x0:List Int):Option (List Int) :=
 (yW (x0.length:Int)).bind fun m1 =>
 (zG (zQb x0) (List.replicate m1 (0:Int),0)).bind fun r5 =>
 some r5
def zUG (x0:List (List Int)) (s1:(List (List Int)) × Int):Option (((List (List Int)) × Int) ⊕ (List (List Int))) :=
 cond (decide (s1.2 < (x0.length:Int))) (
  (ixO x0 s1.2).bind fun v2 =>
  (zND v2).bind fun r3 =>
  (ixO s1.1 s1.2).bind fun _ =>
  (rng (s1.2 + 1)).bind fun v5 =>
  some (.inl (s1.1.set s1.2.toNat r3,v5))) (
  some (.inr s1.1))
def f_O (x0:List (List Int)):Option (List (List Int)) :=
 (yW (x0.length:Int)).bind fun m1 =>
 (zG (zUG x0) (List.replicate m1 ([]:List Int),0)).bind fun r6 =>
 some r6
def zQc (x0:List (List (List Int))) (s1:(List (List (List Int))) × Int):Option (((List (List (List Int))) × Int) ⊕ (List (List (List Int)))) :=
 cond (decide (s1.2 < (x0.length:Int))) (
  (ixO x0 s1.2).bind fun v2 =>
  (f_O v2).bind fun r3 =>
  (ixO s1.1 s1.2).bind fun _ =>
  (rng (s1.2 + 1)).bind fun v5 =>
  some (.inl (s1.1.set s1.2.toNat r3,v5))) (
  some (.inr s1.1))
def zQd (x0:List (List (List Int))):Option (List (List (List Int))) :=
 (yW (x0.length:Int)).bind fun m1 =>
 (zG (zQc x0) (List.replicate m1 ([]:List (List Int)),0)).bind fun r6 =>
 some r6
def zNE (x0:SPr):Option SPr :=
 (zND x0.zA).bind fun r1 =>
 (f_O x0.zV).bind fun r2 =>
 (zQd x0.zB).bind fun r3 =>
 some (SPr.mk r1 r2 r3)
def zNF (x0:zD):Option zD :=
 (zQd x0.zI).bind fun r1 =>
 some (zD.mk x0.Prime x0.Dim r1)
def zSo (x0:Int):Option Bool :=
 cond (x0 == 2) (
  some true) (
  cond (x0 == 3) (
   some true) (
   cond (x0 == 5) (
    some true) (
    some (x0 == 7))))
def zJX (x0:List Int) (s1:Int × Int):Option ((Int × Int) ⊕ Int) :=
 cond (decide (s1.2 < (x0.length:Int))) (
  cond (decide (s1.1 ≤ 729)) (
   (ixO x0 s1.2).bind fun v1 =>
   (rng (s1.1 * v1)).bind fun v2 =>
   (rng (s1.2 + 1)).bind fun v3 =>
   some (.inl (v2,v3))) (
   (rng (s1.2 + 1)).bind fun v4 =>
   some (.inl (s1.1,v4)))) (
  some (.inr s1.1))
def zSp (x0:List Int):Option Int :=
 (zG (zJX x0) (1,0)).bind fun r5 =>
 some r5
def zQe (x0:Int) (x1:Int) (x2:Int):Option Bool :=
 cond (decide (x0 ≥ x1)) (
  some (decide (x0 ≤ x2))) (
  some false)
def zMO (x0:List Int) (x1:List Int) (x2:Int) (s1:Int):Option (Int ⊕ (Unit ⊕ Bool)) :=
 cond (decide (s1 < (x1.length:Int))) (
  (ixO x1 s1).bind fun v1 =>
  (ixO x0 s1).bind fun v2 =>
  (rng (v2 - 1)).bind fun v3 =>
  (zQe v1 0 v3).bind fun r4 =>
  cond (!r4) (
   some (.inr (.inr false))) (
   cond (decide (s1 ≤ x2)) (
    (ixO x1 s1).bind fun v5 =>
    cond (v5 != 0) (
     some (.inr (.inr false))) (
     (rng (s1 + 1)).bind fun v6 =>
     some (.inl v6))) (
    (rng (s1 + 1)).bind fun v5 =>
    some (.inl v5)))) (
  some (.inr (.inl ())))
def zQf (x0:List Int) (x1:List Int) (x2:Int):Option Bool :=
 cond ((x1.length:Int) != (x0.length:Int)) (
  some false) (
  (zG (zMO x0 x1 x2) 0).bind fun r6 =>
  match r6 with
  | (.inl r6) =>
   some true
  | (.inr r6) =>
   some r6)
def zQg (x0:SPr) (s1:Int):Option (Int ⊕ (Unit ⊕ Bool)) :=
 cond (decide (s1 < (x0.zA.length:Int))) (
  (ixO x0.zA s1).bind fun v1 =>
  (zSo v1).bind fun r2 =>
  cond (!r2) (
   some (.inr (.inr false))) (
   (rng (s1 + 1)).bind fun v3 =>
   some (.inl v3))) (
  some (.inr (.inl ())))
def zQh (x0:SPr) (s7:Int) (s8:Int):Option (Int ⊕ (Unit ⊕ Bool)) :=
 (ixO x0.zB s7).bind fun v11 =>
 cond (decide (s8 < (v11.length:Int))) (
  (ixO x0.zB s7).bind fun v12 =>
  (ixO v12 s8).bind fun v13 =>
  (zQf x0.zA v13 s7).bind fun r14 =>
  cond (!r14) (
   some (.inr (.inr false))) (
   (rng (s8 + 1)).bind fun v15 =>
   some (.inl v15))) (
  some (.inr (.inl ())))
def zL0 (x0:SPr) (s7:Int):Option (Int ⊕ (Unit ⊕ Bool)) :=
 cond (decide (s7 < (x0.zA.length:Int))) (
  (ixO x0.zV s7).bind fun v6 =>
  (zQf x0.zA v6 s7).bind fun r7 =>
  cond (!r7) (
   some (.inr (.inr false))) (
   (ixO x0.zB s7).bind fun v8 =>
   (rng ((x0.zA.length:Int) - 1)).bind fun v9 =>
   (rng (v9 - s7)).bind fun v10 =>
   cond ((v8.length:Int) != v10) (
    some (.inr (.inr false))) (
    (zG (zQh x0 s7) 0).bind fun r16 =>
    match r16 with
    | (.inl r16) =>
     (rng (s7 + 1)).bind fun v17 =>
     some (.inl v17)
    | (.inr r16) =>
     some (.inr (.inr r16))))) (
  some (.inr (.inl ())))
def f_t (x0:SPr):Option Bool :=
 cond (decide ((x0.zA.length:Int) > 6)) (
  some false) (
  cond ((x0.zV.length:Int) != (x0.zA.length:Int)) (
   some false) (
   cond ((x0.zB.length:Int) != (x0.zA.length:Int)) (
    some false) (
    (zG (zQg x0) 0).bind fun r4 =>
    match r4 with
    | (.inl r4) =>
     (zSp x0.zA).bind fun r5 =>
     cond (decide (r5 > 729)) (
      some false) (
      (zG (zL0 x0) 0).bind fun r18 =>
      match r18 with
      | (.inl r18) =>
       some true
      | (.inr r18) =>
       some r18)
    | (.inr r4) =>
     some r4)))
def f_q (x0:List Int):Option (List Int) :=
 (xQ [] x0).bind fun v1 =>
 some v1
def zQi (g_a:SPr → Int → (List Int) → (List Int) → Option (List Int)) (x0:SPr) (x1:Int) (x2:List Int) (s5:(List Int) × Int) (s6:(List Int) × Int):Option (((List Int) × Int) ⊕ (List Int)) :=
 (ixO x2 s5.2).bind fun v3 =>
 cond (decide (s6.2 < v3)) (
  (rng (x1 + 1)).bind fun v4 =>
  (ixO x0.zB x1).bind fun v5 =>
  (rng (s5.2 - x1)).bind fun v6 =>
  (rng (v6 - 1)).bind fun v7 =>
  (ixO v5 v7).bind fun v8 =>
  (g_a x0 v4 s6.1 v8).bind fun r9 =>
  (rng (s6.2 + 1)).bind fun v10 =>
  some (.inl (r9,v10))) (
  some (.inr s6.1))
def zQj (g_a:SPr → Int → (List Int) → (List Int) → Option (List Int)) (x0:SPr) (x1:Int) (x2:List Int) (s5:(List Int) × Int):Option (((List Int) × Int) ⊕ (List Int)) :=
 cond (decide (s5.2 < (x0.zA.length:Int))) (
  (zG (zQi g_a x0 x1 x2 s5) (s5.1,0)).bind fun r11 =>
  (rng (s5.2 + 1)).bind fun v12 =>
  some (.inl (r11,v12))) (
  some (.inr s5.1))
def b_e (g_a:SPr → Int → (List Int) → (List Int) → Option (List Int)) (x0:SPr) (x1:Int) (x2:List Int):Option (List Int) :=
 (yW (x0.zA.length:Int)).bind fun m1 =>
 (rng (x1 + 1)).bind fun v2 =>
 (zG (zQj g_a x0 x1 x2) (List.replicate m1 (0:Int),v2)).bind fun r13 =>
 some r13
def zSq (g_e:SPr → Int → (List Int) → Option (List Int)) (x0:SPr) (x1:Int) (x3:List Int) (s1:(List Int) × Int):Option (((List Int) × Int) ⊕ (List Int)) :=
 (ixO x3 x1).bind fun v6 =>
 cond (decide (s1.2 < v6)) (
  (g_e x0 x1 s1.1).bind fun r7 =>
  (rng (s1.2 + 1)).bind fun v8 =>
  some (.inl (r7,v8))) (
  some (.inr s1.1))
def b_a (g_e:SPr → Int → (List Int) → Option (List Int)) (g_a:SPr → Int → (List Int) → (List Int) → Option (List Int)) (x0:SPr) (x1:Int) (x2:List Int) (x3:List Int):Option (List Int) :=
 cond (decide (x1 ≥ (x0.zA.length:Int))) (
  (yW (x0.zA.length:Int)).bind fun m1 =>
  some (List.replicate m1 (0:Int))) (
  (f_q x2).bind fun r2 =>
  (f_q x3).bind fun r3 =>
  (ixO r2 x1).bind fun _ =>
  (ixO r3 x1).bind fun _ =>
  (zG (zSq g_e x0 x1 x3) (r2.set x1.toNat 0,0)).bind fun r9 =>
  (rng (x1 + 1)).bind fun v10 =>
  (g_a x0 v10 r9 (r3.set x1.toNat 0)).bind fun r11 =>
  (ixO x2 x1).bind fun v12 =>
  (ixO x3 x1).bind fun v13 =>
  (rng (v12 + v13)).bind fun v14 =>
  (ixO x0.zA x1).bind fun v15 =>
  cond (decide (v14 ≥ v15)) (
   (ixO x0.zA x1).bind fun v16 =>
   (rng (v14 - v16)).bind fun v17 =>
   (rng (x1 + 1)).bind fun v18 =>
   (ixO x0.zV x1).bind fun v19 =>
   (g_a x0 v18 v19 r11).bind fun r20 =>
   (f_q r20).bind fun r21 =>
   (ixO r21 x1).bind fun _ =>
   some (r21.set x1.toNat v17)) (
   (f_q r11).bind fun r23 =>
   (ixO r23 x1).bind fun _ =>
   some (r23.set x1.toNat v14)))
mutual
def zL1:Nat → SPr → Int → (List Int) → Option (List Int)
 | 0 => fun _ _ _ => none
 | n + 1 => b_e (zL2 n)
def zL2:Nat → SPr → Int → (List Int) → (List Int) → Option (List Int)
 | 0 => fun _ _ _ _ => none
 | n + 1 => b_a (zL1 n) (zL2 n)
end
def f_e (x0:SPr) (x1:Int) (x2:List Int):Option (List Int):=zCq fun n => zL1 n x0 x1 x2
def f_a (x0:SPr) (x1:Int) (x2:List Int) (x3:List Int):Option (List Int):=zCq fun n => zL2 n x0 x1 x2 x3
def zMP (x0:SPr) (x1:Int) (s1:Int × (List Int) × (List Int)):Option ((Int × (List Int) × (List Int)) ⊕ (List Int)) :=
 cond (decide (s1.1 > 0)) (
  (uH s1.1 2).bind fun v2 =>
  cond (v2 == 1) (
   (f_a x0 x1 s1.2.1 s1.2.2).bind fun r3 =>
   (f_a x0 x1 s1.2.2 s1.2.2).bind fun r4 =>
   (tM s1.1 2).bind fun v5 =>
   some (.inl (v5,r3,r4))) (
   (f_a x0 x1 s1.2.2 s1.2.2).bind fun r6 =>
   (tM s1.1 2).bind fun v7 =>
   some (.inl (v7,s1.2.1,r6)))) (
  some (.inr s1.2.1))
def zSr (x0:SPr) (x1:Int) (x2:List Int) (x3:Int):Option (List Int) :=
 (yW (x0.zA.length:Int)).bind fun m1 =>
 (zG (zMP x0 x1) (x3,List.replicate m1 (0:Int),x2)).bind fun r8 =>
 some r8
def zWE (x0:List Int) (x1:List Int) (s1:Int):Option (Int ⊕ (Unit ⊕ Bool)) :=
 cond (decide (s1 < (x0.length:Int))) (
  (ixO x0 s1).bind fun v1 =>
  (ixO x1 s1).bind fun v2 =>
  cond (v1 != v2) (
   some (.inr (.inr false))) (
   (rng (s1 + 1)).bind fun v3 =>
   some (.inl v3))) (
  some (.inr (.inl ())))
def f_V (x0:List Int) (x1:List Int):Option Bool :=
 cond ((x0.length:Int) != (x1.length:Int)) (
  some false) (
  (zG (zWE x0 x1) 0).bind fun r4 =>
  match r4 with
  | (.inl r4) =>
   some true
  | (.inr r4) =>
   some r4)
def zUH (x0:Int) (x1:Int):Option (List Int) :=
 (yW x0).bind fun m1 =>
 (ixO (List.replicate m1 (0:Int)) x1).bind fun _ =>
 some ((List.replicate m1 (0:Int)).set x1.toNat 1)
def zQk (x0:SPr) (x1:Int) (s1:Int):Option (Int ⊕ (Unit ⊕ yQ)) :=
 cond (decide (s1 < (x0.zA.length:Int))) (
  (rng (x1 + 1)).bind fun v2 =>
  (ixO x0.zB x1).bind fun v3 =>
  (rng (s1 - x1)).bind fun v4 =>
  (rng (v4 - 1)).bind fun v5 =>
  (ixO v3 v5).bind fun v6 =>
  (ixO x0.zA s1).bind fun v7 =>
  (zSr x0 v2 v6 v7).bind fun r8 =>
  (ixO x0.zV s1).bind fun v9 =>
  (f_e x0 x1 v9).bind fun r10 =>
  (f_V r8 r10).bind fun r11 =>
  cond (!r11) (
   some (.inr (.inr (yQ.mk 1 x1 s1 0)))) (
   (rng (s1 + 1)).bind fun v12 =>
   some (.inl v12))) (
  some (.inr (.inl ())))
def zQl (x0:SPr) (x1:Int) (s7:Int) (s8:Int):Option (Int ⊕ (Unit ⊕ yQ)) :=
 cond (decide (s8 < (x0.zA.length:Int))) (
  (ixO x0.zB x1).bind fun v16 =>
  (rng (s7 - x1)).bind fun v17 =>
  (rng (v17 - 1)).bind fun v18 =>
  (ixO v16 v18).bind fun v19 =>
  (ixO x0.zB x1).bind fun v20 =>
  (rng (s8 - x1)).bind fun v21 =>
  (rng (v21 - 1)).bind fun v22 =>
  (ixO v20 v22).bind fun v23 =>
  (ixO x0.zB s7).bind fun v24 =>
  (rng (s8 - s7)).bind fun v25 =>
  (rng (v25 - 1)).bind fun v26 =>
  (ixO v24 v26).bind fun v27 =>
  (f_e x0 x1 v27).bind fun r28 =>
  (rng (x1 + 1)).bind fun v29 =>
  (f_a x0 v29 v23 v19).bind fun r30 =>
  (rng (x1 + 1)).bind fun v31 =>
  (f_a x0 v31 v19 r28).bind fun r32 =>
  (f_V r30 r32).bind fun r33 =>
  cond (!r33) (
   some (.inr (.inr (yQ.mk 2 x1 s7 s8)))) (
   (rng (s8 + 1)).bind fun v34 =>
   some (.inl v34))) (
  some (.inr (.inl ())))
def zQm (x0:SPr) (x1:Int) (s7:Int):Option (Int ⊕ (Unit ⊕ yQ)) :=
 cond (decide (s7 < (x0.zA.length:Int))) (
  (rng (s7 + 1)).bind fun v15 =>
  (zG (zQl x0 x1 s7) v15).bind fun r35 =>
  match r35 with
  | (.inl r35) =>
   (rng (s7 + 1)).bind fun v36 =>
   some (.inl v36)
  | (.inr r35) =>
   some (.inr (.inr r35))) (
  some (.inr (.inl ())))
def zQn (x0:SPr) (x1:Int) (s16:(List Int) × Int):Option (((List Int) × Int) ⊕ (List Int)) :=
 (ixO x0.zA x1).bind fun v43 =>
 cond (decide (s16.2 < v43)) (
  (f_e x0 x1 s16.1).bind fun r44 =>
  (rng (s16.2 + 1)).bind fun v45 =>
  some (.inl (r44,v45))) (
  some (.inr s16.1))
def zQo (x0:SPr) (x1:Int) (v38:List Int) (s15:Int):Option (Int ⊕ (Unit ⊕ yQ)) :=
 cond (decide (s15 < (x0.zA.length:Int))) (
  (zUH (x0.zA.length:Int) s15).bind fun r42 =>
  (zG (zQn x0 x1) (r42,0)).bind fun r46 =>
  (rng (x1 + 1)).bind fun v47 =>
  (f_a x0 v47 v38 r46).bind fun r48 =>
  (rng (x1 + 1)).bind fun v49 =>
  (f_a x0 v49 r42 v38).bind fun r50 =>
  (f_V r48 r50).bind fun r51 =>
  cond (!r51) (
   some (.inr (.inr (yQ.mk 4 x1 s15 0)))) (
   (rng (s15 + 1)).bind fun v52 =>
   some (.inl v52))) (
  some (.inr (.inl ())))
def f_l (x0:SPr) (x1:Int):Option yQ :=
 (rng (x1 + 1)).bind fun v1 =>
 (zG (zQk x0 x1) v1).bind fun r13 =>
 match r13 with
 | (.inl r13) =>
  (rng (x1 + 1)).bind fun v14 =>
  (zG (zQm x0 x1) v14).bind fun r37 =>
  match r37 with
  | (.inl r37) =>
   (ixO x0.zV x1).bind fun v38 =>
   (f_e x0 x1 v38).bind fun r39 =>
   (f_V r39 v38).bind fun r40 =>
   cond (!r40) (
    some (yQ.mk 3 x1 0 0)) (
    (rng (x1 + 1)).bind fun v41 =>
    (zG (zQo x0 x1 v38) v41).bind fun r53 =>
    match r53 with
    | (.inl r53) =>
     some (yQ.mk 0 0 0 0)
    | (.inr r53) =>
     some r53)
  | (.inr r37) =>
   some r37
 | (.inr r13) =>
  some r13
def zJY (x0:SPr) (s1:Int):Option (Int ⊕ (Unit ⊕ yQ)) :=
 cond (decide (s1 ≥ 0)) (
  (f_l x0 s1).bind fun r2 =>
  cond (r2.Kind != 0) (
   some (.inr (.inr r2))) (
   (rng (s1 - 1)).bind fun v3 =>
   some (.inl v3))) (
  some (.inr (.inl ())))
def zUI (x0:SPr):Option yQ :=
 (rng ((x0.zA.length:Int) - 1)).bind fun v1 =>
 (zG (zJY x0) v1).bind fun r4 =>
 match r4 with
 | (.inl r4) =>
  some (yQ.mk 0 0 0 0)
 | (.inr r4) =>
  some r4
def zUJ (x0:SPr):Option Bool :=
 (zUI x0).bind fun r1 =>
 some (r1.Kind == 0)
def zSs (x0:SPr):Option Bool :=
 (f_t x0).bind fun r1 =>
 cond r1 (
  (zUJ x0).bind fun r2 =>
  some r2) (
  some false)
def zMQ (x0:Int) (x2:List Int) (s1:Int):Option (Int ⊕ (Unit ⊕ Bool)) :=
 cond (decide (s1 < (x2.length:Int))) (
  (ixO x2 s1).bind fun v1 =>
  (rng (x0 - 1)).bind fun v2 =>
  (zQe v1 0 v2).bind fun r3 =>
  cond (!r3) (
   some (.inr (.inr false))) (
   (rng (s1 + 1)).bind fun v4 =>
   some (.inl v4))) (
  some (.inr (.inl ())))
def zQp (x0:Int) (x1:Int) (x2:List Int):Option Bool :=
 cond ((x2.length:Int) != x1) (
  some false) (
  (zG (zMQ x0 x2) 0).bind fun r5 =>
  match r5 with
  | (.inl r5) =>
   some true
  | (.inr r5) =>
   some r5)
def zMR (x0:Int) (x1:Int) (x2:List (List Int)) (s1:Int):Option (Int ⊕ (Unit ⊕ Bool)) :=
 cond (decide (s1 < (x2.length:Int))) (
  (ixO x2 s1).bind fun v1 =>
  (zQp x0 x1 v1).bind fun r2 =>
  cond (!r2) (
   some (.inr (.inr false))) (
   (rng (s1 + 1)).bind fun v3 =>
   some (.inl v3))) (
  some (.inr (.inl ())))
def zSt (x0:Int) (x1:Int) (x2:List (List Int)):Option Bool :=
 cond ((x2.length:Int) != x1) (
  some false) (
  (zG (zMR x0 x1 x2) 0).bind fun r4 =>
  match r4 with
  | (.inl r4) =>
   some true
  | (.inr r4) =>
   some r4)
def zJZ (x0:Int) (s1:(List (List Int)) × Int):Option (((List (List Int)) × Int) ⊕ (List (List Int))) :=
 cond (decide (s1.2 < x0)) (
  (yW x0).bind fun m1 =>
  (ixO (List.replicate m1 (0:Int)) s1.2).bind fun _ =>
  (xQ s1.1 [(List.replicate m1 (0:Int)).set s1.2.toNat 1]).bind fun v3 =>
  (rng (s1.2 + 1)).bind fun v4 =>
  some (.inl (v3,v4))) (
  some (.inr s1.1))
def f_F (x0:Int):Option (List (List Int)) :=
 (zG (zJZ x0) ([],0)).bind fun r5 =>
 some r5
def zQq (x0:Int) (x1:List Int) (x2:List (List Int)) (s5:(List Int) × Int) (s6:(List Int) × Int):Option (((List Int) × Int) ⊕ (List Int)) :=
 cond (decide (s6.2 < (s6.1.length:Int))) (
  (ixO x2 s5.2).bind fun v2 =>
  cond (decide (s6.2 < (v2.length:Int))) (
   (ixO s6.1 s6.2).bind fun v3 =>
   (ixO x1 s5.2).bind fun v4 =>
   (ixO x2 s5.2).bind fun v5 =>
   (ixO v5 s6.2).bind fun v6 =>
   (rng (v4 * v6)).bind fun v7 =>
   (rng (v3 + v7)).bind fun v8 =>
   (uH v8 x0).bind fun v9 =>
   (ixO s6.1 s6.2).bind fun _ =>
   (rng (s6.2 + 1)).bind fun v11 =>
   some (.inl (s6.1.set s6.2.toNat v9,v11))) (
   some (.inr s6.1))) (
  some (.inr s6.1))
def zQr (x0:Int) (x1:List Int) (x2:List (List Int)) (s5:(List Int) × Int):Option (((List Int) × Int) ⊕ (List Int)) :=
 cond (decide (s5.2 < (x1.length:Int))) (
  cond (decide (s5.2 < (x2.length:Int))) (
   (zG (zQq x0 x1 x2 s5) (s5.1,0)).bind fun r12 =>
   (rng (s5.2 + 1)).bind fun v13 =>
   some (.inl (r12,v13))) (
   some (.inr s5.1))) (
  some (.inr s5.1))
def f_D (x0:Int) (x1:List Int) (x2:List (List Int)) (x3:Int):Option (List Int) :=
 (yW x3).bind fun m1 =>
 (zG (zQr x0 x1 x2) (List.replicate m1 (0:Int),0)).bind fun r14 =>
 some r14
def zQs (x0:Int) (x1:List (List Int)) (x2:List (List Int)) (x3:Int) (s1:(List (List Int)) × Int):Option (((List (List Int)) × Int) ⊕ (List (List Int))) :=
 cond (decide (s1.2 < (x1.length:Int))) (
  (ixO x1 s1.2).bind fun v1 =>
  (f_D x0 v1 x2 x3).bind fun r2 =>
  (xQ s1.1 [r2]).bind fun v3 =>
  (rng (s1.2 + 1)).bind fun v4 =>
  some (.inl (v3,v4))) (
  some (.inr s1.1))
def f_Q (x0:Int) (x1:List (List Int)) (x2:List (List Int)) (x3:Int):Option (List (List Int)) :=
 (zG (zQs x0 x1 x2 x3) ([],0)).bind fun r5 =>
 some r5
def zQt (x0:zD) (x1:List Int) (s5:(List (List Int)) × Int) (s6:(List (List Int)) × Int):Option (((List (List Int)) × Int) ⊕ (List (List Int))) :=
 (ixO x1 s5.2).bind fun v2 =>
 cond (decide (s6.2 < v2)) (
  (ixO x0.zI s5.2).bind fun v3 =>
  (f_Q x0.Prime s6.1 v3 x0.Dim).bind fun r4 =>
  (rng (s6.2 + 1)).bind fun v5 =>
  some (.inl (r4,v5))) (
  some (.inr s6.1))
def zQu (x0:zD) (x1:List Int) (s5:(List (List Int)) × Int):Option (((List (List Int)) × Int) ⊕ (List (List Int))) :=
 cond (decide (s5.2 < (x1.length:Int))) (
  (zG (zQt x0 x1 s5) (s5.1,0)).bind fun r6 =>
  (rng (s5.2 + 1)).bind fun v7 =>
  some (.inl (r6,v7))) (
  some (.inr s5.1))
def f_G (x0:zD) (x1:List Int):Option (List (List Int)) :=
 (f_F x0.Dim).bind fun r1 =>
 (zG (zQu x0 x1) (r1,0)).bind fun r8 =>
 some r8
def zQv (x0:List (List Int)) (x1:List (List Int)) (s1:Int):Option (Int ⊕ (Unit ⊕ Bool)) :=
 cond (decide (s1 < (x0.length:Int))) (
  (ixO x0 s1).bind fun v1 =>
  (ixO x1 s1).bind fun v2 =>
  (f_V v1 v2).bind fun r3 =>
  cond (!r3) (
   some (.inr (.inr false))) (
   (rng (s1 + 1)).bind fun v4 =>
   some (.inl v4))) (
  some (.inr (.inl ())))
def zSu (x0:List (List Int)) (x1:List (List Int)):Option Bool :=
 cond ((x0.length:Int) != (x1.length:Int)) (
  some false) (
  (zG (zQv x0 x1) 0).bind fun r5 =>
  match r5 with
  | (.inl r5) =>
   some true
  | (.inr r5) =>
   some r5)
def zQw (x0:SPr) (x1:zD) (s1:Int):Option (Int ⊕ (Unit ⊕ Bool)) :=
 cond (decide (s1 < (x0.zA.length:Int))) (
  (ixO x1.zI s1).bind fun v3 =>
  (zSt x1.Prime x1.Dim v3).bind fun r4 =>
  cond (!r4) (
   some (.inr (.inr false))) (
   (rng (s1 + 1)).bind fun v5 =>
   some (.inl v5))) (
  some (.inr (.inl ())))
def zQx (x0:SPr) (x1:zD) (s11:Int) (s12:(List (List Int)) × Int):Option (((List (List Int)) × Int) ⊕ (List (List Int))) :=
 (ixO x0.zA s11).bind fun v8 =>
 cond (decide (s12.2 < v8)) (
  (ixO x1.zI s11).bind fun v9 =>
  (f_Q x1.Prime s12.1 v9 x1.Dim).bind fun r10 =>
  (rng (s12.2 + 1)).bind fun v11 =>
  some (.inl (r10,v11))) (
  some (.inr s12.1))
def zQy (x0:SPr) (x1:zD) (s11:Int) (s14:Int):Option (Int ⊕ (Unit ⊕ Bool)) :=
 cond (decide (s14 < (x0.zA.length:Int))) (
  (ixO x1.zI s14).bind fun v17 =>
  (ixO x1.zI s11).bind fun v18 =>
  (f_Q x1.Prime v17 v18 x1.Dim).bind fun r19 =>
  (ixO x1.zI s11).bind fun v20 =>
  (ixO x0.zB s11).bind fun v21 =>
  (rng (s14 - s11)).bind fun v22 =>
  (rng (v22 - 1)).bind fun v23 =>
  (ixO v21 v23).bind fun v24 =>
  (f_G x1 v24).bind fun r25 =>
  (f_Q x1.Prime v20 r25 x1.Dim).bind fun r26 =>
  (zSu r19 r26).bind fun r27 =>
  cond (!r27) (
   some (.inr (.inr false))) (
   (rng (s14 + 1)).bind fun v28 =>
   some (.inl v28))) (
  some (.inr (.inl ())))
def zQz (x0:SPr) (x1:zD) (s11:Int):Option (Int ⊕ (Unit ⊕ Bool)) :=
 cond (decide (s11 < (x0.zA.length:Int))) (
  (f_F x1.Dim).bind fun r7 =>
  (zG (zQx x0 x1 s11) (r7,0)).bind fun r12 =>
  (ixO x0.zV s11).bind fun v13 =>
  (f_G x1 v13).bind fun r14 =>
  (zSu r12 r14).bind fun r15 =>
  cond (!r15) (
   some (.inr (.inr false))) (
   (rng (s11 + 1)).bind fun v16 =>
   (zG (zQy x0 x1 s11) v16).bind fun r29 =>
   match r29 with
   | (.inl r29) =>
    (rng (s11 + 1)).bind fun v30 =>
    some (.inl v30)
   | (.inr r29) =>
    some (.inr (.inr r29)))) (
  some (.inr (.inl ())))
def f_o (x0:SPr) (x1:zD):Option Bool :=
 (zSo x1.Prime).bind fun r1 =>
 cond (!r1) (
  some false) (
  (zQe x1.Dim 1 3).bind fun r2 =>
  cond (!r2) (
   some false) (
   cond ((x1.zI.length:Int) != (x0.zA.length:Int)) (
    some false) (
    (zG (zQw x0 x1) 0).bind fun r6 =>
    match r6 with
    | (.inl r6) =>
     (zG (zQz x0 x1) 0).bind fun r31 =>
     match r31 with
     | (.inl r31) =>
      some true
     | (.inr r31) =>
      some r31
    | (.inr r6) =>
     some r6)))
def zSv (x0:SPr) (x1:zD):Option Bool :=
 (zSs x0).bind fun r1 =>
 cond r1 (
  (f_o x0 x1).bind fun r2 =>
  some r2) (
  some false)
def zNG (x0:Int):Option Bool :=
 cond (x0 == 2) (
  some true) (
  cond (x0 == 3) (
   some true) (
   cond (x0 == 5) (
    some true) (
    some (x0 == 7))))
def zL3 (x0:Int) (x1:Int) (x2:Int):Option Bool :=
 cond (decide (x0 ≥ x1)) (
  some (decide (x0 ≤ x2))) (
  some false)
def zMS (x0:SPr) (x1:List Int) (s1:Int):Option (Int ⊕ (Unit ⊕ Bool)) :=
 cond (decide (s1 < (x1.length:Int))) (
  (ixO x1 s1).bind fun v1 =>
  (ixO x0.zA s1).bind fun v2 =>
  (rng (v2 - 1)).bind fun v3 =>
  (zL3 v1 0 v3).bind fun r4 =>
  cond (!r4) (
   some (.inr (.inr false))) (
   (rng (s1 + 1)).bind fun v5 =>
   some (.inl v5))) (
  some (.inr (.inl ())))
def zSw (x0:SPr) (x1:List Int):Option Bool :=
 cond ((x1.length:Int) != (x0.zA.length:Int)) (
  some false) (
  (zG (zMS x0 x1) 0).bind fun r6 =>
  match r6 with
  | (.inl r6) =>
   some true
  | (.inr r6) =>
   some r6)
def zKa (x0:List Int) (s1:Int):Option (Int ⊕ (Unit ⊕ Bool)) :=
 cond (decide (s1 < (x0.length:Int))) (
  (ixO x0 s1).bind fun v1 =>
  cond (v1 != 0) (
   some (.inr (.inr false))) (
   (rng (s1 + 1)).bind fun v2 =>
   some (.inl v2))) (
  some (.inr (.inl ())))
def f_C (x0:List Int):Option Bool :=
 (zG (zKa x0) 0).bind fun r3 =>
 match r3 with
 | (.inl r3) =>
  some true
 | (.inr r3) =>
  some r3
def zQ0 (x0:SPr) (x1:Int) (x2:List Int):Option Bool :=
 (zSw x0 x2).bind fun r1 =>
 cond r1 (
  (rng (x1 + 1)).bind fun v2 =>
  (zT x2 0 v2).bind fun v3 =>
  (f_C v3).bind fun r4 =>
  some r4) (
  some false)
def zL4 (x0:SPr) (s1:Int × Int):Option ((Int × Int) ⊕ (Unit ⊕ Bool)) :=
 cond (decide (s1.2 < (x0.zA.length:Int))) (
  (ixO x0.zA s1.2).bind fun v1 =>
  (zNG v1).bind fun r2 =>
  cond (!r2) (
   some (.inr (.inr false))) (
   (rng (s1.1 * v1)).bind fun v3 =>
   cond (decide (v3 > 729)) (
    some (.inr (.inr false))) (
    (rng (s1.1 * v1)).bind fun v4 =>
    (rng (s1.2 + 1)).bind fun v5 =>
    some (.inl (v4,v5))))) (
  some (.inr (.inl ())))
def zQ1 (x0:SPr) (s7:Int) (v12:List (List Int)) (s8:Int):Option (Int ⊕ (Unit ⊕ Bool)) :=
 cond (decide (s8 < (v12.length:Int))) (
  (ixO v12 s8).bind fun v13 =>
  (zQ0 x0 s7 v13).bind fun r14 =>
  cond (!r14) (
   some (.inr (.inr false))) (
   (rng (s8 + 1)).bind fun v15 =>
   some (.inl v15))) (
  some (.inr (.inl ())))
def zL5 (x0:SPr) (s7:Int):Option (Int ⊕ (Unit ⊕ Bool)) :=
 cond (decide (s7 < (x0.zA.length:Int))) (
  (ixO x0.zV s7).bind fun v7 =>
  (zQ0 x0 s7 v7).bind fun r8 =>
  cond (!r8) (
   some (.inr (.inr false))) (
   (ixO x0.zB s7).bind fun v9 =>
   (rng ((x0.zA.length:Int) - 1)).bind fun v10 =>
   (rng (v10 - s7)).bind fun v11 =>
   cond ((v9.length:Int) != v11) (
    some (.inr (.inr false))) (
    (ixO x0.zB s7).bind fun v12 =>
    (zG (zQ1 x0 s7 v12) 0).bind fun r16 =>
    match r16 with
    | (.inl r16) =>
     (rng (s7 + 1)).bind fun v17 =>
     some (.inl v17)
    | (.inr r16) =>
     some (.inr (.inr r16))))) (
  some (.inr (.inl ())))
def f_p (x0:SPr):Option Bool :=
 cond (decide ((x0.zA.length:Int) > 6)) (
  some false) (
  cond ((x0.zV.length:Int) != (x0.zA.length:Int)) (
   some false) (
   cond ((x0.zB.length:Int) != (x0.zA.length:Int)) (
    some false) (
    (zG (zL4 x0) (1,0)).bind fun r6 =>
    match r6 with
    | (.inl r6) =>
     (zG (zL5 x0) 0).bind fun r18 =>
     match r18 with
     | (.inl r18) =>
      some true
     | (.inr r18) =>
      some r18
    | (.inr r6) =>
     some r6)))
def f_v (x0:List Int):Option (List Int) :=
 (xQ [] x0).bind fun v2 =>
 some v2
def zQ2 (x2:Int) (r3:(List Int)) (s1:(List Int) × Int):Option (((List Int) × Int) ⊕ (List Int)) :=
 cond (decide (s1.2 < (r3.length:Int))) (
  (rng (x2 + 1)).bind fun v4 =>
  (rng (v4 + s1.2)).bind fun v5 =>
  (ixO s1.1 v5).bind fun _ =>
  (rng (s1.2 + 1)).bind fun v7 =>
  some (.inl (s1.1.set v5.toNat 0,v7))) (
  some (.inr s1.1))
def zUK (g_c:SPr → (List Int) → (List Int) → Option (List Int)) (x0:SPr) (x2:Int) (s7:(List Int) × Int) (v17:Int) (s8:(List Int) × Int):Option (((List Int) × Int) ⊕ (List Int)) :=
 cond (decide (s8.2 < v17)) (
  (ixO x0.zB x2).bind fun v18 =>
  (ixO v18 s7.2).bind fun v19 =>
  (g_c x0 s8.1 v19).bind fun r20 =>
  (rng (s8.2 + 1)).bind fun v21 =>
  some (.inl (r20,v21))) (
  some (.inr s8.1))
def zUL (g_c:SPr → (List Int) → (List Int) → Option (List Int)) (x0:SPr) (x2:Int) (r3:(List Int)) (s7:(List Int) × Int):Option (((List Int) × Int) ⊕ (List Int)) :=
 cond (decide (s7.2 < (r3.length:Int))) (
  (ixO r3 s7.2).bind fun v17 =>
  (zG (zUK g_c x0 x2 s7 v17) (s7.1,0)).bind fun r22 =>
  (rng (s7.2 + 1)).bind fun v23 =>
  some (.inl (r22,v23))) (
  some (.inr s7.1))
def zUM (g_c:SPr → (List Int) → (List Int) → Option (List Int)) (x0:SPr) (x2:Int) (s15:(List Int) × Int) (v25:Int) (s16:(List Int) × Int):Option (((List Int) × Int) ⊕ (List Int)) :=
 cond (decide (s16.2 < v25)) (
  (ixO x0.zB x2).bind fun v26 =>
  (ixO v26 s15.2).bind fun v27 =>
  (g_c x0 s16.1 v27).bind fun r28 =>
  (rng (s16.2 + 1)).bind fun v29 =>
  some (.inl (r28,v29))) (
  some (.inr s16.1))
def zUN (g_c:SPr → (List Int) → (List Int) → Option (List Int)) (x0:SPr) (x2:Int) (r3:(List Int)) (s15:(List Int) × Int):Option (((List Int) × Int) ⊕ (List Int)) :=
 cond (decide (s15.2 < (r3.length:Int))) (
  (ixO r3 s15.2).bind fun v25 =>
  (zG (zUM g_c x0 x2 s15 v25) (s15.1,0)).bind fun r30 =>
  (rng (s15.2 + 1)).bind fun v31 =>
  some (.inl (r30,v31))) (
  some (.inr s15.1))
def b_b (g_c:SPr → (List Int) → (List Int) → Option (List Int)) (x0:SPr) (x1:List Int) (x2:Int):Option (List Int) :=
 (rng (x2 + 1)).bind fun v1 =>
 (zT x1 v1 x1.length).bind fun v2 =>
 (f_v v2).bind fun r3 =>
 (zG (zQ2 x2 r3) (x1,0)).bind fun r8 =>
 (ixO r8 x2).bind fun v9 =>
 (rng (v9 + 1)).bind fun v10 =>
 (ixO r8 x2).bind fun _ =>
 (ixO (r8.set x2.toNat v10) x2).bind fun v12 =>
 (ixO x0.zA x2).bind fun v13 =>
 cond (v12 == v13) (
  (ixO (r8.set x2.toNat v10) x2).bind fun _ =>
  (ixO x0.zV x2).bind fun v15 =>
  (g_c x0 ((r8.set x2.toNat v10).set x2.toNat 0) v15).bind fun r16 =>
  (zG (zUL g_c x0 x2 r3) (r16,0)).bind fun r24 =>
  some r24) (
  (zG (zUN g_c x0 x2 r3) (r8.set x2.toNat v10,0)).bind fun r32 =>
  some r32)
def zQ3 (g_b:SPr → (List Int) → Int → Option (List Int)) (x0:SPr) (s5:(List Int) × Int) (v1:Int) (s6:(List Int) × Int):Option (((List Int) × Int) ⊕ (List Int)) :=
 cond (decide (s6.2 < v1)) (
  (g_b x0 s6.1 s5.2).bind fun r2 =>
  (rng (s6.2 + 1)).bind fun v3 =>
  some (.inl (r2,v3))) (
  some (.inr s6.1))
def zQ4 (g_b:SPr → (List Int) → Int → Option (List Int)) (x0:SPr) (x2:List Int) (s5:(List Int) × Int):Option (((List Int) × Int) ⊕ (List Int)) :=
 cond (decide (s5.2 < (x2.length:Int))) (
  (ixO x2 s5.2).bind fun v1 =>
  (zG (zQ3 g_b x0 s5 v1) (s5.1,0)).bind fun r4 =>
  (rng (s5.2 + 1)).bind fun v5 =>
  some (.inl (r4,v5))) (
  some (.inr s5.1))
def b_c (g_b:SPr → (List Int) → Int → Option (List Int)) (x0:SPr) (x1:List Int) (x2:List Int):Option (List Int) :=
 (zG (zQ4 g_b x0 x2) (x1,0)).bind fun r6 =>
 some r6
mutual
def zQ5:Nat → SPr → (List Int) → Int → Option (List Int)
 | 0 => fun _ _ _ => none
 | n + 1 => b_b (zNH n)
def zNH:Nat → SPr → (List Int) → (List Int) → Option (List Int)
 | 0 => fun _ _ _ => none
 | n + 1 => b_c (zQ5 n)
end
def f_b (x0:SPr) (x1:List Int) (x2:Int):Option (List Int):=zCq fun n => zQ5 n x0 x1 x2
def f_c (x0:SPr) (x1:List Int) (x2:List Int):Option (List Int):=zCq fun n => zNH n x0 x1 x2
def zKb (x0:SPr) (x1:List Int) (x2:Int) (s1:(List Int) × Int):Option (((List Int) × Int) ⊕ (List Int)) :=
 cond (decide (s1.2 < x2)) (
  (f_c x0 s1.1 x1).bind fun r2 =>
  (rng (s1.2 + 1)).bind fun v3 =>
  some (.inl (r2,v3))) (
  some (.inr s1.1))
def zSx (x0:SPr) (x1:List Int) (x2:Int):Option (List Int) :=
 (yW (x1.length:Int)).bind fun m1 =>
 (zG (zKb x0 x1 x2) (List.replicate m1 (0:Int),0)).bind fun r4 =>
 some r4
def zQ6 (x0:SPr) (v3:List Int) (v6:Int) (s6:(List Int) × Int):Option (((List Int) × Int) ⊕ (List Int)) :=
 cond (decide (s6.2 < v6)) (
  (f_c x0 s6.1 v3).bind fun r7 =>
  (rng (s6.2 + 1)).bind fun v8 =>
  some (.inl (r7,v8))) (
  some (.inr s6.1))
def zQ7 (x0:SPr) (x1:Int) (x2:List Int) (v2:List (List Int)) (s5:(List Int) × Int):Option (((List Int) × Int) ⊕ (List Int)) :=
 cond (decide (s5.2 < (v2.length:Int))) (
  (ixO v2 s5.2).bind fun v3 =>
  (rng (x1 + 1)).bind fun v4 =>
  (rng (v4 + s5.2)).bind fun v5 =>
  (ixO x2 v5).bind fun v6 =>
  (zG (zQ6 x0 v3 v6) (s5.1,0)).bind fun r9 =>
  (rng (s5.2 + 1)).bind fun v10 =>
  some (.inl (r9,v10))) (
  some (.inr s5.1))
def f_A (x0:SPr) (x1:Int) (x2:List Int):Option (List Int) :=
 (yW (x2.length:Int)).bind fun m1 =>
 (ixO x0.zB x1).bind fun v2 =>
 (zG (zQ7 x0 x1 x2 v2) (List.replicate m1 (0:Int),0)).bind fun r11 =>
 some r11
def zUO (x0:List Int) (x1:List Int) (s1:Int):Option (Int ⊕ (Unit ⊕ Bool)) :=
 cond (decide (s1 < (x0.length:Int))) (
  (ixO x0 s1).bind fun v1 =>
  (ixO x1 s1).bind fun v2 =>
  cond (v1 != v2) (
   some (.inr (.inr false))) (
   (rng (s1 + 1)).bind fun v3 =>
   some (.inl v3))) (
  some (.inr (.inl ())))
def f_P (x0:List Int) (x1:List Int):Option Bool :=
 cond ((x0.length:Int) != (x1.length:Int)) (
  some false) (
  (zG (zUO x0 x1) 0).bind fun r4 =>
  match r4 with
  | (.inl r4) =>
   some true
  | (.inr r4) =>
   some r4)
def zNI (x0:SPr) (s5:(List Int) × (List Int) × Int) (s6:(List Int) × (List Int)):Option (((List Int) × (List Int)) ⊕ ((List Int) × (List Int))) :=
 (ixO s6.1 s5.2.2).bind fun v3 =>
 cond (v3 != 0) (
  (f_b x0 s6.1 s5.2.2).bind fun r4 =>
  (f_b x0 s6.2 s5.2.2).bind fun r5 =>
  some (.inl (r4,r5))) (
  some (.inr (s6.1,s6.2)))
def zQ8 (x0:SPr) (r1:(List Int)) (s5:(List Int) × (List Int) × Int):Option (((List Int) × (List Int) × Int) ⊕ (List Int)) :=
 cond (decide (s5.2.2 < (r1.length:Int))) (
  (zG (zNI x0 s5) (s5.1,s5.2.1)).bind fun r6 =>
  (rng (s5.2.2 + 1)).bind fun v7 =>
  some (.inl (r6.1,r6.2,v7))) (
  some (.inr s5.2.1))
def f_E (x0:SPr) (x1:List Int):Option (List Int) :=
 (f_v x1).bind fun r1 =>
 (yW (x1.length:Int)).bind fun m2 =>
 (zG (zQ8 x0 r1) (r1,List.replicate m2 (0:Int),0)).bind fun r8 =>
 some r8
def zQ9 (x0:SPr) (x1:List Int) (x2:List Int):Option (List Int) :=
 (f_v x1).bind fun r1 =>
 (f_c x0 r1 x2).bind fun r2 =>
 some r2
def zQA (x0:SPr) (x1:List Int) (x2:List Int):Option (List Int) :=
 (f_E x0 x2).bind fun r1 =>
 (zQ9 x0 x1 x2).bind fun r2 =>
 (zQ9 x0 r1 r2).bind fun r3 =>
 some r3
def zIu (x0:Int) (x1:Int):Option (List Int) :=
 (yW x0).bind fun m1 =>
 (ixO (List.replicate m1 (0:Int)) x1).bind fun _ =>
 some ((List.replicate m1 (0:Int)).set x1.toNat 1)
def zQB (x0:SPr) (x1:Int) (s1:Int):Option (Int ⊕ (Unit ⊕ yQ)) :=
 cond (decide (s1 < (x0.zA.length:Int))) (
  (ixO x0.zB x1).bind fun v2 =>
  (rng (s1 - x1)).bind fun v3 =>
  (rng (v3 - 1)).bind fun v4 =>
  (ixO v2 v4).bind fun v5 =>
  (ixO x0.zA s1).bind fun v6 =>
  (zSx x0 v5 v6).bind fun r7 =>
  (ixO x0.zV s1).bind fun v8 =>
  (f_A x0 x1 v8).bind fun r9 =>
  (f_P r7 r9).bind fun r10 =>
  cond (!r10) (
   some (.inr (.inr (yQ.mk 1 x1 s1 0)))) (
   (rng (s1 + 1)).bind fun v11 =>
   some (.inl v11))) (
  some (.inr (.inl ())))
def zQC (x0:SPr) (x1:Int) (s7:Int) (s8:Int):Option (Int ⊕ (Unit ⊕ yQ)) :=
 cond (decide (s8 < (x0.zA.length:Int))) (
  (ixO x0.zB x1).bind fun v15 =>
  (rng (s8 - x1)).bind fun v16 =>
  (rng (v16 - 1)).bind fun v17 =>
  (ixO v15 v17).bind fun v18 =>
  (ixO x0.zB x1).bind fun v19 =>
  (rng (s7 - x1)).bind fun v20 =>
  (rng (v20 - 1)).bind fun v21 =>
  (ixO v19 v21).bind fun v22 =>
  (zQA x0 v18 v22).bind fun r23 =>
  (ixO x0.zB s7).bind fun v24 =>
  (rng (s8 - s7)).bind fun v25 =>
  (rng (v25 - 1)).bind fun v26 =>
  (ixO v24 v26).bind fun v27 =>
  (f_A x0 x1 v27).bind fun r28 =>
  (f_P r23 r28).bind fun r29 =>
  cond (!r29) (
   some (.inr (.inr (yQ.mk 2 x1 s7 s8)))) (
   (rng (s8 + 1)).bind fun v30 =>
   some (.inl v30))) (
  some (.inr (.inl ())))
def zQD (x0:SPr) (x1:Int) (s7:Int):Option (Int ⊕ (Unit ⊕ yQ)) :=
 cond (decide (s7 < (x0.zA.length:Int))) (
  (rng (s7 + 1)).bind fun v14 =>
  (zG (zQC x0 x1 s7) v14).bind fun r31 =>
  match r31 with
  | (.inl r31) =>
   (rng (s7 + 1)).bind fun v32 =>
   some (.inl v32)
  | (.inr r31) =>
   some (.inr (.inr r31))) (
  some (.inr (.inl ())))
def zQE (x0:SPr) (x1:Int) (v39:Int) (s16:(List Int) × Int):Option (((List Int) × Int) ⊕ (List Int)) :=
 cond (decide (s16.2 < v39)) (
  (f_A x0 x1 s16.1).bind fun r40 =>
  (rng (s16.2 + 1)).bind fun v41 =>
  some (.inl (r40,v41))) (
  some (.inr s16.1))
def zQF (x0:SPr) (x1:Int) (v34:List Int) (s15:Int):Option (Int ⊕ (Unit ⊕ yQ)) :=
 cond (decide (s15 < (x0.zA.length:Int))) (
  (zIu (x0.zA.length:Int) s15).bind fun r38 =>
  (ixO x0.zA x1).bind fun v39 =>
  (zG (zQE x0 x1 v39) (r38,0)).bind fun r42 =>
  (zIu (x0.zA.length:Int) s15).bind fun r43 =>
  (zQA x0 r43 v34).bind fun r44 =>
  (f_P r42 r44).bind fun r45 =>
  cond (!r45) (
   some (.inr (.inr (yQ.mk 4 x1 s15 0)))) (
   (rng (s15 + 1)).bind fun v46 =>
   some (.inl v46))) (
  some (.inr (.inl ())))
def f_k (x0:SPr) (x1:Int):Option yQ :=
 (rng (x1 + 1)).bind fun v1 =>
 (zG (zQB x0 x1) v1).bind fun r12 =>
 match r12 with
 | (.inl r12) =>
  (rng (x1 + 1)).bind fun v13 =>
  (zG (zQD x0 x1) v13).bind fun r33 =>
  match r33 with
  | (.inl r33) =>
   (ixO x0.zV x1).bind fun v34 =>
   (f_A x0 x1 v34).bind fun r35 =>
   (f_P r35 v34).bind fun r36 =>
   cond (!r36) (
    some (yQ.mk 3 x1 0 0)) (
    (rng (x1 + 1)).bind fun v37 =>
    (zG (zQF x0 x1 v34) v37).bind fun r47 =>
    match r47 with
    | (.inl r47) =>
     some (yQ.mk 0 0 0 0)
    | (.inr r47) =>
     some r47)
  | (.inr r33) =>
   some r33
 | (.inr r12) =>
  some r12
def zKc (x0:SPr) (s1:Int):Option (Int ⊕ Int) :=
 cond (decide (s1 > 0)) (
  (rng (s1 - 1)).bind fun v1 =>
  (f_k x0 v1).bind fun r2 =>
  cond (r2.Kind == 0 && (r2.zTA == 0 && (r2.zT9 == 0 && r2.zRy == 0))) (
   (rng (s1 - 1)).bind fun v3 =>
   some (.inl v3)) (
   some (.inr s1))) (
  some (.inr s1))
def f_K (x0:SPr):Option Int :=
 (zG (zKc x0) (x0.zA.length:Int)).bind fun r4 =>
 some r4
def zSy (x0:SPr):Option Bool :=
 (f_p x0).bind fun r1 =>
 cond r1 (
  (f_K x0).bind fun r2 =>
  some (r2 == 0)) (
  some false)
def zL6 (x0:zD) (x1:Int):Option zS :=
 (ixO x0.zI x1).bind fun v1 =>
 some (zS.mk x0.Prime x0.Dim v1)
def zMT (x0:List Int) (x1:Int) (s1:Int):Option (Int ⊕ (Unit ⊕ Bool)) :=
 cond (decide (s1 < (x0.length:Int))) (
  (ixO x0 s1).bind fun v1 =>
  (rng (x1 - 1)).bind fun v2 =>
  (zL3 v1 0 v2).bind fun r3 =>
  cond (!r3) (
   some (.inr (.inr false))) (
   (rng (s1 + 1)).bind fun v4 =>
   some (.inl v4))) (
  some (.inr (.inl ())))
def zQG (x0:List Int) (x1:Int) (x2:Int):Option Bool :=
 cond ((x0.length:Int) != x2) (
  some false) (
  (zG (zMT x0 x1) 0).bind fun r5 =>
  match r5 with
  | (.inl r5) =>
   some true
  | (.inr r5) =>
   some r5)
def zKd (x0:zS) (s1:Int):Option (Int ⊕ (Unit ⊕ Bool)) :=
 cond (decide (s1 < (x0.Rows.length:Int))) (
  (ixO x0.Rows s1).bind fun v3 =>
  (zQG v3 x0.Prime x0.xR).bind fun r4 =>
  cond (!r4) (
   some (.inr (.inr false))) (
   (rng (s1 + 1)).bind fun v5 =>
   some (.inl v5))) (
  some (.inr (.inl ())))
def zSz (x0:zS):Option Bool :=
 (zNG x0.Prime).bind fun r1 =>
 cond (!r1) (
  some false) (
  (zL3 x0.xR 0 8).bind fun r2 =>
  cond (!r2) (
   some false) (
   cond (decide ((x0.Rows.length:Int) > 8)) (
    some false) (
    (zG (zKd x0) 0).bind fun r6 =>
    match r6 with
    | (.inl r6) =>
     some true
    | (.inr r6) =>
     some r6)))
def zWF (x0:Int) (x1:Int):Option (Int × Int) :=
 some ((IntKind.wrap .u64 ((IntKind.wrap .u64 ((IntKind.wrap .u64 ((Int.fdiv x0 (2 ^ (min (32:Int).toNat (IntKind.bits .u64)))) * (Int.fdiv x1 (2 ^ (min (32:Int).toNat (IntKind.bits .u64)))))) + (Int.fdiv (IntKind.wrap .u64 ((IntKind.wrap .u64 ((Int.fdiv x0 (2 ^ (min (32:Int).toNat (IntKind.bits .u64)))) * (zE9 .u64 x1 4294967295))) + (Int.fdiv (IntKind.wrap .u64 ((zE9 .u64 x0 4294967295) * (zE9 .u64 x1 4294967295))) (2 ^ (min (32:Int).toNat (IntKind.bits .u64)))))) (2 ^ (min (32:Int).toNat (IntKind.bits .u64)))))) + (Int.fdiv (IntKind.wrap .u64 ((zE9 .u64 (IntKind.wrap .u64 ((IntKind.wrap .u64 ((Int.fdiv x0 (2 ^ (min (32:Int).toNat (IntKind.bits .u64)))) * (zE9 .u64 x1 4294967295))) + (Int.fdiv (IntKind.wrap .u64 ((zE9 .u64 x0 4294967295) * (zE9 .u64 x1 4294967295))) (2 ^ (min (32:Int).toNat (IntKind.bits .u64)))))) 4294967295) + (IntKind.wrap .u64 ((zE9 .u64 x0 4294967295) * (Int.fdiv x1 (2 ^ (min (32:Int).toNat (IntKind.bits .u64)))))))) (2 ^ (min (32:Int).toNat (IntKind.bits .u64)))))),(IntKind.wrap .u64 (x0 * x1)))
def zS0 (x0:Int) (x1:Int):Option (Int × Int) :=
 (zWF x0 x1).bind fun r1 =>
 some (r1.1,r1.2)
def qZ  (s1:(List Int) × Int):Option (((List Int) × Int) ⊕ (List Int)) :=
 cond (decide (s1.2 < (s1.1.length:Int))) (
  (zT s1.1 s1.2 s1.1.length).bind fun _ =>
  (zT s1.1 0 s1.2).bind fun v4 =>
  (rng (s1.2 + ((min v4.length (((s1.1.length:Int).toNat) - ((s1.2:Int).toNat)):Nat):Int))).bind fun v5 =>
  some (.inl (xS s1.1 ((s1.2:Int).toNat) (v4.take (((s1.1.length:Int).toNat) - ((s1.2:Int).toNat))),v5))) (
  some (.inr s1.1))
def f_i (x0:List Int) (x1:Int):Option (List Int) :=
 cond (decide (x1 < 0)) (
  none) (
  (zS0 (IntKind.wrap .u64 (x0.length:Int)) (IntKind.wrap .u64 x1)).bind fun r1 =>
  cond (decide (r1.1 > 0)) (
   none) (
   cond (decide (r1.2 > 9223372036854775807)) (
    none) (
    (yW (IntKind.wrap .i64 r1.2)).bind fun m2 =>
    (zG qZ (xS (List.replicate m2 (0:Int)) 0 (x0.take (((List.replicate m2 (0:Int)).length) - 0)),((min x0.length (((List.replicate m2 (0:Int)).length) - 0):Nat):Int))).bind fun r6 =>
    some r6)))
def zQH (s5:(List Int) × Int) (v1:Int) (s6:(List Int) × Int):Option (((List Int) × Int) ⊕ (List Int)) :=
 cond (decide (s6.2 < v1)) (
  (rng (s5.2 + 1)).bind fun v2 =>
  (xQ s6.1 [v2]).bind fun v3 =>
  (rng (s6.2 + 1)).bind fun v4 =>
  some (.inl (v3,v4))) (
  some (.inr s6.1))
def zQI (x0:List Int) (s5:(List Int) × Int):Option (((List Int) × Int) ⊕ (List Int)) :=
 cond (decide (s5.2 < (x0.length:Int))) (
  (ixO x0 s5.2).bind fun v1 =>
  (zG (zQH s5 v1) (s5.1,0)).bind fun r5 =>
  (rng (s5.2 + 1)).bind fun v6 =>
  some (.inl (r5,v6))) (
  some (.inr s5.1))
def f_H (x0:List Int):Option (List Int) :=
 (zG (zQI x0) ([],0)).bind fun r7 =>
 some r7
def zQJ (x0:SPr) (s1:(List ((List Int) × (List Int))) × Int):Option (((List ((List Int) × (List Int))) × Int) ⊕ (List ((List Int) × (List Int)))) :=
 cond (decide (s1.2 < (x0.zA.length:Int))) (
  (ixO x0.zA s1.2).bind fun v1 =>
  (rng (s1.2 + 1)).bind fun v2 =>
  (f_i [v2] v1).bind fun r3 =>
  (ixO x0.zV s1.2).bind fun v4 =>
  (f_H v4).bind fun r5 =>
  (xQ s1.1 [(r3,r5)]).bind fun v6 =>
  (rng (s1.2 + 1)).bind fun v7 =>
  some (.inl (v6,v7))) (
  some (.inr s1.1))
def zQK (s7:(List ((List Int) × (List Int))) × Int) (v9:List (List Int)) (s8:(List ((List Int) × (List Int))) × Int):Option (((List ((List Int) × (List Int))) × Int) ⊕ (List ((List Int) × (List Int)))) :=
 cond (decide (s8.2 < (v9.length:Int))) (
  (ixO v9 s8.2).bind fun v10 =>
  (rng (s7.2 + 1)).bind fun v11 =>
  (rng (s7.2 + s8.2)).bind fun v12 =>
  (rng (v12 + 2)).bind fun v13 =>
  (f_H v10).bind fun r14 =>
  (xQ [v11] r14).bind fun v15 =>
  (xQ s8.1 [([v13,v11],v15)]).bind fun v16 =>
  (rng (s8.2 + 1)).bind fun v17 =>
  some (.inl (v16,v17))) (
  some (.inr s8.1))
def zQL (x0:SPr) (s7:(List ((List Int) × (List Int))) × Int):Option (((List ((List Int) × (List Int))) × Int) ⊕ (List ((List Int) × (List Int)))) :=
 cond (decide (s7.2 < (x0.zA.length:Int))) (
  (ixO x0.zB s7.2).bind fun v9 =>
  (zG (zQK s7 v9) (s7.1,0)).bind fun r18 =>
  (rng (s7.2 + 1)).bind fun v19 =>
  some (.inl (r18,v19))) (
  some (.inr s7.1))
def f_u (x0:SPr):Option (List ((List Int) × (List Int))) :=
 (zG (zQJ x0) ([],0)).bind fun r8 =>
 (zG (zQL x0) (r8,0)).bind fun r20 =>
 some r20
def zQM (x1:Int) (s1:(List (List Int)) × Int):Option (((List (List Int)) × Int) ⊕ (List (List Int))) :=
 cond (decide (s1.2 < x1)) (
  (yW x1).bind fun m1 =>
  (ixO (List.replicate m1 (0:Int)) s1.2).bind fun _ =>
  (xQ s1.1 [(List.replicate m1 (0:Int)).set s1.2.toNat 1]).bind fun v3 =>
  (rng (s1.2 + 1)).bind fun v4 =>
  some (.inl (v3,v4))) (
  some (.inr s1.1))
def f_R (x0:Int) (x1:Int):Option zS :=
 (zG (zQM x1) ([],0)).bind fun r5 =>
 some (zS.mk x0 x1 r5)
def zGG (x0:Int) (x1:Int):Option Int :=
 (uH x0 x1).bind fun v1 =>
 (rng (v1 + x1)).bind fun v2 =>
 (uH v2 x1).bind fun v3 =>
 some v3
def zKe (x0:List Int) (x1:List Int) (x2:Int) (x3:Int) (s1:(List Int) × Int):Option (((List Int) × Int) ⊕ (List Int)) :=
 cond (decide (s1.2 < (x0.length:Int))) (
  (ixO s1.1 s1.2).bind fun v1 =>
  (ixO x1 s1.2).bind fun v2 =>
  (rng (x2 * v2)).bind fun v3 =>
  (rng (v1 + v3)).bind fun v4 =>
  (zGG v4 x3).bind fun r5 =>
  (ixO s1.1 s1.2).bind fun _ =>
  (rng (s1.2 + 1)).bind fun v7 =>
  some (.inl (s1.1.set s1.2.toNat r5,v7))) (
  some (.inr s1.1))
def f_w (x0:List Int) (x1:List Int) (x2:Int) (x3:Int):Option (List Int) :=
 (zG (zKe x0 x1 x2 x3) (x0,0)).bind fun r8 =>
 some r8
def zKf (x0:List Int) (x1:zS) (s1:(List Int) × Int):Option (((List Int) × Int) ⊕ (List Int)) :=
 cond (decide (s1.2 < (x0.length:Int))) (
  (ixO x0 s1.2).bind fun v2 =>
  (ixO x1.Rows s1.2).bind fun v3 =>
  (f_w s1.1 v3 v2 x1.Prime).bind fun r4 =>
  (rng (s1.2 + 1)).bind fun v5 =>
  some (.inl (r4,v5))) (
  some (.inr s1.1))
def zQN (x0:List Int) (x1:zS):Option (List Int) :=
 (yW x1.xR).bind fun m1 =>
 (zG (zKf x0 x1) (List.replicate m1 (0:Int),0)).bind fun r6 =>
 some r6
def zKg (x0:zS) (x1:zS) (s1:(List (List Int)) × Int):Option (((List (List Int)) × Int) ⊕ (List (List Int))) :=
 cond (decide (s1.2 < (x0.Rows.length:Int))) (
  (ixO x0.Rows s1.2).bind fun v1 =>
  (zQN v1 x1).bind fun r2 =>
  (xQ s1.1 [r2]).bind fun v3 =>
  (rng (s1.2 + 1)).bind fun v4 =>
  some (.inl (v3,v4))) (
  some (.inr s1.1))
def zS1 (x0:zS) (x1:zS):Option zS :=
 (zG (zKg x0 x1) ([],0)).bind fun r5 =>
 some (zS.mk x0.Prime x1.xR r5)
def zQO (x0:zD) (x1:List Int) (s1:Int × Int × (List (List Int)) × Int):Option ((Int × Int × (List (List Int)) × Int) ⊕ (Int × Int × (List (List Int)))) :=
 cond (decide (s1.2.2.2 < (x1.length:Int))) (
  (ixO x1 s1.2.2.2).bind fun v2 =>
  (rng (v2 - 1)).bind fun v3 =>
  (zL6 x0 v3).bind fun r4 =>
  (zS1 (zS.mk s1.1 s1.2.1 s1.2.2.1) r4).bind fun r5 =>
  (rng (s1.2.2.2 + 1)).bind fun v6 =>
  some (.inl (r5.Prime,r5.xR,r5.Rows,v6))) (
  some (.inr (s1.1,s1.2.1,s1.2.2.1)))
def f_S (x0:zD) (x1:List Int):Option zS :=
 (f_R x0.Prime x0.Dim).bind fun r1 =>
 (zG (zQO x0 x1) (r1.Prime,r1.xR,r1.Rows,0)).bind fun r7 =>
 some (zS.mk r7.1 r7.2.1 r7.2.2)
def zQP (x0:List (List Int)) (x1:List (List Int)) (s1:Int):Option (Int ⊕ (Unit ⊕ Bool)) :=
 cond (decide (s1 < (x0.length:Int))) (
  (ixO x0 s1).bind fun v1 =>
  (ixO x1 s1).bind fun v2 =>
  (f_P v1 v2).bind fun r3 =>
  cond (!r3) (
   some (.inr (.inr false))) (
   (rng (s1 + 1)).bind fun v4 =>
   some (.inl v4))) (
  some (.inr (.inl ())))
def zUP (x0:List (List Int)) (x1:List (List Int)):Option Bool :=
 cond ((x0.length:Int) != (x1.length:Int)) (
  some false) (
  (zG (zQP x0 x1) 0).bind fun r5 =>
  match r5 with
  | (.inl r5) =>
   some true
  | (.inr r5) =>
   some r5)
def zS2 (x0:List (List Int)) (x1:List (List Int)):Option Bool :=
 (zUP x0 x1).bind fun r1 =>
 some r1
def zQQ (x1:zD) (s1:Int):Option (Int ⊕ (Unit ⊕ Bool)) :=
 cond (decide (s1 < (x1.zI.length:Int))) (
  (ixO x1.zI s1).bind fun v4 =>
  cond ((v4.length:Int) != x1.Dim) (
   some (.inr (.inr false))) (
   (zL6 x1 s1).bind fun r5 =>
   (zSz r5).bind fun r6 =>
   cond (!r6) (
    some (.inr (.inr false))) (
    (rng (s1 + 1)).bind fun v7 =>
    some (.inl v7)))) (
  some (.inr (.inl ())))
def zQR (x1:zD) (r9:(List ((List Int) × (List Int)))) (s3:Int):Option (Int ⊕ (Unit ⊕ Bool)) :=
 cond (decide (s3 < (r9.length:Int))) (
  (ixO r9 s3).bind fun v10 =>
  (f_S x1 v10.1).bind fun r11 =>
  (f_S x1 v10.2).bind fun r12 =>
  (zS2 r11.Rows r12.Rows).bind fun r13 =>
  cond (!r13) (
   some (.inr (.inr false))) (
   (rng (s3 + 1)).bind fun v14 =>
   some (.inl v14))) (
  some (.inr (.inl ())))
def f_B (x0:SPr) (x1:zD):Option Bool :=
 (zSy x0).bind fun r1 =>
 cond (!r1) (
  some false) (
  (zNG x1.Prime).bind fun r2 =>
  cond (!r2) (
   some false) (
   (zL3 x1.Dim 1 3).bind fun r3 =>
   cond (!r3) (
    some false) (
    cond ((x1.zI.length:Int) != (x0.zA.length:Int)) (
     some false) (
     (zG (zQQ x1) 0).bind fun r8 =>
     match r8 with
     | (.inl r8) =>
      (f_u x0).bind fun r9 =>
      (zG (zQR x1 r9) 0).bind fun r15 =>
      match r15 with
      | (.inl r15) =>
       some true
      | (.inr r15) =>
       some r15
     | (.inr r8) =>
      some r8))))
def zQS (x1:Int):Option (List Int) :=
 cond (decide (x1 < 0)) (
  none) (
  (rng (0 - 0)).bind fun v1 =>
  (rng (x1 - v1)).bind fun v2 =>
  cond (decide (v2 > 0)) (
   (vN [] v2 (0:Int)).bind fun v3 =>
   (zT v3 0 0).bind fun v4 =>
   some v4) (
   some []))
def zQT (x0:List (List Int)) (s1:Int × Int):Option ((Int × Int) ⊕ Int) :=
 cond (decide (s1.2 < (x0.length:Int))) (
  (ixO x0 s1.2).bind fun v1 =>
  (rng (s1.1 + (v1.length:Int))).bind fun v2 =>
  cond (decide (v2 < 0)) (
   none) (
   (rng (s1.2 + 1)).bind fun v3 =>
   some (.inl (v2,v3)))) (
  some (.inr s1.1))
def zQU (x0:List (List Int)) (s3:(List Int) × Int):Option (((List Int) × Int) ⊕ (List Int)) :=
 cond (decide (s3.2 < (x0.length:Int))) (
  (ixO x0 s3.2).bind fun v6 =>
  (xQ s3.1 v6).bind fun v7 =>
  (rng (s3.2 + 1)).bind fun v8 =>
  some (.inl (v7,v8))) (
  some (.inr s3.1))
def f_r (x0:List (List Int)):Option (List Int) :=
 (zG (zQT x0) (0,0)).bind fun r4 =>
 (zQS r4).bind fun r5 =>
 (zG (zQU x0) (r5,0)).bind fun r9 =>
 some r9
def zQV (x0:List Int) (x1:Int) (x2:Int):Option (List Int) :=
 (yW x1).bind fun m1 =>
 (yW x2).bind fun m2 =>
 (f_r [List.replicate m1 (0:Int),x0,List.replicate m2 (0:Int)]).bind fun r3 =>
 some r3
def zQW (x0:List Int) (x1:List Int) (s1:Int):Option (Int ⊕ (Unit ⊕ Bool)) :=
 cond (decide (s1 < (x0.length:Int))) (
  (ixO x0 s1).bind fun v1 =>
  (ixO x1 s1).bind fun v2 =>
  cond (v1 != v2) (
   some (.inr (.inr false))) (
   (rng (s1 + 1)).bind fun v3 =>
   some (.inl v3))) (
  some (.inr (.inl ())))
def zQX (x0:List Int) (x1:List Int):Option Bool :=
 cond ((x0.length:Int) != (x1.length:Int)) (
  some false) (
  (zG (zQW x0 x1) 0).bind fun r4 =>
  match r4 with
  | (.inl r4) =>
   some true
  | (.inr r4) =>
   some r4)
def zQY (x0:List (List Int)) (x1:List (List Int)) (s1:Int):Option (Int ⊕ (Unit ⊕ Bool)) :=
 cond (decide (s1 < (x0.length:Int))) (
  (ixO x0 s1).bind fun v1 =>
  (ixO x1 s1).bind fun v2 =>
  (zQX v1 v2).bind fun r3 =>
  cond (!r3) (
   some (.inr (.inr false))) (
   (rng (s1 + 1)).bind fun v4 =>
   some (.inl v4))) (
  some (.inr (.inl ())))
def zNJ (x0:List (List Int)) (x1:List (List Int)):Option Bool :=
 cond ((x0.length:Int) != (x1.length:Int)) (
  some false) (
  (zG (zQY x0 x1) 0).bind fun r5 =>
  match r5 with
  | (.inl r5) =>
   some true
  | (.inr r5) =>
   some r5)
def zQZ (x0:List (List (List Int))) (x1:List (List (List Int))) (s1:Int):Option (Int ⊕ (Unit ⊕ Bool)) :=
 cond (decide (s1 < (x0.length:Int))) (
  (ixO x0 s1).bind fun v1 =>
  (ixO x1 s1).bind fun v2 =>
  (zNJ v1 v2).bind fun r3 =>
  cond (!r3) (
   some (.inr (.inr false))) (
   (rng (s1 + 1)).bind fun v4 =>
   some (.inl v4))) (
  some (.inr (.inl ())))
def zS3 (x0:List (List (List Int))) (x1:List (List (List Int))):Option Bool :=
 cond ((x0.length:Int) != (x1.length:Int)) (
  some false) (
  (zG (zQZ x0 x1) 0).bind fun r5 =>
  match r5 with
  | (.inl r5) =>
   some true
  | (.inr r5) =>
   some r5)
def zS4 (x0:zD) (x1:zD):Option Bool :=
 cond (x0.Prime != x1.Prime) (
  some false) (
  cond (x0.Dim != x1.Dim) (
   some false) (
   (zS3 x0.zI x1.zI).bind fun r1 =>
   cond (!r1) (
    some false) (
    some true)))
def zS5 (x0:SPr) (x1:SPr):Option Bool :=
 (zQX x0.zA x1.zA).bind fun r1 =>
 cond (!r1) (
  some false) (
  (zNJ x0.zV x1.zV).bind fun r2 =>
  cond (!r2) (
   some false) (
   (zS3 x0.zB x1.zB).bind fun r3 =>
   cond (!r3) (
    some false) (
    some true)))
def zRa (x0:List (List Int)) (s1:(List (List Int)) × Int):Option (((List (List Int)) × Int) ⊕ (List (List Int))) :=
 cond (decide (s1.2 < (x0.length:Int))) (
  (ixO x0 s1.2).bind fun v1 =>
  (rng ((v1.length:Int) + (x0.length:Int))).bind fun v2 =>
  (yW v2).bind fun m3 =>
  (rng ((v1.length:Int) + s1.2)).bind fun v4 =>
  (ixO (xS (List.replicate m3 (0:Int)) 0 (v1.take (((List.replicate m3 (0:Int)).length) - 0))) v4).bind fun _ =>
  (xQ s1.1 [(xS (List.replicate m3 (0:Int)) 0 (v1.take (((List.replicate m3 (0:Int)).length) - 0))).set v4.toNat 1]).bind fun v6 =>
  (rng (s1.2 + 1)).bind fun v7 =>
  some (.inl (v6,v7))) (
  some (.inr s1.1))
def f_Z (x0:List (List Int)):Option (List (List Int)) :=
 (zG (zRa x0) ([],0)).bind fun r8 =>
 some r8
def zKh (x0:List (List Int)) (s1:(List (List Int)) × Int):Option (((List (List Int)) × Int) ⊕ (List (List Int))) :=
 cond (decide (s1.2 < (x0.length:Int))) (
  (ixO x0 s1.2).bind fun v1 =>
  (f_v v1).bind fun r2 =>
  (xQ s1.1 [r2]).bind fun v3 =>
  (rng (s1.2 + 1)).bind fun v4 =>
  some (.inl (v3,v4))) (
  some (.inr s1.1))
def zS6 (x0:List (List Int)):Option (List (List Int)) :=
 (zG (zKh x0) ([],0)).bind fun r5 =>
 some r5
def zNK  (s1:Int × Int × Int × Int):Option ((Int × Int × Int × Int) ⊕ (Int × Int)) :=
 cond (s1.2.1 != 0) (
  (tM s1.1 s1.2.1).bind fun v1 =>
  (rng (v1 * s1.2.1)).bind fun v2 =>
  (rng (s1.1 - v2)).bind fun v3 =>
  (rng (v1 * s1.2.2.2)).bind fun v4 =>
  (rng (s1.2.2.1 - v4)).bind fun v5 =>
  some (.inl (s1.2.1,v3,s1.2.2.2,v5))) (
  some (.inr (s1.1,s1.2.2.1)))
def f_L (x0:Int) (x1:Int):Option (Int × Bool) :=
 (zG zNK (x1,x0,0,1)).bind fun r6 =>
 (zGG r6.2 x1).bind fun r7 =>
 some (r7,(r6.1 == 1))
def zGH (s13:(List (List Int)) × Int × Int) (s14:Int):Option (Int ⊕ Int) :=
 cond (decide (s14 < (s13.1.length:Int))) (
  (ixO s13.1 s14).bind fun v3 =>
  (ixO v3 s13.2.2).bind fun v4 =>
  cond (v4 == 0) (
   (rng (s14 + 1)).bind fun v5 =>
   some (.inl v5)) (
   some (.inr s14))) (
  some (.inr s14))
def zKi (x0:Int) (s13:(List (List Int)) × Int × Int) (r12:Int × Bool) (v13:List Int) (s16:(List (List Int)) × Int):Option (((List (List Int)) × Int) ⊕ (List (List Int))) :=
 cond (decide (s16.2 < (v13.length:Int))) (
  (ixO s16.1 s13.2.1).bind fun v14 =>
  (ixO s16.1 s13.2.1).bind fun v15 =>
  (ixO v15 s16.2).bind fun v16 =>
  (rng (v16 * r12.1)).bind fun v17 =>
  (uH v17 x0).bind fun v18 =>
  (ixO v14 s16.2).bind fun _ =>
  (rng (s16.2 + 1)).bind fun v20 =>
  some (.inl (s16.1.set s13.2.1.toNat (v14.set s16.2.toNat v18),v20))) (
  some (.inr s16.1))
def zL7 (x0:Int) (s13:(List (List Int)) × Int × Int) (r21:(List (List Int))) (s18:(List (List Int)) × Int):Option (((List (List Int)) × Int) ⊕ (List (List Int))) :=
 cond (decide (s18.2 < (r21.length:Int))) (
  cond (s18.2 != s13.2.1) (
   (ixO s18.1 s18.2).bind fun v22 =>
   (ixO s18.1 s13.2.1).bind fun v23 =>
   (ixO s18.1 s18.2).bind fun v24 =>
   (ixO v24 s13.2.2).bind fun v25 =>
   (rng (0 - v25)).bind fun v26 =>
   (f_w v22 v23 v26 x0).bind fun r27 =>
   (rng (s18.2 + 1)).bind fun v28 =>
   some (.inl (s18.1.set s18.2.toNat r27,v28))) (
   (rng (s18.2 + 1)).bind fun v29 =>
   some (.inl (s18.1,v29)))) (
  some (.inr s18.1))
def zL8 (x0:Int) (s13:(List (List Int)) × Int × Int):Option (((List (List Int)) × Int × Int) ⊕ ((List (List Int)) × Int)) :=
 cond (decide ((s13.1.length:Int) > 0)) (
  (ixO s13.1 0).bind fun v2 =>
  cond (decide (s13.2.2 < (v2.length:Int))) (
   cond (decide (s13.2.1 < (s13.1.length:Int))) (
    (zG (zGH s13) s13.2.1).bind fun r6 =>
    cond (r6 == (s13.1.length:Int)) (
     (rng (s13.2.2 + 1)).bind fun v7 =>
     some (.inl (s13.1,s13.2.1,v7))) (
     (ixO s13.1 r6).bind fun v8 =>
     (ixO s13.1 s13.2.1).bind fun v9 =>
     (ixO (sQ s13.1 s13.2.1 r6 v8 v9) s13.2.1).bind fun v10 =>
     (ixO v10 s13.2.2).bind fun v11 =>
     (f_L v11 x0).bind fun r12 =>
     (ixO (sQ s13.1 s13.2.1 r6 v8 v9) s13.2.1).bind fun v13 =>
     (zG (zKi x0 s13 r12 v13) (sQ s13.1 s13.2.1 r6 v8 v9,0)).bind fun r21 =>
     (zG (zL7 x0 s13 r21) (r21,0)).bind fun r30 =>
     (rng (s13.2.1 + 1)).bind fun v31 =>
     (rng (s13.2.2 + 1)).bind fun v32 =>
     some (.inl (r30,v31,v32)))) (
    some (.inr (s13.1,s13.2.1)))) (
   some (.inr (s13.1,s13.2.1)))) (
  some (.inr (s13.1,s13.2.1)))
def f_g (x0:Int) (x1:List (List Int)):Option (List (List Int)) :=
 (zS6 x1).bind fun r1 =>
 (zG (zL8 x0) (r1,0,0)).bind fun r33 =>
 (zT r33.1 0 r33.2).bind fun v34 =>
 some v34
def zRb (x0:Int) (x1:Int):Option Int :=
 (uH x0 x1).bind fun v1 =>
 cond (decide (v1 < 0)) (
  (rng (v1 + x1)).bind fun v2 =>
  some v2) (
  some v1)
def zGI (x0:List Int) (s1:Int):Option (Int ⊕ (Unit ⊕ Int)) :=
 cond (decide (s1 < (x0.length:Int))) (
  (ixO x0 s1).bind fun v1 =>
  cond (v1 != 0) (
   some (.inr (.inr s1))) (
   (rng (s1 + 1)).bind fun v2 =>
   some (.inl v2))) (
  some (.inr (.inl ())))
def f_z (x0:List Int):Option Int :=
 (zG (zGI x0) 0).bind fun r3 =>
 match r3 with
 | (.inl r3) =>
  some (x0.length:Int)
 | (.inr r3) =>
  some r3
def zRc (x0:Int) (x2:Int) (x3:List Int) (s1:(List Int) × Int):Option (((List Int) × Int) ⊕ (List Int)) :=
 cond (decide (s1.2 < (s1.1.length:Int))) (
  cond (decide (s1.2 < (x3.length:Int))) (
   (ixO s1.1 s1.2).bind fun v2 =>
   (ixO x3 s1.2).bind fun v3 =>
   (rng (x2 * v3)).bind fun v4 =>
   (rng (v2 + v4)).bind fun v5 =>
   (zRb v5 x0).bind fun r6 =>
   (ixO s1.1 s1.2).bind fun _ =>
   (rng (s1.2 + 1)).bind fun v8 =>
   some (.inl (s1.1.set s1.2.toNat r6,v8))) (
   some (.inr s1.1))) (
  some (.inr s1.1))
def f_s (x0:Int) (x1:List Int) (x2:Int) (x3:List Int):Option (List Int) :=
 (f_q x1).bind fun r1 =>
 (zG (zRc x0 x2 x3) (r1,0)).bind fun r9 =>
 some r9
def zRd (x0:Int) (x1:List (List Int)) (s1:(List Int) × Int):Option (((List Int) × Int) ⊕ (List Int)) :=
 cond (decide (s1.2 < (x1.length:Int))) (
  (ixO x1 s1.2).bind fun v2 =>
  (f_z v2).bind fun r3 =>
  cond (decide (r3 < (s1.1.length:Int))) (
   (ixO s1.1 r3).bind fun v4 =>
   cond (v4 != 0) (
    (ixO s1.1 r3).bind fun v5 =>
    (rng (x0 - v5)).bind fun v6 =>
    (ixO x1 s1.2).bind fun v7 =>
    (f_s x0 s1.1 v6 v7).bind fun r8 =>
    (rng (s1.2 + 1)).bind fun v9 =>
    some (.inl (r8,v9))) (
    (rng (s1.2 + 1)).bind fun v10 =>
    some (.inl (s1.1,v10)))) (
   (rng (s1.2 + 1)).bind fun v11 =>
   some (.inl (s1.1,v11)))) (
  some (.inr s1.1))
def f_W (x0:Int) (x1:List (List Int)) (x2:List Int):Option (List Int) :=
 (f_q x2).bind fun r1 =>
 (zG (zRd x0 x1) (r1,0)).bind fun r12 =>
 some r12
def zKj (x0:Int) (x1:Int) (s1:Int):Option (Int ⊕ (Unit ⊕ Int)) :=
 cond (decide (s1 < x1)) (
  (zRb x0 x1).bind fun r1 =>
  (rng (r1 * s1)).bind fun v2 =>
  (uH v2 x1).bind fun v3 =>
  cond (v3 == 1) (
   some (.inr (.inr s1))) (
   (rng (s1 + 1)).bind fun v4 =>
   some (.inl v4))) (
  some (.inr (.inl ())))
def zS7 (x0:Int) (x1:Int):Option Int :=
 (zG (zKj x0 x1) 1).bind fun r5 =>
 match r5 with
 | (.inl r5) =>
  some 0
 | (.inr r5) =>
  some r5
def zNL (x0:Int) (x1:Int) (x2:List Int):Option (List Int) :=
 (yW (x2.length:Int)).bind fun m1 =>
 (f_s x0 (List.replicate m1 (0:Int)) x1 x2).bind fun r2 =>
 some r2
def zGJ (x0:Int) (s5:(List (List Int)) × Int) (r3:Int) (r7:(List Int)) (s6:(List (List Int)) × Bool × Int):Option (((List (List Int)) × Bool × Int) ⊕ ((List (List Int)) × Bool)) :=
 cond (decide (s6.2.2 < (s5.1.length:Int))) (
  cond (!s6.2.1) (
   (ixO s5.1 s6.2.2).bind fun v8 =>
   (f_z v8).bind fun r9 =>
   cond (decide (r9 > r3)) (
    (xQ s6.1 [r7]).bind fun v10 =>
    (ixO s5.1 s6.2.2).bind fun v11 =>
    (ixO s5.1 s6.2.2).bind fun v12 =>
    (ixO v12 r3).bind fun v13 =>
    (rng (x0 - v13)).bind fun v14 =>
    (f_s x0 v11 v14 r7).bind fun r15 =>
    (xQ v10 [r15]).bind fun v16 =>
    (rng (s6.2.2 + 1)).bind fun v17 =>
    some (.inl (v16,true,v17))) (
    (ixO s5.1 s6.2.2).bind fun v18 =>
    (ixO s5.1 s6.2.2).bind fun v19 =>
    (ixO v19 r3).bind fun v20 =>
    (rng (x0 - v20)).bind fun v21 =>
    (f_s x0 v18 v21 r7).bind fun r22 =>
    (xQ s6.1 [r22]).bind fun v23 =>
    (rng (s6.2.2 + 1)).bind fun v24 =>
    some (.inl (v23,s6.2.1,v24)))) (
   (ixO s5.1 s6.2.2).bind fun v25 =>
   (ixO s5.1 s6.2.2).bind fun v26 =>
   (ixO v26 r3).bind fun v27 =>
   (rng (x0 - v27)).bind fun v28 =>
   (f_s x0 v25 v28 r7).bind fun r29 =>
   (xQ s6.1 [r29]).bind fun v30 =>
   (rng (s6.2.2 + 1)).bind fun v31 =>
   some (.inl (v30,s6.2.1,v31)))) (
  some (.inr (s6.1,s6.2.1)))
def zNM (x0:Int) (x1:List (List Int)) (s5:(List (List Int)) × Int):Option (((List (List Int)) × Int) ⊕ (List (List Int))) :=
 cond (decide (s5.2 < (x1.length:Int))) (
  (ixO x1 s5.2).bind fun v1 =>
  (f_W x0 s5.1 v1).bind fun r2 =>
  (f_z r2).bind fun r3 =>
  cond (r3 == (r2.length:Int)) (
   (rng (s5.2 + 1)).bind fun v4 =>
   some (.inl (s5.1,v4))) (
   (ixO r2 r3).bind fun v5 =>
   (zS7 v5 x0).bind fun r6 =>
   (zNL x0 r6 r2).bind fun r7 =>
   (zG (zGJ x0 s5 r3 r7) ([],false,0)).bind fun r32 =>
   cond (!r32.2) (
    (xQ r32.1 [r7]).bind fun v33 =>
    (rng (s5.2 + 1)).bind fun v34 =>
    some (.inl (v33,v34))) (
    (rng (s5.2 + 1)).bind fun v35 =>
    some (.inl (r32.1,v35))))) (
  some (.inr s5.1))
def f_m (x0:Int) (x1:List (List Int)):Option (List (List Int)) :=
 (zG (zNM x0 x1) ([],0)).bind fun r36 =>
 some r36
def zKk (x1:List (List Int)) (r1:(List (List Int))) (s1:(List (List Int)) × Int):Option (((List (List Int)) × Int) ⊕ (List (List Int))) :=
 cond (decide (s1.2 < (x1.length:Int))) (
  (ixO x1 s1.2).bind fun v2 =>
  (f_q v2).bind fun r3 =>
  (ixO r1 s1.2).bind fun v4 =>
  (xQ r3 v4).bind fun v5 =>
  (xQ s1.1 [v5]).bind fun v6 =>
  (rng (s1.2 + 1)).bind fun v7 =>
  some (.inl (v6,v7))) (
  some (.inr s1.1))
def zRe (x0:Int) (x1:List (List Int)):Option (List (List Int)) :=
 (f_F (x1.length:Int)).bind fun r1 =>
 (zG (zKk x1 r1) ([],0)).bind fun r8 =>
 (f_m x0 r8).bind fun r9 =>
 some r9
def zH2 (x2:Int) (r1:(List (List Int))) (s1:(List (List Int)) × Int):Option (((List (List Int)) × Int) ⊕ (List (List Int))) :=
 cond (decide (s1.2 < (r1.length:Int))) (
  (ixO r1 s1.2).bind fun v2 =>
  (f_z v2).bind fun r3 =>
  cond (decide (r3 ≥ x2)) (
   (ixO r1 s1.2).bind fun v4 =>
   (zT v4 x2 v4.length).bind fun v5 =>
   (f_q v5).bind fun r6 =>
   (xQ s1.1 [r6]).bind fun v7 =>
   (rng (s1.2 + 1)).bind fun v8 =>
   some (.inl (v7,v8))) (
   (rng (s1.2 + 1)).bind fun v9 =>
   some (.inl (s1.1,v9)))) (
  some (.inr s1.1))
def zS8 (x0:Int) (x1:List (List Int)) (x2:Int):Option (List (List Int)) :=
 (zRe x0 x1).bind fun r1 =>
 (zG (zH2 x2 r1) ([],0)).bind fun r10 =>
 some r10
def zS9 (x0:SPr):Option Int :=
 (rng ((x0.zA.length:Int) - 1)).bind fun v1 =>
 (rng ((x0.zA.length:Int) * v1)).bind fun v2 =>
 (tM v2 2).bind fun v3 =>
 (rng ((x0.zA.length:Int) + v3)).bind fun v4 =>
 some v4
def zUQ (x0:Int) (x1:Int) (x2:Int):Option Int :=
 (rng (x1 * x0)).bind fun v1 =>
 (rng (x0 + v1)).bind fun v2 =>
 (rng (x1 + 1)).bind fun v3 =>
 (rng (x1 * v3)).bind fun v4 =>
 (tM v4 2).bind fun v5 =>
 (rng (v2 - v5)).bind fun v6 =>
 (rng (v6 + x2)).bind fun v7 =>
 (rng (v7 - x1)).bind fun v8 =>
 (rng (v8 - 1)).bind fun v9 =>
 some v9
def zSA (x0:SPr):Option Int :=
 (rng ((x0.zA.length:Int) + 1)).bind fun v1 =>
 (rng ((x0.zA.length:Int) * v1)).bind fun v2 =>
 (tM v2 2).bind fun v3 =>
 some v3
def zNN (x0:List Int) (x1:Int) (s1:(List (List Int)) × Int):Option (((List (List Int)) × Int) ⊕ (List (List Int))) :=
 cond (decide (s1.2 < (x0.length:Int))) (
  (rng (s1.2 + x1)).bind fun v1 =>
  (zT x0 s1.2 v1).bind fun v2 =>
  (f_v v2).bind fun r3 =>
  (xQ s1.1 [r3]).bind fun v4 =>
  (rng (s1.2 + x1)).bind fun v5 =>
  some (.inl (v4,v5))) (
  some (.inr s1.1))
def f_T (x0:List Int) (x1:Int):Option (List (List Int)) :=
 (zG (zNN x0 x1) ([],0)).bind fun r6 =>
 some r6
def zNO (x0:List Int) (s6:(List (List Int)) × Int):Option (((List (List Int)) × Int) ⊕ (List (List Int))) :=
 cond (decide (s6.2 < (x0.length:Int))) (
  (zIu (x0.length:Int) s6.2).bind fun r5 =>
  (xQ s6.1 [r5]).bind fun v6 =>
  (rng (s6.2 + 1)).bind fun v7 =>
  some (.inl (v6,v7))) (
  some (.inr s6.1))
def zNP (x0:List Int) (s5:(List (List Int)) × (List (List (List Int))) × Int):Option (((List (List Int)) × (List (List (List Int))) × Int) ⊕ ((List (List Int)) × (List (List (List Int))))) :=
 cond (decide (s5.2.2 < (x0.length:Int))) (
  (yW (x0.length:Int)).bind fun m2 =>
  (xQ s5.1 [List.replicate m2 (0:Int)]).bind fun v3 =>
  (rng (s5.2.2 + 1)).bind fun v4 =>
  (zG (zNO x0) ([],v4)).bind fun r8 =>
  (xQ s5.2.1 [r8]).bind fun v9 =>
  (rng (s5.2.2 + 1)).bind fun v10 =>
  some (.inl (v3,v9,v10))) (
  some (.inr (s5.1,s5.2.1)))
def f_x (x0:List Int):Option SPr :=
 (f_v x0).bind fun r1 =>
 (zG (zNP x0) ([],[],0)).bind fun r11 =>
 some (SPr.mk r1 r11.1 r11.2)
def zNQ (x0:SPr) (x2:List (List Int)) (s1:(List (List Int)) × Int × Int):Option (((List (List Int)) × Int × Int) ⊕ ((List (List Int)) × Int)) :=
 cond (decide (s1.2.2 < (x0.zV.length:Int))) (
  (ixO x0.zV s1.2.2).bind fun v5 =>
  (ixO x2 s1.2.1).bind fun v6 =>
  (f_r [v5,v6]).bind fun r7 =>
  (ixO s1.1 s1.2.2).bind fun _ =>
  (rng (s1.2.1 + 1)).bind fun v9 =>
  (rng (s1.2.2 + 1)).bind fun v10 =>
  some (.inl (s1.1.set s1.2.2.toNat r7,v9,v10))) (
  some (.inr (s1.1,s1.2.1)))
def zNR (x2:List (List Int)) (s11:(List (List (List Int))) × Int × Int) (v12:List (List Int)) (s12:(List (List (List Int))) × Int × Int):Option (((List (List (List Int))) × Int × Int) ⊕ ((List (List (List Int))) × Int)) :=
 cond (decide (s12.2.2 < (v12.length:Int))) (
  (ixO v12 s12.2.2).bind fun v13 =>
  (ixO s12.1 s11.2.2).bind fun v14 =>
  (ixO x2 s12.2.1).bind fun v15 =>
  (f_r [v13,v15]).bind fun r16 =>
  (ixO v14 s12.2.2).bind fun _ =>
  (rng (s12.2.1 + 1)).bind fun v18 =>
  (rng (s12.2.2 + 1)).bind fun v19 =>
  some (.inl (s12.1.set s11.2.2.toNat (v14.set s12.2.2.toNat r16),v18,v19))) (
  some (.inr (s12.1,s12.2.1)))
def zNS (x0:SPr) (s11:(List (List (List Int))) × Int × Int) (v21:List (List Int)) (s14:(List (List (List Int))) × Int):Option (((List (List (List Int))) × Int) ⊕ (List (List (List Int)))) :=
 cond (decide (s14.2 < (v21.length:Int))) (
  (ixO v21 s14.2).bind fun v22 =>
  (ixO s14.1 s11.2.2).bind fun v23 =>
  (rng ((x0.zA.length:Int) - 1)).bind fun v24 =>
  (rng (v24 - s11.2.2)).bind fun v25 =>
  (rng (v25 + s14.2)).bind fun v26 =>
  (zQV v22 (x0.zA.length:Int) 0).bind fun r27 =>
  (ixO v23 v26).bind fun _ =>
  (rng (s14.2 + 1)).bind fun v29 =>
  some (.inl (s14.1.set s11.2.2.toNat (v23.set v26.toNat r27),v29))) (
  some (.inr s14.1))
def zNT (x0:SPr) (x1:zD) (x2:List (List Int)) (s11:(List (List (List Int))) × Int × Int):Option (((List (List (List Int))) × Int × Int) ⊕ (List (List (List Int)))) :=
 cond (decide (s11.2.2 < (x0.zA.length:Int))) (
  (ixO x0.zB s11.2.2).bind fun v12 =>
  (zG (zNR x2 s11 v12) (s11.1,s11.2.1,0)).bind fun r20 =>
  (ixO x1.zI s11.2.2).bind fun v21 =>
  (zG (zNS x0 s11 v21) (r20.1,0)).bind fun r30 =>
  (rng (s11.2.2 + 1)).bind fun v31 =>
  some (.inl (r30,r20.2,v31))) (
  some (.inr s11.1))
def f_j (x0:SPr) (x1:zD) (x2:List (List Int)):Option SPr :=
 (f_v x0.zA).bind fun r1 =>
 (f_i [x1.Prime] x1.Dim).bind fun r2 =>
 (xQ r1 r2).bind fun v3 =>
 (f_x v3).bind fun r4 =>
 (zG (zNQ x0 x2) (r4.zV,0,0)).bind fun r11 =>
 (zG (zNT x0 x1 x2) (r4.zB,r11.2,0)).bind fun r32 =>
 some (SPr.mk r4.zA r11.1 r32)
def zKl (x0:zD) (x1:List (List Int)) (s1:Int):Option (Int ⊕ (Unit ⊕ Bool)) :=
 cond (decide (s1 < (x1.length:Int))) (
  (ixO x1 s1).bind fun v1 =>
  (zQp x0.Prime x0.Dim v1).bind fun r2 =>
  cond (!r2) (
   some (.inr (.inr false))) (
   (rng (s1 + 1)).bind fun v3 =>
   some (.inl v3))) (
  some (.inr (.inl ())))
def zUR (x0:zD) (x1:List (List Int)):Option Bool :=
 (zG (zKl x0 x1) 0).bind fun r4 =>
 match r4 with
 | (.inl r4) =>
  some true
 | (.inr r4) =>
  some r4
def zKm (x0:zD) (x1:List (List Int)) (x2:List Int) (x3:Int):Option (List Int) :=
 (ixO x0.zI x3).bind fun v1 =>
 (f_D x0.Prime x2 v1 x0.Dim).bind fun r2 =>
 (ixO x1 x3).bind fun v3 =>
 (f_s x0.Prime r2 1 v3).bind fun r4 =>
 some r4
def zRf (x0:zD) (x1:List (List Int)) (x3:List Int) (s5:(List Int) × Int) (s6:(List Int) × Int):Option (((List Int) × Int) ⊕ (List Int)) :=
 (ixO x3 s5.2).bind fun v1 =>
 cond (decide (s6.2 < v1)) (
  (zKm x0 x1 s6.1 s5.2).bind fun r2 =>
  (rng (s6.2 + 1)).bind fun v3 =>
  some (.inl (r2,v3))) (
  some (.inr s6.1))
def zRg (x0:zD) (x1:List (List Int)) (x3:List Int) (s5:(List Int) × Int):Option (((List Int) × Int) ⊕ (List Int)) :=
 cond (decide (s5.2 < (x3.length:Int))) (
  (zG (zRf x0 x1 x3 s5) (s5.1,0)).bind fun r4 =>
  (rng (s5.2 + 1)).bind fun v5 =>
  some (.inl (r4,v5))) (
  some (.inr s5.1))
def f_I (x0:zD) (x1:List (List Int)) (x2:List Int) (x3:List Int):Option (List Int) :=
 (zG (zRg x0 x1 x3) (x2,0)).bind fun r6 =>
 some r6
def zT8 (x0:List Int) (s1:Int):Option (Int ⊕ (Unit ⊕ Bool)) :=
 cond (decide (s1 < (x0.length:Int))) (
  (ixO x0 s1).bind fun v1 =>
  cond (v1 != 0) (
   some (.inr (.inr false))) (
   (rng (s1 + 1)).bind fun v2 =>
   some (.inl v2))) (
  some (.inr (.inl ())))
def zRh (x0:List Int):Option Bool :=
 (zG (zT8 x0) 0).bind fun r3 =>
 match r3 with
 | (.inl r3) =>
  some true
 | (.inr r3) =>
  some r3
def zMU (x0:zD) (x1:List (List Int)) (s1:Int):Option (Int ⊕ (Unit ⊕ Bool)) :=
 cond (decide (s1 < (x1.length:Int))) (
  (ixO x1 s1).bind fun v1 =>
  (zQG v1 x0.Prime x0.Dim).bind fun r2 =>
  cond (!r2) (
   some (.inr (.inr false))) (
   (rng (s1 + 1)).bind fun v3 =>
   some (.inl v3))) (
  some (.inr (.inl ())))
def zUS (x0:zD) (x1:List (List Int)):Option Bool :=
 (zG (zMU x0 x1) 0).bind fun r4 =>
 match r4 with
 | (.inl r4) =>
  some true
 | (.inr r4) =>
  some r4
def zKn (x0:zD) (x1:List (List Int)) (x2:List Int) (s1:(List Int) × Int):Option (((List Int) × Int) ⊕ (List Int)) :=
 cond (decide (s1.2 < (x2.length:Int))) (
  (ixO x2 s1.2).bind fun v2 =>
  (rng (v2 - 1)).bind fun v3 =>
  (zL6 x0 v3).bind fun r4 =>
  (zQN s1.1 r4).bind fun r5 =>
  (rng (v2 - 1)).bind fun v6 =>
  (ixO x1 v6).bind fun v7 =>
  (f_w r5 v7 1 x0.Prime).bind fun r8 =>
  (rng (s1.2 + 1)).bind fun v9 =>
  some (.inl (r8,v9))) (
  some (.inr s1.1))
def zRi (x0:zD) (x1:List (List Int)) (x2:List Int):Option (List Int) :=
 (yW x0.Dim).bind fun m1 =>
 (zG (zKn x0 x1 x2) (List.replicate m1 (0:Int),0)).bind fun r10 =>
 some r10
def zKo (x1:zD) (x2:List (List Int)) (r1:(List ((List Int) × (List Int)))) (s1:(List (List Int)) × Int):Option (((List (List Int)) × Int) ⊕ (List (List Int))) :=
 cond (decide (s1.2 < (r1.length:Int))) (
  (ixO r1 s1.2).bind fun v2 =>
  (zRi x1 x2 v2.1).bind fun r3 =>
  (zRi x1 x2 v2.2).bind fun r4 =>
  (f_w r3 r4 (-1) x1.Prime).bind fun r5 =>
  (xQ s1.1 [r5]).bind fun v6 =>
  (rng (s1.2 + 1)).bind fun v7 =>
  some (.inl (v6,v7))) (
  some (.inr s1.1))
def zSB (x0:SPr) (x1:zD) (x2:List (List Int)):Option (List (List Int)) :=
 (f_u x0).bind fun r1 =>
 (zG (zKo x1 x2 r1) ([],0)).bind fun r8 =>
 some r8
def zRj (x0:SPr) (x1:zD) (x2:List (List Int)):Option Bool :=
 (zS9 x0).bind fun r1 =>
 cond ((x2.length:Int) == r1) (
  (zUR x1 x2).bind fun r2 =>
  some r2) (
  some false)
def zKp (x0:zO):Option zE :=
 cond (decide ((x0.zKw.length:Int) > 0)) (
  (ixO x0.zKw 0).bind fun v1 =>
  (yW (x0.p.zA.length:Int)).bind fun m2 =>
  (yW (v1.length:Int)).bind fun m3 =>
  some (zE.mk (List.replicate m2 (0:Int)) (List.replicate m3 (0:Int)))) (
  (yW (x0.p.zA.length:Int)).bind fun m4 =>
  (yW 0).bind fun m5 =>
  some (zE.mk (List.replicate m4 (0:Int)) (List.replicate m5 (0:Int))))
def f_U (x0:zO) (x1:Int) (x2:Int):Option zE :=
 (ixO x0.p.zB x1).bind fun v1 =>
 (rng (x2 - x1)).bind fun v2 =>
 (rng (v2 - 1)).bind fun v3 =>
 (ixO v1 v3).bind fun v4 =>
 (zUQ (x0.p.zA.length:Int) x1 x2).bind fun r5 =>
 (ixO x0.zKw r5).bind fun v6 =>
 some (zE.mk v4 v6)
def zH3 (x0:zD) (x1:List Int) (x2:Int) (s1:(List Int) × Int):Option (((List Int) × Int) ⊕ (List Int)) :=
 cond (decide (s1.2 < (x1.length:Int))) (
  (rng (s1.2 + x0.Dim)).bind fun v1 =>
  (zT x1 s1.2 v1).bind fun v2 =>
  (ixO x0.zI x2).bind fun v3 =>
  (f_D x0.Prime v2 v3 x0.Dim).bind fun r4 =>
  (xQ s1.1 r4).bind fun v5 =>
  (rng (s1.2 + x0.Dim)).bind fun v6 =>
  some (.inl (v5,v6))) (
  some (.inr s1.1))
def zSC (x0:zD) (x1:List Int) (x2:Int):Option (List Int) :=
 (zG (zH3 x0 x1 x2) ([],0)).bind fun r7 =>
 some r7
def zL9 (x0:zO) (x1:Int):Option zE :=
 (ixO x0.p.zV x1).bind fun v1 =>
 (ixO x0.zKw x1).bind fun v2 =>
 some (zE.mk v1 v2)
def zSD (g_d:zO → Int → zE → zE → Option zE) (x0:zO) (x1:Int) (x2:zE) (s5:(List Int) × (List Int) × Int) (s6:(List Int) × (List Int) × Int):Option (((List Int) × (List Int) × Int) ⊕ ((List Int) × (List Int))) :=
 (ixO x2.x s5.2.2).bind fun v3 =>
 cond (decide (s6.2.2 < v3)) (
  (rng (x1 + 1)).bind fun v4 =>
  (f_U x0 x1 s5.2.2).bind fun r5 =>
  (g_d x0 v4 (zE.mk s6.1 s6.2.1) r5).bind fun r6 =>
  (rng (s6.2.2 + 1)).bind fun v7 =>
  some (.inl (r6.x,r6.v,v7))) (
  some (.inr (s6.1,s6.2.1)))
def zRk (g_d:zO → Int → zE → zE → Option zE) (x0:zO) (x1:Int) (x2:zE) (s5:(List Int) × (List Int) × Int):Option (((List Int) × (List Int) × Int) ⊕ ((List Int) × (List Int))) :=
 cond (decide (s5.2.2 < (x2.x.length:Int))) (
  (zG (zSD g_d x0 x1 x2 s5) (s5.1,s5.2.1,0)).bind fun r8 =>
  (rng (s5.2.2 + 1)).bind fun v9 =>
  some (.inl (r8.1,r8.2,v9))) (
  some (.inr (s5.1,s5.2.1)))
def b_f (g_d:zO → Int → zE → zE → Option zE) (x0:zO) (x1:Int) (x2:zE):Option zE :=
 (zKp x0).bind fun r1 =>
 (rng (x1 + 1)).bind fun v2 =>
 (zG (zRk g_d x0 x1 x2) (r1.x,r1.v,v2)).bind fun r10 =>
 (zSC x0.m x2.v x1).bind fun r11 =>
 (f_s x0.m.Prime r10.2 1 r11).bind fun r12 =>
 some (zE.mk r10.1 r12)
def zNU (g_f:zO → Int → zE → Option zE) (x0:zO) (x1:Int) (x3:zE) (s1:(List Int) × (List Int) × Int):Option (((List Int) × (List Int) × Int) ⊕ ((List Int) × (List Int))) :=
 (ixO x3.x x1).bind fun v7 =>
 cond (decide (s1.2.2 < v7)) (
  (g_f x0 x1 (zE.mk s1.1 s1.2.1)).bind fun r8 =>
  (rng (s1.2.2 + 1)).bind fun v9 =>
  some (.inl (r8.x,r8.v,v9))) (
  some (.inr (s1.1,s1.2.1)))
def b_d (g_f:zO → Int → zE → Option zE) (g_d:zO → Int → zE → zE → Option zE) (x0:zO) (x1:Int) (x2:zE) (x3:zE):Option zE :=
 cond (decide (x1 ≥ (x0.p.zA.length:Int))) (
  (yW (x0.p.zA.length:Int)).bind fun m1 =>
  (f_s x0.m.Prime x2.v 1 x3.v).bind fun r2 =>
  some (zE.mk (List.replicate m1 (0:Int)) r2)) (
  (f_q x2.x).bind fun r3 =>
  (f_q x3.x).bind fun r4 =>
  (ixO r3 x1).bind fun _ =>
  (ixO r4 x1).bind fun _ =>
  (zG (zNU g_f x0 x1 x3) (r3.set x1.toNat 0,x2.v,0)).bind fun r10 =>
  (rng (x1 + 1)).bind fun v11 =>
  (g_d x0 v11 (zE.mk r10.1 r10.2) (zE.mk (r4.set x1.toNat 0) x3.v)).bind fun r12 =>
  (ixO x2.x x1).bind fun v13 =>
  (ixO x3.x x1).bind fun v14 =>
  (rng (v13 + v14)).bind fun v15 =>
  (ixO x0.p.zA x1).bind fun v16 =>
  cond (decide (v15 ≥ v16)) (
   (ixO x0.p.zA x1).bind fun v17 =>
   (rng (v15 - v17)).bind fun v18 =>
   (rng (x1 + 1)).bind fun v19 =>
   (zL9 x0 x1).bind fun r20 =>
   (g_d x0 v19 r20 r12).bind fun r21 =>
   (f_q r21.x).bind fun r22 =>
   (ixO r22 x1).bind fun _ =>
   some (zE.mk (r22.set x1.toNat v18) r21.v)) (
   (f_q r12.x).bind fun r24 =>
   (ixO r24 x1).bind fun _ =>
   some (zE.mk (r24.set x1.toNat v15) r12.v)))
mutual
def zLA:Nat → zO → Int → zE → Option zE
 | 0 => fun _ _ _ => none
 | n + 1 => b_f (zLB n)
def zLB:Nat → zO → Int → zE → zE → Option zE
 | 0 => fun _ _ _ _ => none
 | n + 1 => b_d (zLA n) (zLB n)
end
def f_f (x0:zO) (x1:Int) (x2:zE):Option zE:=zCq fun n => zLA n x0 x1 x2
def f_d (x0:zO) (x1:Int) (x2:zE) (x3:zE):Option zE:=zCq fun n => zLB n x0 x1 x2 x3
def zKq (x0:zO) (x1:zE) (x2:zE):Option (List Int) :=
 (rng (x0.m.Prime - 1)).bind fun v1 =>
 (f_s x0.m.Prime x1.v v1 x2.v).bind fun r2 =>
 some r2
def zNV (x0:zO) (x1:Int) (s9:(List (List Int)) × Int) (s10:(List Int) × (List Int) × Int):Option (((List Int) × (List Int) × Int) ⊕ ((List Int) × (List Int))) :=
 (ixO x0.p.zA s9.2).bind fun v3 =>
 cond (decide (s10.2.2 < v3)) (
  (rng (x1 + 1)).bind fun v4 =>
  (f_U x0 x1 s9.2).bind fun r5 =>
  (f_d x0 v4 (zE.mk s10.1 s10.2.1) r5).bind fun r6 =>
  (rng (s10.2.2 + 1)).bind fun v7 =>
  some (.inl (r6.x,r6.v,v7))) (
  some (.inr (s10.1,s10.2.1)))
def zNW (x0:zO) (x1:Int) (s9:(List (List Int)) × Int) (s12:(List (List Int)) × Int):Option (((List (List Int)) × Int) ⊕ (List (List Int))) :=
 cond (decide (s12.2 < (x0.p.zA.length:Int))) (
  (f_U x0 x1 s9.2).bind fun r14 =>
  (f_U x0 x1 s12.2).bind fun r15 =>
  (f_U x0 s9.2 s12.2).bind fun r16 =>
  (f_f x0 x1 r16).bind fun r17 =>
  (rng (x1 + 1)).bind fun v18 =>
  (f_d x0 v18 r15 r14).bind fun r19 =>
  (rng (x1 + 1)).bind fun v20 =>
  (f_d x0 v20 r14 r17).bind fun r21 =>
  (zKq x0 r19 r21).bind fun r22 =>
  (xQ s12.1 [r22]).bind fun v23 =>
  (rng (s12.2 + 1)).bind fun v24 =>
  some (.inl (v23,v24))) (
  some (.inr s12.1))
def zRl (x0:zO) (x1:Int) (s9:(List (List Int)) × Int):Option (((List (List Int)) × Int) ⊕ (List (List Int))) :=
 cond (decide (s9.2 < (x0.p.zA.length:Int))) (
  (zKp x0).bind fun r2 =>
  (zG (zNV x0 x1 s9) (r2.x,r2.v,0)).bind fun r8 =>
  (zL9 x0 s9.2).bind fun r9 =>
  (f_f x0 x1 r9).bind fun r10 =>
  (zKq x0 (zE.mk r8.1 r8.2) r10).bind fun r11 =>
  (xQ s9.1 [r11]).bind fun v12 =>
  (rng (s9.2 + 1)).bind fun v13 =>
  (zG (zNW x0 x1 s9) (v12,v13)).bind fun r25 =>
  (rng (s9.2 + 1)).bind fun v26 =>
  some (.inl (r25,v26))) (
  some (.inr s9.1))
def zRm (x0:zO) (x1:Int) (s20:(List Int) × (List Int) × Int):Option (((List Int) × (List Int) × Int) ⊕ ((List Int) × (List Int))) :=
 (ixO x0.p.zA x1).bind fun v35 =>
 cond (decide (s20.2.2 < v35)) (
  (f_f x0 x1 (zE.mk s20.1 s20.2.1)).bind fun r36 =>
  (rng (s20.2.2 + 1)).bind fun v37 =>
  some (.inl (r36.x,r36.v,v37))) (
  some (.inr (s20.1,s20.2.1)))
def zNX (x0:zO) (x1:Int) (r28:zE) (s19:(List (List Int)) × Int):Option (((List (List Int)) × Int) ⊕ (List (List Int))) :=
 cond (decide (s19.2 < (x0.p.zA.length:Int))) (
  (zKp x0).bind fun r33 =>
  (ixO r33.x s19.2).bind fun _ =>
  (zG (zRm x0 x1) (r33.x.set s19.2.toNat 1,r33.v,0)).bind fun r38 =>
  (rng (x1 + 1)).bind fun v39 =>
  (f_d x0 v39 r28 (zE.mk r38.1 r38.2)).bind fun r40 =>
  (rng (x1 + 1)).bind fun v41 =>
  (f_d x0 v41 (zE.mk (r33.x.set s19.2.toNat 1) r33.v) r28).bind fun r42 =>
  (zKq x0 r40 r42).bind fun r43 =>
  (xQ s19.1 [r43]).bind fun v44 =>
  (rng (s19.2 + 1)).bind fun v45 =>
  some (.inl (v44,v45))) (
  some (.inr s19.1))
def f_h (x0:zO) (x1:Int):Option (List (List Int)) :=
 (rng (x1 + 1)).bind fun v1 =>
 (zG (zRl x0 x1) ([],v1)).bind fun r27 =>
 (zL9 x0 x1).bind fun r28 =>
 (f_f x0 x1 r28).bind fun r29 =>
 (zKq x0 r29 r28).bind fun r30 =>
 (xQ r27 [r30]).bind fun v31 =>
 (rng (x1 + 1)).bind fun v32 =>
 (zG (zNX x0 x1 r28) (v31,v32)).bind fun r46 =>
 some r46
def zKr (x0:zO) (s1:(List (List Int)) × Int):Option (((List (List Int)) × Int) ⊕ (List (List Int))) :=
 cond (decide (s1.2 < (x0.p.zA.length:Int))) (
  (f_h x0 s1.2).bind fun r1 =>
  (xQ s1.1 r1).bind fun v2 =>
  (rng (s1.2 + 1)).bind fun v3 =>
  some (.inl (v2,v3))) (
  some (.inr s1.1))
def zSE (x0:zO):Option (List (List Int)) :=
 (zG (zKr x0) ([],0)).bind fun r4 =>
 some r4
def zKs (r1:(List (List Int))) (s1:Int):Option (Int ⊕ (Unit ⊕ Bool)) :=
 cond (decide (s1 < (r1.length:Int))) (
  (ixO r1 s1).bind fun v2 =>
  (zRh v2).bind fun r3 =>
  cond (!r3) (
   some (.inr (.inr false))) (
   (rng (s1 + 1)).bind fun v4 =>
   some (.inl v4))) (
  some (.inr (.inl ())))
def zRn (x0:SPr) (x1:zD) (x2:List (List Int)):Option Bool :=
 (zSE (zO.mk x0 x1 x2)).bind fun r1 =>
 (zG (zKs r1) 0).bind fun r5 =>
 match r5 with
 | (.inl r5) =>
  some true
 | (.inr r5) =>
  some r5
def zSF (x0:SPr) (x1:zD) (x2:List (List Int)):Option Bool :=
 (zSA x0).bind fun r1 =>
 cond ((x2.length:Int) == r1) (
  (zUS x1 x2).bind fun r2 =>
  some r2) (
  some false)
def zSG (x0:SPr) (x1:zD) (x2:List (List Int)):Option Bool :=
 (f_j x0 x1 x2).bind fun r1 =>
 (f_K r1).bind fun r2 =>
 some (r2 == 0)
def zSH (x0:Int):Option Bool :=
 some (x0 != 0)
def zH4 (x0:List Int) (s1:Int):Option (Int ⊕ (Unit ⊕ Int)) :=
 cond (decide (s1 < (x0.length:Int))) (
  (ixO x0 s1).bind fun v1 =>
  (zSH v1).bind fun r2 =>
  cond r2 (
   some (.inr (.inr s1))) (
   (rng (s1 + 1)).bind fun v3 =>
   some (.inl v3))) (
  some (.inr (.inl ())))
def zSI (x0:List Int):Option Int :=
 (zG (zH4 x0) 0).bind fun r4 =>
 match r4 with
 | (.inl r4) =>
  some (-1)
 | (.inr r4) =>
  some r4
def zKt (x0:List (List Int)) (s1:(List Int) × Int):Option (((List Int) × Int) ⊕ (List Int)) :=
 cond (decide (s1.2 < (x0.length:Int))) (
  (ixO x0 s1.2).bind fun v1 =>
  (zSI v1).bind fun r2 =>
  (xQ s1.1 [r2]).bind fun v3 =>
  (rng (s1.2 + 1)).bind fun v4 =>
  some (.inl (v3,v4))) (
  some (.inr s1.1))
def zSJ (x0:List (List Int)):Option (List Int) :=
 (zG (zKt x0) ([],0)).bind fun r5 =>
 some r5
def zNY (x0:zS) (r2:(List Int)) (s1:(List Int) × Int):Option (((List Int) × Int) ⊕ (List Int)) :=
 cond (decide (s1.2 < (r2.length:Int))) (
  (ixO r2 s1.2).bind fun v3 =>
  (ixO x0.Rows s1.2).bind fun v4 =>
  (ixO s1.1 v3).bind fun v5 =>
  (rng (0 - v5)).bind fun v6 =>
  (f_w s1.1 v4 v6 x0.Prime).bind fun r7 =>
  (rng (s1.2 + 1)).bind fun v8 =>
  some (.inl (r7,v8))) (
  some (.inr s1.1))
def f_Y (x0:zS) (x1:List Int):Option (List Int) :=
 (f_v x1).bind fun r1 =>
 (zSJ x0.Rows).bind fun r2 =>
 (zG (zNY x0 r2) (r1,0)).bind fun r9 =>
 some r9
def zRo (x0:List (List Int)) (s1:(List Int) × Int):Option (((List Int) × Int) ⊕ (List Int)) :=
 cond (decide (s1.2 < (x0.length:Int))) (
  (ixO x0 s1.2).bind fun v1 =>
  (xQ s1.1 v1).bind fun v2 =>
  (rng (s1.2 + 1)).bind fun v3 =>
  some (.inl (v2,v3))) (
  some (.inr s1.1))
def f_X (x0:List (List Int)):Option (List Int) :=
 (zG (zRo x0) ([],0)).bind fun r4 =>
 some r4
def zH5 (x2:Int) (r2:(List (List Int))) (s1:(List (List Int)) × Int):Option (((List (List Int)) × Int) ⊕ (List (List Int))) :=
 cond (decide (s1.2 < (r2.length:Int))) (
  (ixO r2 s1.2).bind fun v3 =>
  (zT v3 0 x2).bind fun v4 =>
  (f_C v4).bind fun r5 =>
  cond r5 (
   (zT v3 x2 v3.length).bind fun v6 =>
   (xQ s1.1 [v6]).bind fun v7 =>
   (rng (s1.2 + 1)).bind fun v8 =>
   some (.inl (v7,v8))) (
   (rng (s1.2 + 1)).bind fun v9 =>
   some (.inl (s1.1,v9)))) (
  some (.inr s1.1))
def zSK (x0:Int) (x1:List (List Int)) (x2:Int):Option (List (List Int)) :=
 (f_Z x1).bind fun r1 =>
 (f_g x0 r1).bind fun r2 =>
 (zG (zH5 x2 r2) ([],0)).bind fun r10 =>
 (f_g x0 r10).bind fun r11 =>
 some r11
def zNZ (x0:List Int) (x1:Int) (s1:(List (List Int)) × Int):Option (((List (List Int)) × Int) ⊕ (List (List Int))) :=
 (rng (s1.2 + x1)).bind fun v1 =>
 cond (decide (v1 ≤ (x0.length:Int))) (
  (rng (s1.2 + x1)).bind fun v2 =>
  (zT x0 s1.2 v2).bind fun v3 =>
  (f_q v3).bind fun r4 =>
  (xQ s1.1 [r4]).bind fun v5 =>
  (rng (s1.2 + x1)).bind fun v6 =>
  some (.inl (v5,v6))) (
  some (.inr s1.1))
def f_N (x0:List Int) (x1:Int):Option (List (List Int)) :=
 (zG (zNZ x0 x1) ([],0)).bind fun r7 =>
 some r7
def zRp (x0:SPr) (x1:zD) (x2:List (List Int)) (s5:(List (List Int)) × Int) (s6:(List Int) × Int):Option (((List Int) × Int) ⊕ (List Int)) :=
 (ixO x0.zA s5.2).bind fun v2 =>
 cond (decide (s6.2 < v2)) (
  (zKm x1 x2 s6.1 s5.2).bind fun r3 =>
  (rng (s6.2 + 1)).bind fun v4 =>
  some (.inl (r3,v4))) (
  some (.inr s6.1))
def zRq (x0:SPr) (x1:zD) (x2:List (List Int)) (m1:Nat) (s5:(List (List Int)) × Int):Option (((List (List Int)) × Int) ⊕ (List (List Int))) :=
 cond (decide (s5.2 < (x0.zA.length:Int))) (
  (zG (zRp x0 x1 x2 s5) (List.replicate m1 (0:Int),0)).bind fun r5 =>
  (rng (x1.Prime - 1)).bind fun v6 =>
  (ixO x0.zV s5.2).bind fun v7 =>
  (f_I x1 x2 (List.replicate m1 (0:Int)) v7).bind fun r8 =>
  (f_s x1.Prime r5 v6 r8).bind fun r9 =>
  (xQ s5.1 [r9]).bind fun v10 =>
  (rng (s5.2 + 1)).bind fun v11 =>
  some (.inl (v10,v11))) (
  some (.inr s5.1))
def zRr (x0:SPr) (x1:zD) (x2:List (List Int)) (m1:Nat) (s13:(List (List Int)) × Int) (s14:(List (List Int)) × Int):Option (((List (List Int)) × Int) ⊕ (List (List Int))) :=
 cond (decide (s14.2 < (x0.zA.length:Int))) (
  (zKm x1 x2 (List.replicate m1 (0:Int)) s14.2).bind fun r14 =>
  (zKm x1 x2 r14 s13.2).bind fun r15 =>
  (zKm x1 x2 (List.replicate m1 (0:Int)) s13.2).bind fun r16 =>
  (ixO x0.zB s13.2).bind fun v17 =>
  (rng (s14.2 - s13.2)).bind fun v18 =>
  (rng (v18 - 1)).bind fun v19 =>
  (ixO v17 v19).bind fun v20 =>
  (f_I x1 x2 r16 v20).bind fun r21 =>
  (rng (x1.Prime - 1)).bind fun v22 =>
  (f_s x1.Prime r15 v22 r21).bind fun r23 =>
  (xQ s14.1 [r23]).bind fun v24 =>
  (rng (s14.2 + 1)).bind fun v25 =>
  some (.inl (v24,v25))) (
  some (.inr s14.1))
def zOa (x0:SPr) (x1:zD) (x2:List (List Int)) (m1:Nat) (s13:(List (List Int)) × Int):Option (((List (List Int)) × Int) ⊕ (List (List Int))) :=
 cond (decide (s13.2 < (x0.zA.length:Int))) (
  (rng (s13.2 + 1)).bind fun v13 =>
  (zG (zRr x0 x1 x2 m1 s13) (s13.1,v13)).bind fun r26 =>
  (rng (s13.2 + 1)).bind fun v27 =>
  some (.inl (r26,v27))) (
  some (.inr s13.1))
def f_n (x0:SPr) (x1:zD) (x2:List (List Int)):Option (List (List Int)) :=
 (yW x1.Dim).bind fun m1 =>
 (zG (zRq x0 x1 x2 m1) ([],0)).bind fun r12 =>
 (zG (zOa x0 x1 x2 m1) (r12,0)).bind fun r28 =>
 some r28
def zKu (x0:SPr) (x1:zD) (v1:Int) (s1:(List (List Int)) × Int):Option (((List (List Int)) × Int) ⊕ (List (List Int))) :=
 cond (decide (s1.2 < v1)) (
  (yW v1).bind fun m2 =>
  (ixO (List.replicate m2 (0:Int)) s1.2).bind fun _ =>
  (f_N ((List.replicate m2 (0:Int)).set s1.2.toNat 1) x1.Dim).bind fun r4 =>
  (f_n x0 x1 r4).bind fun r5 =>
  (f_X r5).bind fun r6 =>
  (xQ s1.1 [r6]).bind fun v7 =>
  (rng (s1.2 + 1)).bind fun v8 =>
  some (.inl (v7,v8))) (
  some (.inr s1.1))
def zSL (x0:SPr) (x1:zD):Option (List (List Int)) :=
 (rng ((x0.zA.length:Int) * x1.Dim)).bind fun v1 =>
 (zG (zKu x0 x1 v1) ([],0)).bind fun r9 =>
 some r9
def zKv (x0:SPr) (x1:zD) (v1:Int) (s1:(List (List Int)) × Int):Option (((List (List Int)) × Int) ⊕ (List (List Int))) :=
 cond (decide (s1.2 < v1)) (
  (zIu v1 s1.2).bind fun r2 =>
  (f_T r2 x1.Dim).bind fun r3 =>
  (zSB x0 x1 r3).bind fun r4 =>
  (f_r r4).bind fun r5 =>
  (xQ s1.1 [r5]).bind fun v6 =>
  (rng (s1.2 + 1)).bind fun v7 =>
  some (.inl (v6,v7))) (
  some (.inr s1.1))
def zSM (x0:SPr) (x1:zD):Option (List (List Int)) :=
 (rng ((x0.zA.length:Int) * x1.Dim)).bind fun v1 =>
 (zG (zKv x0 x1 v1) ([],0)).bind fun r8 =>
 some r8
def zSN (x0:SPr) (x1:zD) (x2:List (List Int)) (x3:List (List Int)):Option Int :=
 (zSv x0 x1).bind fun r1 =>
 cond (!r1) (
  some 1) (
  (zRj x0 x1 x2).bind fun r2 =>
  cond (!r2) (
   some 1) (
   (zRj x0 x1 x3).bind fun r3 =>
   cond (!r3) (
    some 1) (
    (zRn x0 x1 x2).bind fun r4 =>
    cond (!r4) (
     some 5) (
     (zRn x0 x1 x3).bind fun r5 =>
     cond (!r5) (
      some 5) (
      some 0)))))
def zRs (x0:SPr) (x1:zD) (x2:List (List (List Int))) (s1:Int):Option (Int ⊕ (Unit ⊕ Int)) :=
 cond (decide (s1 < (x2.length:Int))) (
  (ixO x2 s1).bind fun v2 =>
  (zSF x0 x1 v2).bind fun r3 =>
  cond (!r3) (
   some (.inr (.inr 1))) (
   (rng (s1 + 1)).bind fun v4 =>
   some (.inl v4))) (
  some (.inr (.inl ())))
def zRt (x0:SPr) (x1:zD) (x2:List (List (List Int))) (s3:Int):Option (Int ⊕ (Unit ⊕ Int)) :=
 cond (decide (s3 < (x2.length:Int))) (
  (ixO x2 s3).bind fun v6 =>
  (zSG x0 x1 v6).bind fun r7 =>
  cond (!r7) (
   some (.inr (.inr 5))) (
   (rng (s3 + 1)).bind fun v8 =>
   some (.inl v8))) (
  some (.inr (.inl ())))
def f_J (x0:SPr) (x1:zD) (x2:List (List (List Int))):Option Int :=
 (f_B x0 x1).bind fun r1 =>
 cond (!r1) (
  some 1) (
  (zG (zRs x0 x1 x2) 0).bind fun r5 =>
  match r5 with
  | (.inl r5) =>
   (zG (zRt x0 x1 x2) 0).bind fun r9 =>
   match r9 with
   | (.inl r9) =>
    some 0
   | (.inr r9) =>
    some r9
  | (.inr r5) =>
   some r5)
def zOb (x2:Int) (r1:(List (List Int))) (s1:(List (List Int)) × Int):Option (((List (List Int)) × Int) ⊕ (List (List Int))) :=
 cond (decide (s1.2 < (r1.length:Int))) (
  (ixO r1 s1.2).bind fun v4 =>
  (f_z v4).bind fun r5 =>
  cond (decide (r5 < x2)) (
   (ixO r1 s1.2).bind fun v6 =>
   (xQ s1.1 [v6]).bind fun v7 =>
   (rng (s1.2 + 1)).bind fun v8 =>
   some (.inl (v7,v8))) (
   (rng (s1.2 + 1)).bind fun v9 =>
   some (.inl (s1.1,v9)))) (
  some (.inr s1.1))
def f_M (x0:Int) (x1:List (List Int)) (x2:Int) (x3:List Int):Option ((List Int) × Bool) :=
 (zRe x0 x1).bind fun r1 =>
 (f_q x3).bind fun r2 =>
 (vN r2 (x1.length:Int) (0:Int)).bind fun v3 =>
 (zG (zOb x2 r1) ([],0)).bind fun r10 =>
 (f_W x0 r10 v3).bind fun r11 =>
 (zT r11 0 x2).bind fun v12 =>
 (zRh v12).bind fun r13 =>
 cond (!r13) (
  some ([],false)) (
  (rng (x0 - 1)).bind fun v14 =>
  (zT r11 x2 r11.length).bind fun v15 =>
  (zNL x0 v14 v15).bind fun r16 =>
  (zS8 x0 x1 x2).bind fun r17 =>
  (f_W x0 r17 r16).bind fun r18 =>
  some (r18,true))
def zUT (x0:Int) (x1:List (List Int)):Option zS :=
 (ixO x1 0).bind fun v1 =>
 some (zS.mk x0 (v1.length:Int) x1)
def zSO (x0:Int):Option Bool :=
 some (x0 != 0)
def zH6 (x0:List Int) (s1:Int):Option (Int ⊕ (Unit ⊕ Int)) :=
 cond (decide (s1 < (x0.length:Int))) (
  (ixO x0 s1).bind fun v1 =>
  (zSO v1).bind fun r2 =>
  cond r2 (
   some (.inr (.inr s1))) (
   (rng (s1 + 1)).bind fun v3 =>
   some (.inl v3))) (
  some (.inr (.inl ())))
def zSP (x0:List Int):Option Int :=
 (zG (zH6 x0) 0).bind fun r4 =>
 match r4 with
 | (.inl r4) =>
  some (-1)
 | (.inr r4) =>
  some r4
def zUU (x0:zS):Option zS :=
 (zSK x0.Prime x0.Rows x0.xR).bind fun r1 =>
 some (zS.mk x0.Prime (x0.Rows.length:Int) r1)
def zOc (x0:zS) (r4:(List (List Int))) (s1:(List Int) × Int):Option (((List Int) × Int) ⊕ (List Int)) :=
 cond (decide (s1.2 < (r4.length:Int))) (
  (ixO r4 s1.2).bind fun v5 =>
  (zSP v5).bind fun r6 =>
  cond (decide (r6 < x0.xR)) (
   (ixO s1.1 r6).bind fun v7 =>
   (rng (0 - v7)).bind fun v8 =>
   (f_w s1.1 v5 v8 x0.Prime).bind fun r9 =>
   (rng (s1.2 + 1)).bind fun v10 =>
   some (.inl (r9,v10))) (
   (rng (s1.2 + 1)).bind fun v11 =>
   some (.inl (s1.1,v11)))) (
  some (.inr s1.1))
def zOd (x0:zS) (r12:(List Int)) (s3:(List Int) × Int):Option (((List Int) × Int) ⊕ (List Int)) :=
 cond (decide (s3.2 < (((r12.length:Int).toNat - (x0.xR:Int).toNat:Nat):Int))) (
  (zT s3.1 x0.xR r12.length).bind fun v16 =>
  (ixO v16 s3.2).bind fun v17 =>
  (rng (0 - v17)).bind fun v18 =>
  (zGG v18 x0.Prime).bind fun r19 =>
  (zT s3.1 x0.xR r12.length).bind fun v20 =>
  (ixO v20 s3.2).bind fun _ =>
  (rng (s3.2 + 1)).bind fun v22 =>
  some (.inl (s3.1.set (x0.xR + s3.2).toNat r19,v22))) (
  some (.inr s3.1))
def f_y (x0:zS) (x1:List Int):Option ((List Int) × Bool) :=
 (f_v x1).bind fun r1 =>
 (vN r1 (x0.Rows.length:Int) (0:Int)).bind fun v2 =>
 (f_Z x0.Rows).bind fun r3 =>
 (f_g x0.Prime r3).bind fun r4 =>
 (zG (zOc x0 r4) (v2,0)).bind fun r12 =>
 (zT r12 0 x0.xR).bind fun v13 =>
 (f_C v13).bind fun r14 =>
 cond (!r14) (
  some ([],false)) (
  (zT r12 x0.xR r12.length).bind fun _ =>
  (zG (zOd x0 r12) (r12,0)).bind fun r23 =>
  (zUU x0).bind fun r24 =>
  (zT r23 x0.xR r12.length).bind fun v25 =>
  (f_Y r24 v25).bind fun r26 =>
  some (r26,true))
def zRu (x0:SPr) (x1:zD) (x2:List Int):Option ((List (List Int)) × Bool) :=
 cond ((x0.zA.length:Int) == 0) (
  some ([],true)) (
  (yW (x2.length:Int)).bind fun m1 =>
  (f_w (List.replicate m1 (0:Int)) x2 (-1) x1.Prime).bind fun r2 =>
  (zSM x0 x1).bind fun r3 =>
  (zUT x1.Prime r3).bind fun r4 =>
  (f_y r4 r2).bind fun r5 =>
  cond (!r5.2) (
   some ([],false)) (
   (f_T r5.1 x1.Dim).bind fun r6 =>
   some (r6,true)))
def zSQ (x0:SPr) (x1:zD) (x2:List (List Int)):Option ((List (List Int)) × Bool) :=
 (f_X x2).bind fun r1 =>
 (zSL x0 x1).bind fun r2 =>
 (rng (x1.Prime - 1)).bind fun v3 =>
 (zNL x1.Prime v3 r1).bind fun r4 =>
 (f_M x1.Prime r2 (r1.length:Int) r4).bind fun r5 =>
 cond (!r5.2) (
  some ([],false)) (
  (f_N r5.1 x1.Dim).bind fun r6 =>
  some (r6,true))
def zRv (x0:SPr) (x1:zD) (x2:List (List Int)):Option (Bool × Int) :=
 (zSN x0 x1 x2 x2).bind fun r1 =>
 cond (r1 != 0) (
  some (false,r1)) (
  (zSQ x0 x1 x2).bind fun r2 =>
  some (r2.2,0))
def zRw (x0:SPr) (x1:zD) (x2:List (List Int)):Option (Bool × Int) :=
 (f_J x0 x1 [x2]).bind fun r1 =>
 cond (r1 != 0) (
  some (false,r1)) (
  (f_r x2).bind fun r2 =>
  (zRu x0 x1 r2).bind fun r3 =>
  some (r3.2,0))
def zSR (x0:SPr) (x1:zD) (x2:List (List Int)):Option Bool :=
 (zSm x0 1048576).bind fun r1 =>
 cond (decide (r1 < 0)) (
  some true) (
  (zSn x1 r1).bind fun r2 =>
  cond (decide (r2 < 0)) (
   some true) (
   (zQa x2 r2).bind fun r3 =>
   cond (decide (r3 < 0)) (
    some true) (
    (zNE x0).bind fun r4 =>
    (zNF x1).bind fun r5 =>
    (f_O x2).bind fun r6 =>
    (zRv r4 r5 r6).bind fun r7 =>
    (zNE x0).bind fun r8 =>
    (zNF x1).bind fun r9 =>
    (f_O x2).bind fun r10 =>
    (zRw r8 r9 r10).bind fun r11 =>
    cond (r11.1 != r7.1) (
     some false) (
     cond (r11.2 != r7.2) (
      some false) (
      (zNE x0).bind fun r12 =>
      (zS5 r8 r12).bind fun r13 =>
      cond (!r13) (
       some false) (
       (zNF x1).bind fun r14 =>
       (zS4 r9 r14).bind fun r15 =>
       cond (!r15) (
        some false) (
        (f_O x2).bind fun r16 =>
        (zNJ r10 r16).bind fun r17 =>
        cond (!r17) (
         some false) (
         some true))))))))
end Go.Wk
