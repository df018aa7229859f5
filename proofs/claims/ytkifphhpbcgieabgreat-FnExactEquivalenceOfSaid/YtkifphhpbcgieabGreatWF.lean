/- The program and the reference return the same equivalences of extensions, for all arguments (FnExactEquivalenceOf). This file is a part of the proof. -/
import Derived.Test.YtkifphhpbcgieabGreatAbC
noncomputable section
namespace Go.Wk
open Go Go.Ab
structure SPr where
 zA:List Int
 zU:List (List Int)
 zB:List (List (List Int))
abbrev xS (x:SPr):T:=.agg [(L 1 I) x.zA,(L 1 (L 1 I)) x.zU,(L 1 (L 1 (L 1 I))) x.zB]
instance:Enc xS:=.of fun _ => zPu ⟨Enc.t (f:=(L 1 I)) inferInstance _,Enc.t (f:=(L 1 (L 1 I))) inferInstance _,Enc.t (f:=(L 1 (L 1 (L 1 I)))) inferInstance _,trivial⟩
structure zC where
 Prime:Int
 Dim:Int
 zI:List (List (List Int))
abbrev yB (x:zC):T:=.agg [I x.Prime,I x.Dim,(L 1 (L 1 (L 1 I))) x.zI]
instance:Enc yB:=.of fun _ => zPu ⟨Enc.t (f:=I) inferInstance _,Enc.t (f:=I) inferInstance _,Enc.t (f:=(L 1 (L 1 (L 1 I)))) inferInstance _,trivial⟩
structure yS where
 Kind:Int
 zUm:Int
 zUl:Int
 zSa:Int
abbrev zFm (x:yS):T:=.agg [I x.Kind,I x.zUm,I x.zUl,I x.zSa]
instance:Enc zFm:=.of fun _ => zPu ⟨Enc.t (f:=I) inferInstance _,Enc.t (f:=I) inferInstance _,Enc.t (f:=I) inferInstance _,Enc.t (f:=I) inferInstance _,trivial⟩
structure zV where
 Prime:Int
 xT:Int
 Rows:List (List Int)
abbrev zAJ (x:zV):T:=.agg [I x.Prime,I x.xT,(L 1 (L 1 I)) x.Rows]
instance:Enc zAJ:=.of fun _ => zPu ⟨Enc.t (f:=I) inferInstance _,Enc.t (f:=I) inferInstance _,Enc.t (f:=(L 1 (L 1 I))) inferInstance _,trivial⟩
structure zP where
 p:SPr
 m:zC
 zKG:List (List Int)
structure zE where
 x:List Int
 v:List Int
abbrev yP (x:zE):T:=.agg [(L 1 I) x.x,(L 1 I) x.v]
instance:Enc yP:=.of fun _ => zPu ⟨Enc.t (f:=(L 1 I)) inferInstance _,Enc.t (f:=(L 1 I)) inferInstance _,trivial⟩
def zQ8 (x0:List Int) (x1:Int):Option Int :=
 (rng (x1 - (x0.length:Int))).bind fun v1 =>
 cond (decide (v1 < 0)) (
  some (-1)) (
  some v1)
def zUi (x0:List (List Int)) (s1:Int × Int):Option ((Int × Int) ⊕ (Int ⊕ Int)) :=
 cond (decide (s1.2 < (x0.length:Int))) (
  (ixO x0 s1.2).bind fun v2 =>
  (zQ8 v2 s1.1).bind fun r3 =>
  cond (decide (r3 < 0)) (
   some (.inr (.inr (-1)))) (
   (rng (s1.2 + 1)).bind fun v4 =>
   some (.inl (r3,v4)))) (
  some (.inr (.inl s1.1)))
def zOj (x0:List (List Int)) (x1:Int):Option Int :=
 (rng (x1 - (x0.length:Int))).bind fun v1 =>
 cond (decide (v1 < 0)) (
  some (-1)) (
  (zH (zUi x0) (v1,0)).bind fun r5 =>
  match r5 with
  | (.inl r5) =>
   some r5
  | (.inr r5) =>
   some r5)
def zUj (x0:List (List (List Int))) (s1:Int × Int):Option ((Int × Int) ⊕ (Int ⊕ Int)) :=
 cond (decide (s1.2 < (x0.length:Int))) (
  (ixO x0 s1.2).bind fun v2 =>
  (zOj v2 s1.1).bind fun r3 =>
  cond (decide (r3 < 0)) (
   some (.inr (.inr (-1)))) (
   (rng (s1.2 + 1)).bind fun v4 =>
   some (.inl (r3,v4)))) (
  some (.inr (.inl s1.1)))
def zSL (x0:List (List (List Int))) (x1:Int):Option Int :=
 (rng (x1 - (x0.length:Int))).bind fun v1 =>
 cond (decide (v1 < 0)) (
  some (-1)) (
  (zH (zUj x0) (v1,0)).bind fun r5 =>
  match r5 with
  | (.inl r5) =>
   some r5
  | (.inr r5) =>
   some r5)
def zSM (x0:SPr) (x1:Int):Option Int :=
 (zQ8 x0.zA x1).bind fun r1 =>
 cond (decide (r1 < 0)) (
  some (-1)) (
  (zOj x0.zU r1).bind fun r2 =>
  cond (decide (r2 < 0)) (
   some (-1)) (
   (zSL x0.zB r2).bind fun r3 =>
   cond (decide (r3 < 0)) (
    some (-1)) (
    some r3)))
def zSN (x0:zC) (x1:Int):Option Int :=
 (zSL x0.zI x1).bind fun r1 =>
 cond (decide (r1 < 0)) (
  some (-1)) (
  some r1)
def zQ9 (x0:List Int) (s1:(List Int) × Int):Option (((List Int) × Int) ⊕ (List Int)) :=
 cond (decide (s1.2 < (x0.length:Int))) (
  (ixO x0 s1.2).bind fun v2 =>
  (ixO s1.1 s1.2).bind fun _ =>
  (rng (s1.2 + 1)).bind fun v4 =>
  some (.inl (s1.1.set s1.2.toNat v2,v4))) (
  some (.inr s1.1))
def zOl (x0:List Int):Option (List Int) :=
 (yZ (x0.length:Int)).bind fun m1 =>
 (zH (zQ9 x0) (List.replicate m1 (0:Int),0)).bind fun r5 =>
 some r5
def zVq (x0:List (List Int)) (s1:(List (List Int)) × Int):Option (((List (List Int)) × Int) ⊕ (List (List Int))) :=
 cond (decide (s1.2 < (x0.length:Int))) (
  (ixO x0 s1.2).bind fun v2 =>
  (zOl v2).bind fun r3 =>
  (ixO s1.1 s1.2).bind fun _ =>
  (rng (s1.2 + 1)).bind fun v5 =>
  some (.inl (s1.1.set s1.2.toNat r3,v5))) (
  some (.inr s1.1))
def f_p (x0:List (List Int)):Option (List (List Int)) :=
 (yZ (x0.length:Int)).bind fun m1 =>
 (zH (zVq x0) (List.replicate m1 ([]:List Int),0)).bind fun r6 =>
 some r6
def zQA (x0:List (List (List Int))) (s1:(List (List (List Int))) × Int):Option (((List (List (List Int))) × Int) ⊕ (List (List (List Int)))) :=
 cond (decide (s1.2 < (x0.length:Int))) (
  (ixO x0 s1.2).bind fun v2 =>
  (f_p v2).bind fun r3 =>
  (ixO s1.1 s1.2).bind fun _ =>
  (rng (s1.2 + 1)).bind fun v5 =>
  some (.inl (s1.1.set s1.2.toNat r3,v5))) (
  some (.inr s1.1))
def zQB (x0:List (List (List Int))):Option (List (List (List Int))) :=
 (yZ (x0.length:Int)).bind fun m1 =>
 (zH (zQA x0) (List.replicate m1 ([]:List (List Int)),0)).bind fun r6 =>
 some r6
def zLM (x0:SPr):Option SPr :=
 (zOl x0.zA).bind fun r1 =>
 (f_p x0.zU).bind fun r2 =>
 (zQB x0.zB).bind fun r3 =>
 some (SPr.mk r1 r2 r3)
def zLN (x0:zC):Option zC :=
 (zQB x0.zI).bind fun r1 =>
 some (zC.mk x0.Prime x0.Dim r1)
def zSO (x0:Int):Option Bool :=
 cond (x0 == 2) (
  some true) (
  cond (x0 == 3) (
   some true) (
   cond (x0 == 5) (
    some true) (
    some (x0 == 7))))
def zKp (x0:List Int) (s1:Int × Int):Option ((Int × Int) ⊕ Int) :=
 cond (decide (s1.2 < (x0.length:Int))) (
  cond (decide (s1.1 ≤ 729)) (
   (ixO x0 s1.2).bind fun v1 =>
   (rng (s1.1 * v1)).bind fun v2 =>
   (rng (s1.2 + 1)).bind fun v3 =>
   some (.inl (v2,v3))) (
   (rng (s1.2 + 1)).bind fun v4 =>
   some (.inl (s1.1,v4)))) (
  some (.inr s1.1))
def zSP (x0:List Int):Option Int :=
 (zH (zKp x0) (1,0)).bind fun r5 =>
 some r5
def zQC (x0:Int) (x1:Int) (x2:Int):Option Bool :=
 cond (decide (x0 ≥ x1)) (
  some (decide (x0 ≤ x2))) (
  some false)
def zNr (x0:List Int) (x1:List Int) (x2:Int) (s1:Int):Option (Int ⊕ (Unit ⊕ Bool)) :=
 cond (decide (s1 < (x1.length:Int))) (
  (ixO x1 s1).bind fun v1 =>
  (ixO x0 s1).bind fun v2 =>
  (rng (v2 - 1)).bind fun v3 =>
  (zQC v1 0 v3).bind fun r4 =>
  cond (!r4) (
   some (.inr (.inr false))) (
   cond (decide (s1 ≤ x2)) (
    (ixO x1 s1).bind fun v5 =>
    cond (v5 != 0) (
     some (.inr (.inr false))) (
     (rng (s1 + 1)).bind fun v6 =>
     some (.inl v6))) (
    (rng (s1 + 1)).bind fun v5 =>
    some (.inl v5)))) (
  some (.inr (.inl ())))
def zQD (x0:List Int) (x1:List Int) (x2:Int):Option Bool :=
 cond ((x1.length:Int) != (x0.length:Int)) (
  some false) (
  (zH (zNr x0 x1 x2) 0).bind fun r6 =>
  match r6 with
  | (.inl r6) =>
   some true
  | (.inr r6) =>
   some r6)
def zQE (x0:SPr) (s1:Int):Option (Int ⊕ (Unit ⊕ Bool)) :=
 cond (decide (s1 < (x0.zA.length:Int))) (
  (ixO x0.zA s1).bind fun v1 =>
  (zSO v1).bind fun r2 =>
  cond (!r2) (
   some (.inr (.inr false))) (
   (rng (s1 + 1)).bind fun v3 =>
   some (.inl v3))) (
  some (.inr (.inl ())))
def zQF (x0:SPr) (s7:Int) (s8:Int):Option (Int ⊕ (Unit ⊕ Bool)) :=
 (ixO x0.zB s7).bind fun v11 =>
 cond (decide (s8 < (v11.length:Int))) (
  (ixO x0.zB s7).bind fun v12 =>
  (ixO v12 s8).bind fun v13 =>
  (zQD x0.zA v13 s7).bind fun r14 =>
  cond (!r14) (
   some (.inr (.inr false))) (
   (rng (s8 + 1)).bind fun v15 =>
   some (.inl v15))) (
  some (.inr (.inl ())))
def zLO (x0:SPr) (s7:Int):Option (Int ⊕ (Unit ⊕ Bool)) :=
 cond (decide (s7 < (x0.zA.length:Int))) (
  (ixO x0.zU s7).bind fun v6 =>
  (zQD x0.zA v6 s7).bind fun r7 =>
  cond (!r7) (
   some (.inr (.inr false))) (
   (ixO x0.zB s7).bind fun v8 =>
   (rng ((x0.zA.length:Int) - 1)).bind fun v9 =>
   (rng (v9 - s7)).bind fun v10 =>
   cond ((v8.length:Int) != v10) (
    some (.inr (.inr false))) (
    (zH (zQF x0 s7) 0).bind fun r16 =>
    match r16 with
    | (.inl r16) =>
     (rng (s7 + 1)).bind fun v17 =>
     some (.inl v17)
    | (.inr r16) =>
     some (.inr (.inr r16))))) (
  some (.inr (.inl ())))
def f_u (x0:SPr):Option Bool :=
 cond (decide ((x0.zA.length:Int) > 6)) (
  some false) (
  cond ((x0.zU.length:Int) != (x0.zA.length:Int)) (
   some false) (
   cond ((x0.zB.length:Int) != (x0.zA.length:Int)) (
    some false) (
    (zH (zQE x0) 0).bind fun r4 =>
    match r4 with
    | (.inl r4) =>
     (zSP x0.zA).bind fun r5 =>
     cond (decide (r5 > 729)) (
      some false) (
      (zH (zLO x0) 0).bind fun r18 =>
      match r18 with
      | (.inl r18) =>
       some true
      | (.inr r18) =>
       some r18)
    | (.inr r4) =>
     some r4)))
def f_t (x0:List Int):Option (List Int) :=
 (xQ [] x0).bind fun v1 =>
 some v1
def zQG (g_a:SPr → Int → (List Int) → (List Int) → Option (List Int)) (x0:SPr) (x1:Int) (x2:List Int) (s5:(List Int) × Int) (s6:(List Int) × Int):Option (((List Int) × Int) ⊕ (List Int)) :=
 (ixO x2 s5.2).bind fun v3 =>
 cond (decide (s6.2 < v3)) (
  (rng (x1 + 1)).bind fun v4 =>
  (ixO x0.zB x1).bind fun v5 =>
  (rng (s5.2 - x1)).bind fun v6 =>
  (rng (v6 - 1)).bind fun v7 =>
  (ixO v5 v7).bind fun v8 =>
  (g_a x0 v4 s6.1 v8).bind fun r9 =>
  (rng (s6.2 + 1)).bind fun v10 =>
  some (.inl (r9,v10))) (
  some (.inr s6.1))
def zQH (g_a:SPr → Int → (List Int) → (List Int) → Option (List Int)) (x0:SPr) (x1:Int) (x2:List Int) (s5:(List Int) × Int):Option (((List Int) × Int) ⊕ (List Int)) :=
 cond (decide (s5.2 < (x0.zA.length:Int))) (
  (zH (zQG g_a x0 x1 x2 s5) (s5.1,0)).bind fun r11 =>
  (rng (s5.2 + 1)).bind fun v12 =>
  some (.inl (r11,v12))) (
  some (.inr s5.1))
def b_e (g_a:SPr → Int → (List Int) → (List Int) → Option (List Int)) (x0:SPr) (x1:Int) (x2:List Int):Option (List Int) :=
 (yZ (x0.zA.length:Int)).bind fun m1 =>
 (rng (x1 + 1)).bind fun v2 =>
 (zH (zQH g_a x0 x1 x2) (List.replicate m1 (0:Int),v2)).bind fun r13 =>
 some r13
def zSQ (g_e:SPr → Int → (List Int) → Option (List Int)) (x0:SPr) (x1:Int) (x3:List Int) (s1:(List Int) × Int):Option (((List Int) × Int) ⊕ (List Int)) :=
 (ixO x3 x1).bind fun v6 =>
 cond (decide (s1.2 < v6)) (
  (g_e x0 x1 s1.1).bind fun r7 =>
  (rng (s1.2 + 1)).bind fun v8 =>
  some (.inl (r7,v8))) (
  some (.inr s1.1))
def b_a (g_e:SPr → Int → (List Int) → Option (List Int)) (g_a:SPr → Int → (List Int) → (List Int) → Option (List Int)) (x0:SPr) (x1:Int) (x2:List Int) (x3:List Int):Option (List Int) :=
 cond (decide (x1 ≥ (x0.zA.length:Int))) (
  (yZ (x0.zA.length:Int)).bind fun m1 =>
  some (List.replicate m1 (0:Int))) (
  (f_t x2).bind fun r2 =>
  (f_t x3).bind fun r3 =>
  (ixO r2 x1).bind fun _ =>
  (ixO r3 x1).bind fun _ =>
  (zH (zSQ g_e x0 x1 x3) (r2.set x1.toNat 0,0)).bind fun r9 =>
  (rng (x1 + 1)).bind fun v10 =>
  (g_a x0 v10 r9 (r3.set x1.toNat 0)).bind fun r11 =>
  (ixO x2 x1).bind fun v12 =>
  (ixO x3 x1).bind fun v13 =>
  (rng (v12 + v13)).bind fun v14 =>
  (ixO x0.zA x1).bind fun v15 =>
  cond (decide (v14 ≥ v15)) (
   (ixO x0.zA x1).bind fun v16 =>
   (rng (v14 - v16)).bind fun v17 =>
   (rng (x1 + 1)).bind fun v18 =>
   (ixO x0.zU x1).bind fun v19 =>
   (g_a x0 v18 v19 r11).bind fun r20 =>
   (f_t r20).bind fun r21 =>
   (ixO r21 x1).bind fun _ =>
   some (r21.set x1.toNat v17)) (
   (f_t r11).bind fun r23 =>
   (ixO r23 x1).bind fun _ =>
   some (r23.set x1.toNat v14)))
mutual
def zLP:Nat → SPr → Int → (List Int) → Option (List Int)
 | 0 => fun _ _ _ => none
 | n + 1 => b_e (zLQ n)
def zLQ:Nat → SPr → Int → (List Int) → (List Int) → Option (List Int)
 | 0 => fun _ _ _ _ => none
 | n + 1 => b_a (zLP n) (zLQ n)
end
def f_e (x0:SPr) (x1:Int) (x2:List Int):Option (List Int):=zC6 fun n => zLP n x0 x1 x2
def f_a (x0:SPr) (x1:Int) (x2:List Int) (x3:List Int):Option (List Int):=zC6 fun n => zLQ n x0 x1 x2 x3
def zNs (x0:SPr) (x1:Int) (s1:Int × (List Int) × (List Int)):Option ((Int × (List Int) × (List Int)) ⊕ (List Int)) :=
 cond (decide (s1.1 > 0)) (
  (uQ s1.1 2).bind fun v2 =>
  cond (v2 == 1) (
   (f_a x0 x1 s1.2.1 s1.2.2).bind fun r3 =>
   (f_a x0 x1 s1.2.2 s1.2.2).bind fun r4 =>
   (tV s1.1 2).bind fun v5 =>
   some (.inl (v5,r3,r4))) (
   (f_a x0 x1 s1.2.2 s1.2.2).bind fun r6 =>
   (tV s1.1 2).bind fun v7 =>
   some (.inl (v7,s1.2.1,r6)))) (
  some (.inr s1.2.1))
def zSR (x0:SPr) (x1:Int) (x2:List Int) (x3:Int):Option (List Int) :=
 (yZ (x0.zA.length:Int)).bind fun m1 =>
 (zH (zNs x0 x1) (x3,List.replicate m1 (0:Int),x2)).bind fun r8 =>
 some r8
def zXn (x0:List Int) (x1:List Int) (s1:Int):Option (Int ⊕ (Unit ⊕ Bool)) :=
 cond (decide (s1 < (x0.length:Int))) (
  (ixO x0 s1).bind fun v1 =>
  (ixO x1 s1).bind fun v2 =>
  cond (v1 != v2) (
   some (.inr (.inr false))) (
   (rng (s1 + 1)).bind fun v3 =>
   some (.inl v3))) (
  some (.inr (.inl ())))
def f_Y (x0:List Int) (x1:List Int):Option Bool :=
 cond ((x0.length:Int) != (x1.length:Int)) (
  some false) (
  (zH (zXn x0 x1) 0).bind fun r4 =>
  match r4 with
  | (.inl r4) =>
   some true
  | (.inr r4) =>
   some r4)
def zVr (x0:Int) (x1:Int):Option (List Int) :=
 (yZ x0).bind fun m1 =>
 (ixO (List.replicate m1 (0:Int)) x1).bind fun _ =>
 some ((List.replicate m1 (0:Int)).set x1.toNat 1)
def zQI (x0:SPr) (x1:Int) (s1:Int):Option (Int ⊕ (Unit ⊕ yS)) :=
 cond (decide (s1 < (x0.zA.length:Int))) (
  (rng (x1 + 1)).bind fun v2 =>
  (ixO x0.zB x1).bind fun v3 =>
  (rng (s1 - x1)).bind fun v4 =>
  (rng (v4 - 1)).bind fun v5 =>
  (ixO v3 v5).bind fun v6 =>
  (ixO x0.zA s1).bind fun v7 =>
  (zSR x0 v2 v6 v7).bind fun r8 =>
  (ixO x0.zU s1).bind fun v9 =>
  (f_e x0 x1 v9).bind fun r10 =>
  (f_Y r8 r10).bind fun r11 =>
  cond (!r11) (
   some (.inr (.inr (yS.mk 1 x1 s1 0)))) (
   (rng (s1 + 1)).bind fun v12 =>
   some (.inl v12))) (
  some (.inr (.inl ())))
def zQJ (x0:SPr) (x1:Int) (s7:Int) (s8:Int):Option (Int ⊕ (Unit ⊕ yS)) :=
 cond (decide (s8 < (x0.zA.length:Int))) (
  (ixO x0.zB x1).bind fun v16 =>
  (rng (s7 - x1)).bind fun v17 =>
  (rng (v17 - 1)).bind fun v18 =>
  (ixO v16 v18).bind fun v19 =>
  (ixO x0.zB x1).bind fun v20 =>
  (rng (s8 - x1)).bind fun v21 =>
  (rng (v21 - 1)).bind fun v22 =>
  (ixO v20 v22).bind fun v23 =>
  (ixO x0.zB s7).bind fun v24 =>
  (rng (s8 - s7)).bind fun v25 =>
  (rng (v25 - 1)).bind fun v26 =>
  (ixO v24 v26).bind fun v27 =>
  (f_e x0 x1 v27).bind fun r28 =>
  (rng (x1 + 1)).bind fun v29 =>
  (f_a x0 v29 v23 v19).bind fun r30 =>
  (rng (x1 + 1)).bind fun v31 =>
  (f_a x0 v31 v19 r28).bind fun r32 =>
  (f_Y r30 r32).bind fun r33 =>
  cond (!r33) (
   some (.inr (.inr (yS.mk 2 x1 s7 s8)))) (
   (rng (s8 + 1)).bind fun v34 =>
   some (.inl v34))) (
  some (.inr (.inl ())))
def zQK (x0:SPr) (x1:Int) (s7:Int):Option (Int ⊕ (Unit ⊕ yS)) :=
 cond (decide (s7 < (x0.zA.length:Int))) (
  (rng (s7 + 1)).bind fun v15 =>
  (zH (zQJ x0 x1 s7) v15).bind fun r35 =>
  match r35 with
  | (.inl r35) =>
   (rng (s7 + 1)).bind fun v36 =>
   some (.inl v36)
  | (.inr r35) =>
   some (.inr (.inr r35))) (
  some (.inr (.inl ())))
def zQL (x0:SPr) (x1:Int) (s16:(List Int) × Int):Option (((List Int) × Int) ⊕ (List Int)) :=
 (ixO x0.zA x1).bind fun v43 =>
 cond (decide (s16.2 < v43)) (
  (f_e x0 x1 s16.1).bind fun r44 =>
  (rng (s16.2 + 1)).bind fun v45 =>
  some (.inl (r44,v45))) (
  some (.inr s16.1))
def zQM (x0:SPr) (x1:Int) (v38:List Int) (s15:Int):Option (Int ⊕ (Unit ⊕ yS)) :=
 cond (decide (s15 < (x0.zA.length:Int))) (
  (zVr (x0.zA.length:Int) s15).bind fun r42 =>
  (zH (zQL x0 x1) (r42,0)).bind fun r46 =>
  (rng (x1 + 1)).bind fun v47 =>
  (f_a x0 v47 v38 r46).bind fun r48 =>
  (rng (x1 + 1)).bind fun v49 =>
  (f_a x0 v49 r42 v38).bind fun r50 =>
  (f_Y r48 r50).bind fun r51 =>
  cond (!r51) (
   some (.inr (.inr (yS.mk 4 x1 s15 0)))) (
   (rng (s15 + 1)).bind fun v52 =>
   some (.inl v52))) (
  some (.inr (.inl ())))
def f_l (x0:SPr) (x1:Int):Option yS :=
 (rng (x1 + 1)).bind fun v1 =>
 (zH (zQI x0 x1) v1).bind fun r13 =>
 match r13 with
 | (.inl r13) =>
  (rng (x1 + 1)).bind fun v14 =>
  (zH (zQK x0 x1) v14).bind fun r37 =>
  match r37 with
  | (.inl r37) =>
   (ixO x0.zU x1).bind fun v38 =>
   (f_e x0 x1 v38).bind fun r39 =>
   (f_Y r39 v38).bind fun r40 =>
   cond (!r40) (
    some (yS.mk 3 x1 0 0)) (
    (rng (x1 + 1)).bind fun v41 =>
    (zH (zQM x0 x1 v38) v41).bind fun r53 =>
    match r53 with
    | (.inl r53) =>
     some (yS.mk 0 0 0 0)
    | (.inr r53) =>
     some r53)
  | (.inr r37) =>
   some r37
 | (.inr r13) =>
  some r13
def zKq (x0:SPr) (s1:Int):Option (Int ⊕ (Unit ⊕ yS)) :=
 cond (decide (s1 ≥ 0)) (
  (f_l x0 s1).bind fun r2 =>
  cond (r2.Kind != 0) (
   some (.inr (.inr r2))) (
   (rng (s1 - 1)).bind fun v3 =>
   some (.inl v3))) (
  some (.inr (.inl ())))
def zVs (x0:SPr):Option yS :=
 (rng ((x0.zA.length:Int) - 1)).bind fun v1 =>
 (zH (zKq x0) v1).bind fun r4 =>
 match r4 with
 | (.inl r4) =>
  some (yS.mk 0 0 0 0)
 | (.inr r4) =>
  some r4
def zVt (x0:SPr):Option Bool :=
 (zVs x0).bind fun r1 =>
 some (r1.Kind == 0)
def zSS (x0:SPr):Option Bool :=
 (f_u x0).bind fun r1 =>
 cond r1 (
  (zVt x0).bind fun r2 =>
  some r2) (
  some false)
def zNt (x0:Int) (x2:List Int) (s1:Int):Option (Int ⊕ (Unit ⊕ Bool)) :=
 cond (decide (s1 < (x2.length:Int))) (
  (ixO x2 s1).bind fun v1 =>
  (rng (x0 - 1)).bind fun v2 =>
  (zQC v1 0 v2).bind fun r3 =>
  cond (!r3) (
   some (.inr (.inr false))) (
   (rng (s1 + 1)).bind fun v4 =>
   some (.inl v4))) (
  some (.inr (.inl ())))
def zQN (x0:Int) (x1:Int) (x2:List Int):Option Bool :=
 cond ((x2.length:Int) != x1) (
  some false) (
  (zH (zNt x0 x2) 0).bind fun r5 =>
  match r5 with
  | (.inl r5) =>
   some true
  | (.inr r5) =>
   some r5)
def zNu (x0:Int) (x1:Int) (x2:List (List Int)) (s1:Int):Option (Int ⊕ (Unit ⊕ Bool)) :=
 cond (decide (s1 < (x2.length:Int))) (
  (ixO x2 s1).bind fun v1 =>
  (zQN x0 x1 v1).bind fun r2 =>
  cond (!r2) (
   some (.inr (.inr false))) (
   (rng (s1 + 1)).bind fun v3 =>
   some (.inl v3))) (
  some (.inr (.inl ())))
def zST (x0:Int) (x1:Int) (x2:List (List Int)):Option Bool :=
 cond ((x2.length:Int) != x1) (
  some false) (
  (zH (zNu x0 x1 x2) 0).bind fun r4 =>
  match r4 with
  | (.inl r4) =>
   some true
  | (.inr r4) =>
   some r4)
def zKr (x0:Int) (s1:(List (List Int)) × Int):Option (((List (List Int)) × Int) ⊕ (List (List Int))) :=
 cond (decide (s1.2 < x0)) (
  (yZ x0).bind fun m1 =>
  (ixO (List.replicate m1 (0:Int)) s1.2).bind fun _ =>
  (xQ s1.1 [(List.replicate m1 (0:Int)).set s1.2.toNat 1]).bind fun v3 =>
  (rng (s1.2 + 1)).bind fun v4 =>
  some (.inl (v3,v4))) (
  some (.inr s1.1))
def f_H (x0:Int):Option (List (List Int)) :=
 (zH (zKr x0) ([],0)).bind fun r5 =>
 some r5
def zQO (x0:Int) (x1:List Int) (x2:List (List Int)) (s5:(List Int) × Int) (s6:(List Int) × Int):Option (((List Int) × Int) ⊕ (List Int)) :=
 cond (decide (s6.2 < (s6.1.length:Int))) (
  (ixO x2 s5.2).bind fun v2 =>
  cond (decide (s6.2 < (v2.length:Int))) (
   (ixO s6.1 s6.2).bind fun v3 =>
   (ixO x1 s5.2).bind fun v4 =>
   (ixO x2 s5.2).bind fun v5 =>
   (ixO v5 s6.2).bind fun v6 =>
   (rng (v4 * v6)).bind fun v7 =>
   (rng (v3 + v7)).bind fun v8 =>
   (uQ v8 x0).bind fun v9 =>
   (ixO s6.1 s6.2).bind fun _ =>
   (rng (s6.2 + 1)).bind fun v11 =>
   some (.inl (s6.1.set s6.2.toNat v9,v11))) (
   some (.inr s6.1))) (
  some (.inr s6.1))
def zQP (x0:Int) (x1:List Int) (x2:List (List Int)) (s5:(List Int) × Int):Option (((List Int) × Int) ⊕ (List Int)) :=
 cond (decide (s5.2 < (x1.length:Int))) (
  cond (decide (s5.2 < (x2.length:Int))) (
   (zH (zQO x0 x1 x2 s5) (s5.1,0)).bind fun r12 =>
   (rng (s5.2 + 1)).bind fun v13 =>
   some (.inl (r12,v13))) (
   some (.inr s5.1))) (
  some (.inr s5.1))
def f_F (x0:Int) (x1:List Int) (x2:List (List Int)) (x3:Int):Option (List Int) :=
 (yZ x3).bind fun m1 =>
 (zH (zQP x0 x1 x2) (List.replicate m1 (0:Int),0)).bind fun r14 =>
 some r14
def zQQ (x0:Int) (x1:List (List Int)) (x2:List (List Int)) (x3:Int) (s1:(List (List Int)) × Int):Option (((List (List Int)) × Int) ⊕ (List (List Int))) :=
 cond (decide (s1.2 < (x1.length:Int))) (
  (ixO x1 s1.2).bind fun v1 =>
  (f_F x0 v1 x2 x3).bind fun r2 =>
  (xQ s1.1 [r2]).bind fun v3 =>
  (rng (s1.2 + 1)).bind fun v4 =>
  some (.inl (v3,v4))) (
  some (.inr s1.1))
def f_S (x0:Int) (x1:List (List Int)) (x2:List (List Int)) (x3:Int):Option (List (List Int)) :=
 (zH (zQQ x0 x1 x2 x3) ([],0)).bind fun r5 =>
 some r5
def zQR (x0:zC) (x1:List Int) (s5:(List (List Int)) × Int) (s6:(List (List Int)) × Int):Option (((List (List Int)) × Int) ⊕ (List (List Int))) :=
 (ixO x1 s5.2).bind fun v2 =>
 cond (decide (s6.2 < v2)) (
  (ixO x0.zI s5.2).bind fun v3 =>
  (f_S x0.Prime s6.1 v3 x0.Dim).bind fun r4 =>
  (rng (s6.2 + 1)).bind fun v5 =>
  some (.inl (r4,v5))) (
  some (.inr s6.1))
def zQS (x0:zC) (x1:List Int) (s5:(List (List Int)) × Int):Option (((List (List Int)) × Int) ⊕ (List (List Int))) :=
 cond (decide (s5.2 < (x1.length:Int))) (
  (zH (zQR x0 x1 s5) (s5.1,0)).bind fun r6 =>
  (rng (s5.2 + 1)).bind fun v7 =>
  some (.inl (r6,v7))) (
  some (.inr s5.1))
def f_I (x0:zC) (x1:List Int):Option (List (List Int)) :=
 (f_H x0.Dim).bind fun r1 =>
 (zH (zQS x0 x1) (r1,0)).bind fun r8 =>
 some r8
def zQT (x0:List (List Int)) (x1:List (List Int)) (s1:Int):Option (Int ⊕ (Unit ⊕ Bool)) :=
 cond (decide (s1 < (x0.length:Int))) (
  (ixO x0 s1).bind fun v1 =>
  (ixO x1 s1).bind fun v2 =>
  (f_Y v1 v2).bind fun r3 =>
  cond (!r3) (
   some (.inr (.inr false))) (
   (rng (s1 + 1)).bind fun v4 =>
   some (.inl v4))) (
  some (.inr (.inl ())))
def zSU (x0:List (List Int)) (x1:List (List Int)):Option Bool :=
 cond ((x0.length:Int) != (x1.length:Int)) (
  some false) (
  (zH (zQT x0 x1) 0).bind fun r5 =>
  match r5 with
  | (.inl r5) =>
   some true
  | (.inr r5) =>
   some r5)
def zQU (x0:SPr) (x1:zC) (s1:Int):Option (Int ⊕ (Unit ⊕ Bool)) :=
 cond (decide (s1 < (x0.zA.length:Int))) (
  (ixO x1.zI s1).bind fun v3 =>
  (zST x1.Prime x1.Dim v3).bind fun r4 =>
  cond (!r4) (
   some (.inr (.inr false))) (
   (rng (s1 + 1)).bind fun v5 =>
   some (.inl v5))) (
  some (.inr (.inl ())))
def zQV (x0:SPr) (x1:zC) (s11:Int) (s12:(List (List Int)) × Int):Option (((List (List Int)) × Int) ⊕ (List (List Int))) :=
 (ixO x0.zA s11).bind fun v8 =>
 cond (decide (s12.2 < v8)) (
  (ixO x1.zI s11).bind fun v9 =>
  (f_S x1.Prime s12.1 v9 x1.Dim).bind fun r10 =>
  (rng (s12.2 + 1)).bind fun v11 =>
  some (.inl (r10,v11))) (
  some (.inr s12.1))
def zQW (x0:SPr) (x1:zC) (s11:Int) (s14:Int):Option (Int ⊕ (Unit ⊕ Bool)) :=
 cond (decide (s14 < (x0.zA.length:Int))) (
  (ixO x1.zI s14).bind fun v17 =>
  (ixO x1.zI s11).bind fun v18 =>
  (f_S x1.Prime v17 v18 x1.Dim).bind fun r19 =>
  (ixO x1.zI s11).bind fun v20 =>
  (ixO x0.zB s11).bind fun v21 =>
  (rng (s14 - s11)).bind fun v22 =>
  (rng (v22 - 1)).bind fun v23 =>
  (ixO v21 v23).bind fun v24 =>
  (f_I x1 v24).bind fun r25 =>
  (f_S x1.Prime v20 r25 x1.Dim).bind fun r26 =>
  (zSU r19 r26).bind fun r27 =>
  cond (!r27) (
   some (.inr (.inr false))) (
   (rng (s14 + 1)).bind fun v28 =>
   some (.inl v28))) (
  some (.inr (.inl ())))
def zQX (x0:SPr) (x1:zC) (s11:Int):Option (Int ⊕ (Unit ⊕ Bool)) :=
 cond (decide (s11 < (x0.zA.length:Int))) (
  (f_H x1.Dim).bind fun r7 =>
  (zH (zQV x0 x1 s11) (r7,0)).bind fun r12 =>
  (ixO x0.zU s11).bind fun v13 =>
  (f_I x1 v13).bind fun r14 =>
  (zSU r12 r14).bind fun r15 =>
  cond (!r15) (
   some (.inr (.inr false))) (
   (rng (s11 + 1)).bind fun v16 =>
   (zH (zQW x0 x1 s11) v16).bind fun r29 =>
   match r29 with
   | (.inl r29) =>
    (rng (s11 + 1)).bind fun v30 =>
    some (.inl v30)
   | (.inr r29) =>
    some (.inr (.inr r29)))) (
  some (.inr (.inl ())))
def f_o (x0:SPr) (x1:zC):Option Bool :=
 (zSO x1.Prime).bind fun r1 =>
 cond (!r1) (
  some false) (
  (zQC x1.Dim 1 3).bind fun r2 =>
  cond (!r2) (
   some false) (
   cond ((x1.zI.length:Int) != (x0.zA.length:Int)) (
    some false) (
    (zH (zQU x0 x1) 0).bind fun r6 =>
    match r6 with
    | (.inl r6) =>
     (zH (zQX x0 x1) 0).bind fun r31 =>
     match r31 with
     | (.inl r31) =>
      some true
     | (.inr r31) =>
      some r31
    | (.inr r6) =>
     some r6)))
def zSV (x0:SPr) (x1:zC):Option Bool :=
 (zSS x0).bind fun r1 =>
 cond r1 (
  (f_o x0 x1).bind fun r2 =>
  some r2) (
  some false)
def zOm (x0:Int):Option Bool :=
 cond (x0 == 2) (
  some true) (
  cond (x0 == 3) (
   some true) (
   cond (x0 == 5) (
    some true) (
    some (x0 == 7))))
def zLR (x0:Int) (x1:Int) (x2:Int):Option Bool :=
 cond (decide (x0 ≥ x1)) (
  some (decide (x0 ≤ x2))) (
  some false)
def zNv (x0:SPr) (x1:List Int) (s1:Int):Option (Int ⊕ (Unit ⊕ Bool)) :=
 cond (decide (s1 < (x1.length:Int))) (
  (ixO x1 s1).bind fun v1 =>
  (ixO x0.zA s1).bind fun v2 =>
  (rng (v2 - 1)).bind fun v3 =>
  (zLR v1 0 v3).bind fun r4 =>
  cond (!r4) (
   some (.inr (.inr false))) (
   (rng (s1 + 1)).bind fun v5 =>
   some (.inl v5))) (
  some (.inr (.inl ())))
def zSW (x0:SPr) (x1:List Int):Option Bool :=
 cond ((x1.length:Int) != (x0.zA.length:Int)) (
  some false) (
  (zH (zNv x0 x1) 0).bind fun r6 =>
  match r6 with
  | (.inl r6) =>
   some true
  | (.inr r6) =>
   some r6)
def zKs (x0:List Int) (s1:Int):Option (Int ⊕ (Unit ⊕ Bool)) :=
 cond (decide (s1 < (x0.length:Int))) (
  (ixO x0 s1).bind fun v1 =>
  cond (v1 != 0) (
   some (.inr (.inr false))) (
   (rng (s1 + 1)).bind fun v2 =>
   some (.inl v2))) (
  some (.inr (.inl ())))
def f_E (x0:List Int):Option Bool :=
 (zH (zKs x0) 0).bind fun r3 =>
 match r3 with
 | (.inl r3) =>
  some true
 | (.inr r3) =>
  some r3
def zQY (x0:SPr) (x1:Int) (x2:List Int):Option Bool :=
 (zSW x0 x2).bind fun r1 =>
 cond r1 (
  (rng (x1 + 1)).bind fun v2 =>
  (zX x2 0 v2).bind fun v3 =>
  (f_E v3).bind fun r4 =>
  some r4) (
  some false)
def zLS (x0:SPr) (s1:Int × Int):Option ((Int × Int) ⊕ (Unit ⊕ Bool)) :=
 cond (decide (s1.2 < (x0.zA.length:Int))) (
  (ixO x0.zA s1.2).bind fun v1 =>
  (zOm v1).bind fun r2 =>
  cond (!r2) (
   some (.inr (.inr false))) (
   (rng (s1.1 * v1)).bind fun v3 =>
   cond (decide (v3 > 729)) (
    some (.inr (.inr false))) (
    (rng (s1.1 * v1)).bind fun v4 =>
    (rng (s1.2 + 1)).bind fun v5 =>
    some (.inl (v4,v5))))) (
  some (.inr (.inl ())))
def zQZ (x0:SPr) (s7:Int) (v12:List (List Int)) (s8:Int):Option (Int ⊕ (Unit ⊕ Bool)) :=
 cond (decide (s8 < (v12.length:Int))) (
  (ixO v12 s8).bind fun v13 =>
  (zQY x0 s7 v13).bind fun r14 =>
  cond (!r14) (
   some (.inr (.inr false))) (
   (rng (s8 + 1)).bind fun v15 =>
   some (.inl v15))) (
  some (.inr (.inl ())))
def zLT (x0:SPr) (s7:Int):Option (Int ⊕ (Unit ⊕ Bool)) :=
 cond (decide (s7 < (x0.zA.length:Int))) (
  (ixO x0.zU s7).bind fun v7 =>
  (zQY x0 s7 v7).bind fun r8 =>
  cond (!r8) (
   some (.inr (.inr false))) (
   (ixO x0.zB s7).bind fun v9 =>
   (rng ((x0.zA.length:Int) - 1)).bind fun v10 =>
   (rng (v10 - s7)).bind fun v11 =>
   cond ((v9.length:Int) != v11) (
    some (.inr (.inr false))) (
    (ixO x0.zB s7).bind fun v12 =>
    (zH (zQZ x0 s7 v12) 0).bind fun r16 =>
    match r16 with
    | (.inl r16) =>
     (rng (s7 + 1)).bind fun v17 =>
     some (.inl v17)
    | (.inr r16) =>
     some (.inr (.inr r16))))) (
  some (.inr (.inl ())))
def f_q (x0:SPr):Option Bool :=
 cond (decide ((x0.zA.length:Int) > 6)) (
  some false) (
  cond ((x0.zU.length:Int) != (x0.zA.length:Int)) (
   some false) (
   cond ((x0.zB.length:Int) != (x0.zA.length:Int)) (
    some false) (
    (zH (zLS x0) (1,0)).bind fun r6 =>
    match r6 with
    | (.inl r6) =>
     (zH (zLT x0) 0).bind fun r18 =>
     match r18 with
     | (.inl r18) =>
      some true
     | (.inr r18) =>
      some r18
    | (.inr r6) =>
     some r6)))
def f_x (x0:List Int):Option (List Int) :=
 (xQ [] x0).bind fun v2 =>
 some v2
def zRa (x2:Int) (r3:(List Int)) (s1:(List Int) × Int):Option (((List Int) × Int) ⊕ (List Int)) :=
 cond (decide (s1.2 < (r3.length:Int))) (
  (rng (x2 + 1)).bind fun v4 =>
  (rng (v4 + s1.2)).bind fun v5 =>
  (ixO s1.1 v5).bind fun _ =>
  (rng (s1.2 + 1)).bind fun v7 =>
  some (.inl (s1.1.set v5.toNat 0,v7))) (
  some (.inr s1.1))
def zVu (g_c:SPr → (List Int) → (List Int) → Option (List Int)) (x0:SPr) (x2:Int) (s7:(List Int) × Int) (v17:Int) (s8:(List Int) × Int):Option (((List Int) × Int) ⊕ (List Int)) :=
 cond (decide (s8.2 < v17)) (
  (ixO x0.zB x2).bind fun v18 =>
  (ixO v18 s7.2).bind fun v19 =>
  (g_c x0 s8.1 v19).bind fun r20 =>
  (rng (s8.2 + 1)).bind fun v21 =>
  some (.inl (r20,v21))) (
  some (.inr s8.1))
def zVv (g_c:SPr → (List Int) → (List Int) → Option (List Int)) (x0:SPr) (x2:Int) (r3:(List Int)) (s7:(List Int) × Int):Option (((List Int) × Int) ⊕ (List Int)) :=
 cond (decide (s7.2 < (r3.length:Int))) (
  (ixO r3 s7.2).bind fun v17 =>
  (zH (zVu g_c x0 x2 s7 v17) (s7.1,0)).bind fun r22 =>
  (rng (s7.2 + 1)).bind fun v23 =>
  some (.inl (r22,v23))) (
  some (.inr s7.1))
def zVw (g_c:SPr → (List Int) → (List Int) → Option (List Int)) (x0:SPr) (x2:Int) (s15:(List Int) × Int) (v25:Int) (s16:(List Int) × Int):Option (((List Int) × Int) ⊕ (List Int)) :=
 cond (decide (s16.2 < v25)) (
  (ixO x0.zB x2).bind fun v26 =>
  (ixO v26 s15.2).bind fun v27 =>
  (g_c x0 s16.1 v27).bind fun r28 =>
  (rng (s16.2 + 1)).bind fun v29 =>
  some (.inl (r28,v29))) (
  some (.inr s16.1))
def zVx (g_c:SPr → (List Int) → (List Int) → Option (List Int)) (x0:SPr) (x2:Int) (r3:(List Int)) (s15:(List Int) × Int):Option (((List Int) × Int) ⊕ (List Int)) :=
 cond (decide (s15.2 < (r3.length:Int))) (
  (ixO r3 s15.2).bind fun v25 =>
  (zH (zVw g_c x0 x2 s15 v25) (s15.1,0)).bind fun r30 =>
  (rng (s15.2 + 1)).bind fun v31 =>
  some (.inl (r30,v31))) (
  some (.inr s15.1))
def b_b (g_c:SPr → (List Int) → (List Int) → Option (List Int)) (x0:SPr) (x1:List Int) (x2:Int):Option (List Int) :=
 (rng (x2 + 1)).bind fun v1 =>
 (zX x1 v1 x1.length).bind fun v2 =>
 (f_x v2).bind fun r3 =>
 (zH (zRa x2 r3) (x1,0)).bind fun r8 =>
 (ixO r8 x2).bind fun v9 =>
 (rng (v9 + 1)).bind fun v10 =>
 (ixO r8 x2).bind fun _ =>
 (ixO (r8.set x2.toNat v10) x2).bind fun v12 =>
 (ixO x0.zA x2).bind fun v13 =>
 cond (v12 == v13) (
  (ixO (r8.set x2.toNat v10) x2).bind fun _ =>
  (ixO x0.zU x2).bind fun v15 =>
  (g_c x0 ((r8.set x2.toNat v10).set x2.toNat 0) v15).bind fun r16 =>
  (zH (zVv g_c x0 x2 r3) (r16,0)).bind fun r24 =>
  some r24) (
  (zH (zVx g_c x0 x2 r3) (r8.set x2.toNat v10,0)).bind fun r32 =>
  some r32)
def zRb (g_b:SPr → (List Int) → Int → Option (List Int)) (x0:SPr) (s5:(List Int) × Int) (v1:Int) (s6:(List Int) × Int):Option (((List Int) × Int) ⊕ (List Int)) :=
 cond (decide (s6.2 < v1)) (
  (g_b x0 s6.1 s5.2).bind fun r2 =>
  (rng (s6.2 + 1)).bind fun v3 =>
  some (.inl (r2,v3))) (
  some (.inr s6.1))
def zRc (g_b:SPr → (List Int) → Int → Option (List Int)) (x0:SPr) (x2:List Int) (s5:(List Int) × Int):Option (((List Int) × Int) ⊕ (List Int)) :=
 cond (decide (s5.2 < (x2.length:Int))) (
  (ixO x2 s5.2).bind fun v1 =>
  (zH (zRb g_b x0 s5 v1) (s5.1,0)).bind fun r4 =>
  (rng (s5.2 + 1)).bind fun v5 =>
  some (.inl (r4,v5))) (
  some (.inr s5.1))
def b_c (g_b:SPr → (List Int) → Int → Option (List Int)) (x0:SPr) (x1:List Int) (x2:List Int):Option (List Int) :=
 (zH (zRc g_b x0 x2) (x1,0)).bind fun r6 =>
 some r6
mutual
def zRd:Nat → SPr → (List Int) → Int → Option (List Int)
 | 0 => fun _ _ _ => none
 | n + 1 => b_b (zOn n)
def zOn:Nat → SPr → (List Int) → (List Int) → Option (List Int)
 | 0 => fun _ _ _ => none
 | n + 1 => b_c (zRd n)
end
def f_b (x0:SPr) (x1:List Int) (x2:Int):Option (List Int):=zC6 fun n => zRd n x0 x1 x2
def f_c (x0:SPr) (x1:List Int) (x2:List Int):Option (List Int):=zC6 fun n => zOn n x0 x1 x2
def zKt (x0:SPr) (x1:List Int) (x2:Int) (s1:(List Int) × Int):Option (((List Int) × Int) ⊕ (List Int)) :=
 cond (decide (s1.2 < x2)) (
  (f_c x0 s1.1 x1).bind fun r2 =>
  (rng (s1.2 + 1)).bind fun v3 =>
  some (.inl (r2,v3))) (
  some (.inr s1.1))
def zSX (x0:SPr) (x1:List Int) (x2:Int):Option (List Int) :=
 (yZ (x1.length:Int)).bind fun m1 =>
 (zH (zKt x0 x1 x2) (List.replicate m1 (0:Int),0)).bind fun r4 =>
 some r4
def zRe (x0:SPr) (v3:List Int) (v6:Int) (s6:(List Int) × Int):Option (((List Int) × Int) ⊕ (List Int)) :=
 cond (decide (s6.2 < v6)) (
  (f_c x0 s6.1 v3).bind fun r7 =>
  (rng (s6.2 + 1)).bind fun v8 =>
  some (.inl (r7,v8))) (
  some (.inr s6.1))
def zRf (x0:SPr) (x1:Int) (x2:List Int) (v2:List (List Int)) (s5:(List Int) × Int):Option (((List Int) × Int) ⊕ (List Int)) :=
 cond (decide (s5.2 < (v2.length:Int))) (
  (ixO v2 s5.2).bind fun v3 =>
  (rng (x1 + 1)).bind fun v4 =>
  (rng (v4 + s5.2)).bind fun v5 =>
  (ixO x2 v5).bind fun v6 =>
  (zH (zRe x0 v3 v6) (s5.1,0)).bind fun r9 =>
  (rng (s5.2 + 1)).bind fun v10 =>
  some (.inl (r9,v10))) (
  some (.inr s5.1))
def f_C (x0:SPr) (x1:Int) (x2:List Int):Option (List Int) :=
 (yZ (x2.length:Int)).bind fun m1 =>
 (ixO x0.zB x1).bind fun v2 =>
 (zH (zRf x0 x1 x2 v2) (List.replicate m1 (0:Int),0)).bind fun r11 =>
 some r11
def zVy (x0:List Int) (x1:List Int) (s1:Int):Option (Int ⊕ (Unit ⊕ Bool)) :=
 cond (decide (s1 < (x0.length:Int))) (
  (ixO x0 s1).bind fun v1 =>
  (ixO x1 s1).bind fun v2 =>
  cond (v1 != v2) (
   some (.inr (.inr false))) (
   (rng (s1 + 1)).bind fun v3 =>
   some (.inl v3))) (
  some (.inr (.inl ())))
def f_R (x0:List Int) (x1:List Int):Option Bool :=
 cond ((x0.length:Int) != (x1.length:Int)) (
  some false) (
  (zH (zVy x0 x1) 0).bind fun r4 =>
  match r4 with
  | (.inl r4) =>
   some true
  | (.inr r4) =>
   some r4)
def zOo (x0:SPr) (s5:(List Int) × (List Int) × Int) (s6:(List Int) × (List Int)):Option (((List Int) × (List Int)) ⊕ ((List Int) × (List Int))) :=
 (ixO s6.1 s5.2.2).bind fun v3 =>
 cond (v3 != 0) (
  (f_b x0 s6.1 s5.2.2).bind fun r4 =>
  (f_b x0 s6.2 s5.2.2).bind fun r5 =>
  some (.inl (r4,r5))) (
  some (.inr (s6.1,s6.2)))
def zRg (x0:SPr) (r1:(List Int)) (s5:(List Int) × (List Int) × Int):Option (((List Int) × (List Int) × Int) ⊕ (List Int)) :=
 cond (decide (s5.2.2 < (r1.length:Int))) (
  (zH (zOo x0 s5) (s5.1,s5.2.1)).bind fun r6 =>
  (rng (s5.2.2 + 1)).bind fun v7 =>
  some (.inl (r6.1,r6.2,v7))) (
  some (.inr s5.2.1))
def f_G (x0:SPr) (x1:List Int):Option (List Int) :=
 (f_x x1).bind fun r1 =>
 (yZ (x1.length:Int)).bind fun m2 =>
 (zH (zRg x0 r1) (r1,List.replicate m2 (0:Int),0)).bind fun r8 =>
 some r8
def zRh (x0:SPr) (x1:List Int) (x2:List Int):Option (List Int) :=
 (f_x x1).bind fun r1 =>
 (f_c x0 r1 x2).bind fun r2 =>
 some r2
def zRi (x0:SPr) (x1:List Int) (x2:List Int):Option (List Int) :=
 (f_G x0 x2).bind fun r1 =>
 (zRh x0 x1 x2).bind fun r2 =>
 (zRh x0 r1 r2).bind fun r3 =>
 some r3
def zID (x0:Int) (x1:Int):Option (List Int) :=
 (yZ x0).bind fun m1 =>
 (ixO (List.replicate m1 (0:Int)) x1).bind fun _ =>
 some ((List.replicate m1 (0:Int)).set x1.toNat 1)
def zRj (x0:SPr) (x1:Int) (s1:Int):Option (Int ⊕ (Unit ⊕ yS)) :=
 cond (decide (s1 < (x0.zA.length:Int))) (
  (ixO x0.zB x1).bind fun v2 =>
  (rng (s1 - x1)).bind fun v3 =>
  (rng (v3 - 1)).bind fun v4 =>
  (ixO v2 v4).bind fun v5 =>
  (ixO x0.zA s1).bind fun v6 =>
  (zSX x0 v5 v6).bind fun r7 =>
  (ixO x0.zU s1).bind fun v8 =>
  (f_C x0 x1 v8).bind fun r9 =>
  (f_R r7 r9).bind fun r10 =>
  cond (!r10) (
   some (.inr (.inr (yS.mk 1 x1 s1 0)))) (
   (rng (s1 + 1)).bind fun v11 =>
   some (.inl v11))) (
  some (.inr (.inl ())))
def zRk (x0:SPr) (x1:Int) (s7:Int) (s8:Int):Option (Int ⊕ (Unit ⊕ yS)) :=
 cond (decide (s8 < (x0.zA.length:Int))) (
  (ixO x0.zB x1).bind fun v15 =>
  (rng (s8 - x1)).bind fun v16 =>
  (rng (v16 - 1)).bind fun v17 =>
  (ixO v15 v17).bind fun v18 =>
  (ixO x0.zB x1).bind fun v19 =>
  (rng (s7 - x1)).bind fun v20 =>
  (rng (v20 - 1)).bind fun v21 =>
  (ixO v19 v21).bind fun v22 =>
  (zRi x0 v18 v22).bind fun r23 =>
  (ixO x0.zB s7).bind fun v24 =>
  (rng (s8 - s7)).bind fun v25 =>
  (rng (v25 - 1)).bind fun v26 =>
  (ixO v24 v26).bind fun v27 =>
  (f_C x0 x1 v27).bind fun r28 =>
  (f_R r23 r28).bind fun r29 =>
  cond (!r29) (
   some (.inr (.inr (yS.mk 2 x1 s7 s8)))) (
   (rng (s8 + 1)).bind fun v30 =>
   some (.inl v30))) (
  some (.inr (.inl ())))
def zRl (x0:SPr) (x1:Int) (s7:Int):Option (Int ⊕ (Unit ⊕ yS)) :=
 cond (decide (s7 < (x0.zA.length:Int))) (
  (rng (s7 + 1)).bind fun v14 =>
  (zH (zRk x0 x1 s7) v14).bind fun r31 =>
  match r31 with
  | (.inl r31) =>
   (rng (s7 + 1)).bind fun v32 =>
   some (.inl v32)
  | (.inr r31) =>
   some (.inr (.inr r31))) (
  some (.inr (.inl ())))
def zRm (x0:SPr) (x1:Int) (v39:Int) (s16:(List Int) × Int):Option (((List Int) × Int) ⊕ (List Int)) :=
 cond (decide (s16.2 < v39)) (
  (f_C x0 x1 s16.1).bind fun r40 =>
  (rng (s16.2 + 1)).bind fun v41 =>
  some (.inl (r40,v41))) (
  some (.inr s16.1))
def zRn (x0:SPr) (x1:Int) (v34:List Int) (s15:Int):Option (Int ⊕ (Unit ⊕ yS)) :=
 cond (decide (s15 < (x0.zA.length:Int))) (
  (zID (x0.zA.length:Int) s15).bind fun r38 =>
  (ixO x0.zA x1).bind fun v39 =>
  (zH (zRm x0 x1 v39) (r38,0)).bind fun r42 =>
  (zID (x0.zA.length:Int) s15).bind fun r43 =>
  (zRi x0 r43 v34).bind fun r44 =>
  (f_R r42 r44).bind fun r45 =>
  cond (!r45) (
   some (.inr (.inr (yS.mk 4 x1 s15 0)))) (
   (rng (s15 + 1)).bind fun v46 =>
   some (.inl v46))) (
  some (.inr (.inl ())))
def f_k (x0:SPr) (x1:Int):Option yS :=
 (rng (x1 + 1)).bind fun v1 =>
 (zH (zRj x0 x1) v1).bind fun r12 =>
 match r12 with
 | (.inl r12) =>
  (rng (x1 + 1)).bind fun v13 =>
  (zH (zRl x0 x1) v13).bind fun r33 =>
  match r33 with
  | (.inl r33) =>
   (ixO x0.zU x1).bind fun v34 =>
   (f_C x0 x1 v34).bind fun r35 =>
   (f_R r35 v34).bind fun r36 =>
   cond (!r36) (
    some (yS.mk 3 x1 0 0)) (
    (rng (x1 + 1)).bind fun v37 =>
    (zH (zRn x0 x1 v34) v37).bind fun r47 =>
    match r47 with
    | (.inl r47) =>
     some (yS.mk 0 0 0 0)
    | (.inr r47) =>
     some r47)
  | (.inr r33) =>
   some r33
 | (.inr r12) =>
  some r12
def zKu (x0:SPr) (s1:Int):Option (Int ⊕ Int) :=
 cond (decide (s1 > 0)) (
  (rng (s1 - 1)).bind fun v1 =>
  (f_k x0 v1).bind fun r2 =>
  cond (r2.Kind == 0 && (r2.zUm == 0 && (r2.zUl == 0 && r2.zSa == 0))) (
   (rng (s1 - 1)).bind fun v3 =>
   some (.inl v3)) (
   some (.inr s1))) (
  some (.inr s1))
def f_N (x0:SPr):Option Int :=
 (zH (zKu x0) (x0.zA.length:Int)).bind fun r4 =>
 some r4
def zSY (x0:SPr):Option Bool :=
 (f_q x0).bind fun r1 =>
 cond r1 (
  (f_N x0).bind fun r2 =>
  some (r2 == 0)) (
  some false)
def zLU (x0:zC) (x1:Int):Option zV :=
 (ixO x0.zI x1).bind fun v1 =>
 some (zV.mk x0.Prime x0.Dim v1)
def zNw (x0:List Int) (x1:Int) (s1:Int):Option (Int ⊕ (Unit ⊕ Bool)) :=
 cond (decide (s1 < (x0.length:Int))) (
  (ixO x0 s1).bind fun v1 =>
  (rng (x1 - 1)).bind fun v2 =>
  (zLR v1 0 v2).bind fun r3 =>
  cond (!r3) (
   some (.inr (.inr false))) (
   (rng (s1 + 1)).bind fun v4 =>
   some (.inl v4))) (
  some (.inr (.inl ())))
def zRo (x0:List Int) (x1:Int) (x2:Int):Option Bool :=
 cond ((x0.length:Int) != x2) (
  some false) (
  (zH (zNw x0 x1) 0).bind fun r5 =>
  match r5 with
  | (.inl r5) =>
   some true
  | (.inr r5) =>
   some r5)
def zKv (x0:zV) (s1:Int):Option (Int ⊕ (Unit ⊕ Bool)) :=
 cond (decide (s1 < (x0.Rows.length:Int))) (
  (ixO x0.Rows s1).bind fun v3 =>
  (zRo v3 x0.Prime x0.xT).bind fun r4 =>
  cond (!r4) (
   some (.inr (.inr false))) (
   (rng (s1 + 1)).bind fun v5 =>
   some (.inl v5))) (
  some (.inr (.inl ())))
def zSZ (x0:zV):Option Bool :=
 (zOm x0.Prime).bind fun r1 =>
 cond (!r1) (
  some false) (
  (zLR x0.xT 0 8).bind fun r2 =>
  cond (!r2) (
   some false) (
   cond (decide ((x0.Rows.length:Int) > 8)) (
    some false) (
    (zH (zKv x0) 0).bind fun r6 =>
    match r6 with
    | (.inl r6) =>
     some true
    | (.inr r6) =>
     some r6)))
def zXo (x0:Int) (x1:Int):Option (Int × Int) :=
 some ((IntKind.wrap .u64 ((IntKind.wrap .u64 ((IntKind.wrap .u64 ((Int.fdiv x0 (2 ^ (min (32:Int).toNat (IntKind.bits .u64)))) * (Int.fdiv x1 (2 ^ (min (32:Int).toNat (IntKind.bits .u64)))))) + (Int.fdiv (IntKind.wrap .u64 ((IntKind.wrap .u64 ((Int.fdiv x0 (2 ^ (min (32:Int).toNat (IntKind.bits .u64)))) * (zEQ .u64 x1 4294967295))) + (Int.fdiv (IntKind.wrap .u64 ((zEQ .u64 x0 4294967295) * (zEQ .u64 x1 4294967295))) (2 ^ (min (32:Int).toNat (IntKind.bits .u64)))))) (2 ^ (min (32:Int).toNat (IntKind.bits .u64)))))) + (Int.fdiv (IntKind.wrap .u64 ((zEQ .u64 (IntKind.wrap .u64 ((IntKind.wrap .u64 ((Int.fdiv x0 (2 ^ (min (32:Int).toNat (IntKind.bits .u64)))) * (zEQ .u64 x1 4294967295))) + (Int.fdiv (IntKind.wrap .u64 ((zEQ .u64 x0 4294967295) * (zEQ .u64 x1 4294967295))) (2 ^ (min (32:Int).toNat (IntKind.bits .u64)))))) 4294967295) + (IntKind.wrap .u64 ((zEQ .u64 x0 4294967295) * (Int.fdiv x1 (2 ^ (min (32:Int).toNat (IntKind.bits .u64)))))))) (2 ^ (min (32:Int).toNat (IntKind.bits .u64)))))),(IntKind.wrap .u64 (x0 * x1)))
def zTa (x0:Int) (x1:Int):Option (Int × Int) :=
 (zXo x0 x1).bind fun r1 =>
 some (r1.1,r1.2)
def jI  (s1:(List Int) × Int):Option (((List Int) × Int) ⊕ (List Int)) :=
 cond (decide (s1.2 < (s1.1.length:Int))) (
  (zX s1.1 s1.2 s1.1.length).bind fun _ =>
  (zX s1.1 0 s1.2).bind fun v4 =>
  (rng (s1.2 + ((min v4.length (((s1.1.length:Int).toNat) - ((s1.2:Int).toNat)):Nat):Int))).bind fun v5 =>
  some (.inl (xW s1.1 ((s1.2:Int).toNat) (v4.take (((s1.1.length:Int).toNat) - ((s1.2:Int).toNat))),v5))) (
  some (.inr s1.1))
def f_i (x0:List Int) (x1:Int):Option (List Int) :=
 cond (decide (x1 < 0)) (
  none) (
  (zTa (IntKind.wrap .u64 (x0.length:Int)) (IntKind.wrap .u64 x1)).bind fun r1 =>
  cond (decide (r1.1 > 0)) (
   none) (
   cond (decide (r1.2 > 9223372036854775807)) (
    none) (
    (yZ (IntKind.wrap .i64 r1.2)).bind fun m2 =>
    (zH jI (xW (List.replicate m2 (0:Int)) 0 (x0.take (((List.replicate m2 (0:Int)).length) - 0)),((min x0.length (((List.replicate m2 (0:Int)).length) - 0):Nat):Int))).bind fun r6 =>
    some r6)))
def zRp (s5:(List Int) × Int) (v1:Int) (s6:(List Int) × Int):Option (((List Int) × Int) ⊕ (List Int)) :=
 cond (decide (s6.2 < v1)) (
  (rng (s5.2 + 1)).bind fun v2 =>
  (xQ s6.1 [v2]).bind fun v3 =>
  (rng (s6.2 + 1)).bind fun v4 =>
  some (.inl (v3,v4))) (
  some (.inr s6.1))
def zRq (x0:List Int) (s5:(List Int) × Int):Option (((List Int) × Int) ⊕ (List Int)) :=
 cond (decide (s5.2 < (x0.length:Int))) (
  (ixO x0 s5.2).bind fun v1 =>
  (zH (zRp s5 v1) (s5.1,0)).bind fun r5 =>
  (rng (s5.2 + 1)).bind fun v6 =>
  some (.inl (r5,v6))) (
  some (.inr s5.1))
def f_J (x0:List Int):Option (List Int) :=
 (zH (zRq x0) ([],0)).bind fun r7 =>
 some r7
def zRr (x0:SPr) (s1:(List ((List Int) × (List Int))) × Int):Option (((List ((List Int) × (List Int))) × Int) ⊕ (List ((List Int) × (List Int)))) :=
 cond (decide (s1.2 < (x0.zA.length:Int))) (
  (ixO x0.zA s1.2).bind fun v1 =>
  (rng (s1.2 + 1)).bind fun v2 =>
  (f_i [v2] v1).bind fun r3 =>
  (ixO x0.zU s1.2).bind fun v4 =>
  (f_J v4).bind fun r5 =>
  (xQ s1.1 [(r3,r5)]).bind fun v6 =>
  (rng (s1.2 + 1)).bind fun v7 =>
  some (.inl (v6,v7))) (
  some (.inr s1.1))
def zRs (s7:(List ((List Int) × (List Int))) × Int) (v9:List (List Int)) (s8:(List ((List Int) × (List Int))) × Int):Option (((List ((List Int) × (List Int))) × Int) ⊕ (List ((List Int) × (List Int)))) :=
 cond (decide (s8.2 < (v9.length:Int))) (
  (ixO v9 s8.2).bind fun v10 =>
  (rng (s7.2 + 1)).bind fun v11 =>
  (rng (s7.2 + s8.2)).bind fun v12 =>
  (rng (v12 + 2)).bind fun v13 =>
  (f_J v10).bind fun r14 =>
  (xQ [v11] r14).bind fun v15 =>
  (xQ s8.1 [([v13,v11],v15)]).bind fun v16 =>
  (rng (s8.2 + 1)).bind fun v17 =>
  some (.inl (v16,v17))) (
  some (.inr s8.1))
def zRt (x0:SPr) (s7:(List ((List Int) × (List Int))) × Int):Option (((List ((List Int) × (List Int))) × Int) ⊕ (List ((List Int) × (List Int)))) :=
 cond (decide (s7.2 < (x0.zA.length:Int))) (
  (ixO x0.zB s7.2).bind fun v9 =>
  (zH (zRs s7 v9) (s7.1,0)).bind fun r18 =>
  (rng (s7.2 + 1)).bind fun v19 =>
  some (.inl (r18,v19))) (
  some (.inr s7.1))
def f_w (x0:SPr):Option (List ((List Int) × (List Int))) :=
 (zH (zRr x0) ([],0)).bind fun r8 =>
 (zH (zRt x0) (r8,0)).bind fun r20 =>
 some r20
def zRu (x1:Int) (s1:(List (List Int)) × Int):Option (((List (List Int)) × Int) ⊕ (List (List Int))) :=
 cond (decide (s1.2 < x1)) (
  (yZ x1).bind fun m1 =>
  (ixO (List.replicate m1 (0:Int)) s1.2).bind fun _ =>
  (xQ s1.1 [(List.replicate m1 (0:Int)).set s1.2.toNat 1]).bind fun v3 =>
  (rng (s1.2 + 1)).bind fun v4 =>
  some (.inl (v3,v4))) (
  some (.inr s1.1))
def f_T (x0:Int) (x1:Int):Option zV :=
 (zH (zRu x1) ([],0)).bind fun r5 =>
 some (zV.mk x0 x1 r5)
def zGY (x0:Int) (x1:Int):Option Int :=
 (uQ x0 x1).bind fun v1 =>
 (rng (v1 + x1)).bind fun v2 =>
 (uQ v2 x1).bind fun v3 =>
 some v3
def zKw (x0:List Int) (x1:List Int) (x2:Int) (x3:Int) (s1:(List Int) × Int):Option (((List Int) × Int) ⊕ (List Int)) :=
 cond (decide (s1.2 < (x0.length:Int))) (
  (ixO s1.1 s1.2).bind fun v1 =>
  (ixO x1 s1.2).bind fun v2 =>
  (rng (x2 * v2)).bind fun v3 =>
  (rng (v1 + v3)).bind fun v4 =>
  (zGY v4 x3).bind fun r5 =>
  (ixO s1.1 s1.2).bind fun _ =>
  (rng (s1.2 + 1)).bind fun v7 =>
  some (.inl (s1.1.set s1.2.toNat r5,v7))) (
  some (.inr s1.1))
def f_v (x0:List Int) (x1:List Int) (x2:Int) (x3:Int):Option (List Int) :=
 (zH (zKw x0 x1 x2 x3) (x0,0)).bind fun r8 =>
 some r8
def zKx (x0:List Int) (x1:zV) (s1:(List Int) × Int):Option (((List Int) × Int) ⊕ (List Int)) :=
 cond (decide (s1.2 < (x0.length:Int))) (
  (ixO x0 s1.2).bind fun v2 =>
  (ixO x1.Rows s1.2).bind fun v3 =>
  (f_v s1.1 v3 v2 x1.Prime).bind fun r4 =>
  (rng (s1.2 + 1)).bind fun v5 =>
  some (.inl (r4,v5))) (
  some (.inr s1.1))
def zRv (x0:List Int) (x1:zV):Option (List Int) :=
 (yZ x1.xT).bind fun m1 =>
 (zH (zKx x0 x1) (List.replicate m1 (0:Int),0)).bind fun r6 =>
 some r6
def zKy (x0:zV) (x1:zV) (s1:(List (List Int)) × Int):Option (((List (List Int)) × Int) ⊕ (List (List Int))) :=
 cond (decide (s1.2 < (x0.Rows.length:Int))) (
  (ixO x0.Rows s1.2).bind fun v1 =>
  (zRv v1 x1).bind fun r2 =>
  (xQ s1.1 [r2]).bind fun v3 =>
  (rng (s1.2 + 1)).bind fun v4 =>
  some (.inl (v3,v4))) (
  some (.inr s1.1))
def zTb (x0:zV) (x1:zV):Option zV :=
 (zH (zKy x0 x1) ([],0)).bind fun r5 =>
 some (zV.mk x0.Prime x1.xT r5)
def zRw (x0:zC) (x1:List Int) (s1:Int × Int × (List (List Int)) × Int):Option ((Int × Int × (List (List Int)) × Int) ⊕ (Int × Int × (List (List Int)))) :=
 cond (decide (s1.2.2.2 < (x1.length:Int))) (
  (ixO x1 s1.2.2.2).bind fun v2 =>
  (rng (v2 - 1)).bind fun v3 =>
  (zLU x0 v3).bind fun r4 =>
  (zTb (zV.mk s1.1 s1.2.1 s1.2.2.1) r4).bind fun r5 =>
  (rng (s1.2.2.2 + 1)).bind fun v6 =>
  some (.inl (r5.Prime,r5.xT,r5.Rows,v6))) (
  some (.inr (s1.1,s1.2.1,s1.2.2.1)))
def f_U (x0:zC) (x1:List Int):Option zV :=
 (f_T x0.Prime x0.Dim).bind fun r1 =>
 (zH (zRw x0 x1) (r1.Prime,r1.xT,r1.Rows,0)).bind fun r7 =>
 some (zV.mk r7.1 r7.2.1 r7.2.2)
def zRx (x0:List (List Int)) (x1:List (List Int)) (s1:Int):Option (Int ⊕ (Unit ⊕ Bool)) :=
 cond (decide (s1 < (x0.length:Int))) (
  (ixO x0 s1).bind fun v1 =>
  (ixO x1 s1).bind fun v2 =>
  (f_R v1 v2).bind fun r3 =>
  cond (!r3) (
   some (.inr (.inr false))) (
   (rng (s1 + 1)).bind fun v4 =>
   some (.inl v4))) (
  some (.inr (.inl ())))
def zVz (x0:List (List Int)) (x1:List (List Int)):Option Bool :=
 cond ((x0.length:Int) != (x1.length:Int)) (
  some false) (
  (zH (zRx x0 x1) 0).bind fun r5 =>
  match r5 with
  | (.inl r5) =>
   some true
  | (.inr r5) =>
   some r5)
def zTc (x0:List (List Int)) (x1:List (List Int)):Option Bool :=
 (zVz x0 x1).bind fun r1 =>
 some r1
def zRy (x1:zC) (s1:Int):Option (Int ⊕ (Unit ⊕ Bool)) :=
 cond (decide (s1 < (x1.zI.length:Int))) (
  (ixO x1.zI s1).bind fun v4 =>
  cond ((v4.length:Int) != x1.Dim) (
   some (.inr (.inr false))) (
   (zLU x1 s1).bind fun r5 =>
   (zSZ r5).bind fun r6 =>
   cond (!r6) (
    some (.inr (.inr false))) (
    (rng (s1 + 1)).bind fun v7 =>
    some (.inl v7)))) (
  some (.inr (.inl ())))
def zRz (x1:zC) (r9:(List ((List Int) × (List Int)))) (s3:Int):Option (Int ⊕ (Unit ⊕ Bool)) :=
 cond (decide (s3 < (r9.length:Int))) (
  (ixO r9 s3).bind fun v10 =>
  (f_U x1 v10.1).bind fun r11 =>
  (f_U x1 v10.2).bind fun r12 =>
  (zTc r11.Rows r12.Rows).bind fun r13 =>
  cond (!r13) (
   some (.inr (.inr false))) (
   (rng (s3 + 1)).bind fun v14 =>
   some (.inl v14))) (
  some (.inr (.inl ())))
def f_D (x0:SPr) (x1:zC):Option Bool :=
 (zSY x0).bind fun r1 =>
 cond (!r1) (
  some false) (
  (zOm x1.Prime).bind fun r2 =>
  cond (!r2) (
   some false) (
   (zLR x1.Dim 1 3).bind fun r3 =>
   cond (!r3) (
    some false) (
    cond ((x1.zI.length:Int) != (x0.zA.length:Int)) (
     some false) (
     (zH (zRy x1) 0).bind fun r8 =>
     match r8 with
     | (.inl r8) =>
      (f_w x0).bind fun r9 =>
      (zH (zRz x1 r9) 0).bind fun r15 =>
      match r15 with
      | (.inl r15) =>
       some true
      | (.inr r15) =>
       some r15
     | (.inr r8) =>
      some r8))))
def zR0 (x1:Int):Option (List Int) :=
 cond (decide (x1 < 0)) (
  none) (
  (rng (0 - 0)).bind fun v1 =>
  (rng (x1 - v1)).bind fun v2 =>
  cond (decide (v2 > 0)) (
   (vR [] v2 (0:Int)).bind fun v3 =>
   (zX v3 0 0).bind fun v4 =>
   some v4) (
   some []))
def zR1 (x0:List (List Int)) (s1:Int × Int):Option ((Int × Int) ⊕ Int) :=
 cond (decide (s1.2 < (x0.length:Int))) (
  (ixO x0 s1.2).bind fun v1 =>
  (rng (s1.1 + (v1.length:Int))).bind fun v2 =>
  cond (decide (v2 < 0)) (
   none) (
   (rng (s1.2 + 1)).bind fun v3 =>
   some (.inl (v2,v3)))) (
  some (.inr s1.1))
def zR2 (x0:List (List Int)) (s3:(List Int) × Int):Option (((List Int) × Int) ⊕ (List Int)) :=
 cond (decide (s3.2 < (x0.length:Int))) (
  (ixO x0 s3.2).bind fun v6 =>
  (xQ s3.1 v6).bind fun v7 =>
  (rng (s3.2 + 1)).bind fun v8 =>
  some (.inl (v7,v8))) (
  some (.inr s3.1))
def f_r (x0:List (List Int)):Option (List Int) :=
 (zH (zR1 x0) (0,0)).bind fun r4 =>
 (zR0 r4).bind fun r5 =>
 (zH (zR2 x0) (r5,0)).bind fun r9 =>
 some r9
def zR3 (x0:List Int) (x1:Int) (x2:Int):Option (List Int) :=
 (yZ x1).bind fun m1 =>
 (yZ x2).bind fun m2 =>
 (f_r [List.replicate m1 (0:Int),x0,List.replicate m2 (0:Int)]).bind fun r3 =>
 some r3
def zR4 (x0:List Int) (x1:List Int) (s1:Int):Option (Int ⊕ (Unit ⊕ Bool)) :=
 cond (decide (s1 < (x0.length:Int))) (
  (ixO x0 s1).bind fun v1 =>
  (ixO x1 s1).bind fun v2 =>
  cond (v1 != v2) (
   some (.inr (.inr false))) (
   (rng (s1 + 1)).bind fun v3 =>
   some (.inl v3))) (
  some (.inr (.inl ())))
def zR5 (x0:List Int) (x1:List Int):Option Bool :=
 cond ((x0.length:Int) != (x1.length:Int)) (
  some false) (
  (zH (zR4 x0 x1) 0).bind fun r4 =>
  match r4 with
  | (.inl r4) =>
   some true
  | (.inr r4) =>
   some r4)
def zV0 (x0:List (List Int)) (x1:List (List Int)) (s1:Int):Option (Int ⊕ (Unit ⊕ Bool)) :=
 cond (decide (s1 < (x0.length:Int))) (
  (ixO x0 s1).bind fun v1 =>
  (ixO x1 s1).bind fun v2 =>
  (zR5 v1 v2).bind fun r3 =>
  cond (!r3) (
   some (.inr (.inr false))) (
   (rng (s1 + 1)).bind fun v4 =>
   some (.inl v4))) (
  some (.inr (.inl ())))
def f_B (x0:List (List Int)) (x1:List (List Int)):Option Bool :=
 cond ((x0.length:Int) != (x1.length:Int)) (
  some false) (
  (zH (zV0 x0 x1) 0).bind fun r5 =>
  match r5 with
  | (.inl r5) =>
   some true
  | (.inr r5) =>
   some r5)
def zR6 (x0:List (List (List Int))) (x1:List (List (List Int))) (s1:Int):Option (Int ⊕ (Unit ⊕ Bool)) :=
 cond (decide (s1 < (x0.length:Int))) (
  (ixO x0 s1).bind fun v1 =>
  (ixO x1 s1).bind fun v2 =>
  (f_B v1 v2).bind fun r3 =>
  cond (!r3) (
   some (.inr (.inr false))) (
   (rng (s1 + 1)).bind fun v4 =>
   some (.inl v4))) (
  some (.inr (.inl ())))
def zTd (x0:List (List (List Int))) (x1:List (List (List Int))):Option Bool :=
 cond ((x0.length:Int) != (x1.length:Int)) (
  some false) (
  (zH (zR6 x0 x1) 0).bind fun r5 =>
  match r5 with
  | (.inl r5) =>
   some true
  | (.inr r5) =>
   some r5)
def zTe (x0:zC) (x1:zC):Option Bool :=
 cond (x0.Prime != x1.Prime) (
  some false) (
  cond (x0.Dim != x1.Dim) (
   some false) (
   (zTd x0.zI x1.zI).bind fun r1 =>
   cond (!r1) (
    some false) (
    some true)))
def zTf (x0:SPr) (x1:SPr):Option Bool :=
 (zR5 x0.zA x1.zA).bind fun r1 =>
 cond (!r1) (
  some false) (
  (f_B x0.zU x1.zU).bind fun r2 =>
  cond (!r2) (
   some false) (
   (zTd x0.zB x1.zB).bind fun r3 =>
   cond (!r3) (
    some false) (
    some true)))
def zNx  (s1:(List Int) × Int × Int):Option (((List Int) × Int × Int) ⊕ ((List Int) × Int)) :=
 cond (decide (s1.2.2 < (s1.1.length:Int))) (
  (ixO s1.1 s1.2.2).bind fun _ =>
  (rng (s1.2.1 + 1)).bind fun v2 =>
  (rng (s1.2.2 + 1)).bind fun v3 =>
  some (.inl (s1.1.set s1.2.2.toNat s1.2.1,v2,v3))) (
  some (.inr (s1.1,s1.2.1)))
def zOp (x0:List Int) (x1:Int):Option (Int × (List Int)) :=
 (zH zNx (x0,x1,0)).bind fun r4 =>
 some (r4.2,r4.1)
def zV1  (s1:(List (List Int)) × Int × Int):Option (((List (List Int)) × Int × Int) ⊕ ((List (List Int)) × Int)) :=
 cond (decide (s1.2.2 < (s1.1.length:Int))) (
  (ixO s1.1 s1.2.2).bind fun v1 =>
  (zOp v1 s1.2.1).bind fun r2 =>
  (rng (s1.2.2 + 1)).bind fun v3 =>
  some (.inl (s1.1.set s1.2.2.toNat r2.2,r2.1,v3))) (
  some (.inr (s1.1,s1.2.1)))
def f_L (x0:List (List Int)) (x1:Int):Option (Int × (List (List Int))) :=
 (zH zV1 (x0,x1,0)).bind fun r4 =>
 some (r4.2,r4.1)
def zR7  (s1:(List (List (List Int))) × Int × Int):Option (((List (List (List Int))) × Int × Int) ⊕ ((List (List (List Int))) × Int)) :=
 cond (decide (s1.2.2 < (s1.1.length:Int))) (
  (ixO s1.1 s1.2.2).bind fun v1 =>
  (f_L v1 s1.2.1).bind fun r2 =>
  (rng (s1.2.2 + 1)).bind fun v3 =>
  some (.inl (s1.1.set s1.2.2.toNat r2.2,r2.1,v3))) (
  some (.inr (s1.1,s1.2.1)))
def zR8 (x0:List (List (List Int))) (x1:Int):Option (Int × (List (List (List Int)))) :=
 (zH zR7 (x0,x1,0)).bind fun r4 =>
 some (r4.2,r4.1)
def zTg (x0:SPr) (x1:Int):Option (Int × SPr) :=
 (zOp x0.zA x1).bind fun r1 =>
 (f_L x0.zU r1.1).bind fun r2 =>
 (zR8 x0.zB r2.1).bind fun r3 =>
 some (r3.1,(SPr.mk r1.2 r2.2 r3.2))
def zTh (x0:zC) (x1:Int):Option (Int × zC) :=
 (zR8 x0.zI x1).bind fun r1 =>
 some (r1.1,(zC.mk x0.Prime x0.Dim r1.2))
def zKz (x0:List Int) (s1:Int × Int):Option ((Int × Int) ⊕ (Int ⊕ Int)) :=
 cond (decide (s1.2 < (x0.length:Int))) (
  (ixO x0 s1.2).bind fun v1 =>
  cond (v1 != s1.1) (
   some (.inr (.inr (-1)))) (
   (rng (s1.1 + 1)).bind fun v2 =>
   (rng (s1.2 + 1)).bind fun v3 =>
   some (.inl (v2,v3)))) (
  some (.inr (.inl s1.1)))
def zR9 (x0:List Int) (x1:Int):Option Int :=
 (zH (zKz x0) (x1,0)).bind fun r4 =>
 match r4 with
 | (.inl r4) =>
  some r4
 | (.inr r4) =>
  some r4
def zRA (x0:List (List Int)) (s1:Int × Int):Option ((Int × Int) ⊕ (Int ⊕ Int)) :=
 cond (decide (s1.2 < (x0.length:Int))) (
  (ixO x0 s1.2).bind fun v1 =>
  (zR9 v1 s1.1).bind fun r2 =>
  cond (decide (r2 < 0)) (
   some (.inr (.inr (-1)))) (
   (rng (s1.2 + 1)).bind fun v3 =>
   some (.inl (r2,v3)))) (
  some (.inr (.inl s1.1)))
def zTi (x0:List (List Int)) (x1:Int):Option Int :=
 (zH (zRA x0) (x1,0)).bind fun r4 =>
 match r4 with
 | (.inl r4) =>
  some r4
 | (.inr r4) =>
  some r4
def zK0 (x0:List (List Int)) (s1:(List (List Int)) × Int):Option (((List (List Int)) × Int) ⊕ (List (List Int))) :=
 cond (decide (s1.2 < (x0.length:Int))) (
  (ixO x0 s1.2).bind fun v1 =>
  (rng ((v1.length:Int) + (x0.length:Int))).bind fun v2 =>
  (yZ v2).bind fun m3 =>
  (rng ((v1.length:Int) + s1.2)).bind fun v4 =>
  (ixO (xW (List.replicate m3 (0:Int)) 0 (v1.take (((List.replicate m3 (0:Int)).length) - 0))) v4).bind fun _ =>
  (xQ s1.1 [(xW (List.replicate m3 (0:Int)) 0 (v1.take (((List.replicate m3 (0:Int)).length) - 0))).set v4.toNat 1]).bind fun v6 =>
  (rng (s1.2 + 1)).bind fun v7 =>
  some (.inl (v6,v7))) (
  some (.inr s1.1))
def zRB (x0:List (List Int)):Option (List (List Int)) :=
 (zH (zK0 x0) ([],0)).bind fun r8 =>
 some r8
def zK1 (x0:List (List Int)) (s1:(List (List Int)) × Int):Option (((List (List Int)) × Int) ⊕ (List (List Int))) :=
 cond (decide (s1.2 < (x0.length:Int))) (
  (ixO x0 s1.2).bind fun v1 =>
  (f_x v1).bind fun r2 =>
  (xQ s1.1 [r2]).bind fun v3 =>
  (rng (s1.2 + 1)).bind fun v4 =>
  some (.inl (v3,v4))) (
  some (.inr s1.1))
def zTj (x0:List (List Int)):Option (List (List Int)) :=
 (zH (zK1 x0) ([],0)).bind fun r5 =>
 some r5
def zOq  (s1:Int × Int × Int × Int):Option ((Int × Int × Int × Int) ⊕ (Int × Int)) :=
 cond (s1.2.1 != 0) (
  (tV s1.1 s1.2.1).bind fun v1 =>
  (rng (v1 * s1.2.1)).bind fun v2 =>
  (rng (s1.1 - v2)).bind fun v3 =>
  (rng (v1 * s1.2.2.2)).bind fun v4 =>
  (rng (s1.2.2.1 - v4)).bind fun v5 =>
  some (.inl (s1.2.1,v3,s1.2.2.2,v5))) (
  some (.inr (s1.1,s1.2.2.1)))
def f_O (x0:Int) (x1:Int):Option (Int × Bool) :=
 (zH zOq (x1,x0,0,1)).bind fun r6 =>
 (zGY r6.2 x1).bind fun r7 =>
 some (r7,(r6.1 == 1))
def zGZ (s13:(List (List Int)) × Int × Int) (s14:Int):Option (Int ⊕ Int) :=
 cond (decide (s14 < (s13.1.length:Int))) (
  (ixO s13.1 s14).bind fun v3 =>
  (ixO v3 s13.2.2).bind fun v4 =>
  cond (v4 == 0) (
   (rng (s14 + 1)).bind fun v5 =>
   some (.inl v5)) (
   some (.inr s14))) (
  some (.inr s14))
def zK2 (x0:Int) (s13:(List (List Int)) × Int × Int) (r12:Int × Bool) (v13:List Int) (s16:(List (List Int)) × Int):Option (((List (List Int)) × Int) ⊕ (List (List Int))) :=
 cond (decide (s16.2 < (v13.length:Int))) (
  (ixO s16.1 s13.2.1).bind fun v14 =>
  (ixO s16.1 s13.2.1).bind fun v15 =>
  (ixO v15 s16.2).bind fun v16 =>
  (rng (v16 * r12.1)).bind fun v17 =>
  (uQ v17 x0).bind fun v18 =>
  (ixO v14 s16.2).bind fun _ =>
  (rng (s16.2 + 1)).bind fun v20 =>
  some (.inl (s16.1.set s13.2.1.toNat (v14.set s16.2.toNat v18),v20))) (
  some (.inr s16.1))
def zLV (x0:Int) (s13:(List (List Int)) × Int × Int) (r21:(List (List Int))) (s18:(List (List Int)) × Int):Option (((List (List Int)) × Int) ⊕ (List (List Int))) :=
 cond (decide (s18.2 < (r21.length:Int))) (
  cond (s18.2 != s13.2.1) (
   (ixO s18.1 s18.2).bind fun v22 =>
   (ixO s18.1 s13.2.1).bind fun v23 =>
   (ixO s18.1 s18.2).bind fun v24 =>
   (ixO v24 s13.2.2).bind fun v25 =>
   (rng (0 - v25)).bind fun v26 =>
   (f_v v22 v23 v26 x0).bind fun r27 =>
   (rng (s18.2 + 1)).bind fun v28 =>
   some (.inl (s18.1.set s18.2.toNat r27,v28))) (
   (rng (s18.2 + 1)).bind fun v29 =>
   some (.inl (s18.1,v29)))) (
  some (.inr s18.1))
def zLW (x0:Int) (s13:(List (List Int)) × Int × Int):Option (((List (List Int)) × Int × Int) ⊕ ((List (List Int)) × Int)) :=
 cond (decide ((s13.1.length:Int) > 0)) (
  (ixO s13.1 0).bind fun v2 =>
  cond (decide (s13.2.2 < (v2.length:Int))) (
   cond (decide (s13.2.1 < (s13.1.length:Int))) (
    (zH (zGZ s13) s13.2.1).bind fun r6 =>
    cond (r6 == (s13.1.length:Int)) (
     (rng (s13.2.2 + 1)).bind fun v7 =>
     some (.inl (s13.1,s13.2.1,v7))) (
     (ixO s13.1 r6).bind fun v8 =>
     (ixO s13.1 s13.2.1).bind fun v9 =>
     (ixO (sZ s13.1 s13.2.1 r6 v8 v9) s13.2.1).bind fun v10 =>
     (ixO v10 s13.2.2).bind fun v11 =>
     (f_O v11 x0).bind fun r12 =>
     (ixO (sZ s13.1 s13.2.1 r6 v8 v9) s13.2.1).bind fun v13 =>
     (zH (zK2 x0 s13 r12 v13) (sZ s13.1 s13.2.1 r6 v8 v9,0)).bind fun r21 =>
     (zH (zLV x0 s13 r21) (r21,0)).bind fun r30 =>
     (rng (s13.2.1 + 1)).bind fun v31 =>
     (rng (s13.2.2 + 1)).bind fun v32 =>
     some (.inl (r30,v31,v32)))) (
    some (.inr (s13.1,s13.2.1)))) (
   some (.inr (s13.1,s13.2.1)))) (
  some (.inr (s13.1,s13.2.1)))
def f_g (x0:Int) (x1:List (List Int)):Option (List (List Int)) :=
 (zTj x1).bind fun r1 =>
 (zH (zLW x0) (r1,0,0)).bind fun r33 =>
 (zX r33.1 0 r33.2).bind fun v34 =>
 some v34
def zRC (x0:Int) (x1:Int):Option Int :=
 (uQ x0 x1).bind fun v1 =>
 cond (decide (v1 < 0)) (
  (rng (v1 + x1)).bind fun v2 =>
  some v2) (
  some v1)
def zHa (x0:List Int) (s1:Int):Option (Int ⊕ (Unit ⊕ Int)) :=
 cond (decide (s1 < (x0.length:Int))) (
  (ixO x0 s1).bind fun v1 =>
  cond (v1 != 0) (
   some (.inr (.inr s1))) (
   (rng (s1 + 1)).bind fun v2 =>
   some (.inl v2))) (
  some (.inr (.inl ())))
def f_A (x0:List Int):Option Int :=
 (zH (zHa x0) 0).bind fun r3 =>
 match r3 with
 | (.inl r3) =>
  some (x0.length:Int)
 | (.inr r3) =>
  some r3
def zRD (x0:Int) (x2:Int) (x3:List Int) (s1:(List Int) × Int):Option (((List Int) × Int) ⊕ (List Int)) :=
 cond (decide (s1.2 < (s1.1.length:Int))) (
  cond (decide (s1.2 < (x3.length:Int))) (
   (ixO s1.1 s1.2).bind fun v2 =>
   (ixO x3 s1.2).bind fun v3 =>
   (rng (x2 * v3)).bind fun v4 =>
   (rng (v2 + v4)).bind fun v5 =>
   (zRC v5 x0).bind fun r6 =>
   (ixO s1.1 s1.2).bind fun _ =>
   (rng (s1.2 + 1)).bind fun v8 =>
   some (.inl (s1.1.set s1.2.toNat r6,v8))) (
   some (.inr s1.1))) (
  some (.inr s1.1))
def f_s (x0:Int) (x1:List Int) (x2:Int) (x3:List Int):Option (List Int) :=
 (f_t x1).bind fun r1 =>
 (zH (zRD x0 x2 x3) (r1,0)).bind fun r9 =>
 some r9
def zRE (x0:Int) (x1:List (List Int)) (s1:(List Int) × Int):Option (((List Int) × Int) ⊕ (List Int)) :=
 cond (decide (s1.2 < (x1.length:Int))) (
  (ixO x1 s1.2).bind fun v2 =>
  (f_A v2).bind fun r3 =>
  cond (decide (r3 < (s1.1.length:Int))) (
   (ixO s1.1 r3).bind fun v4 =>
   cond (v4 != 0) (
    (ixO s1.1 r3).bind fun v5 =>
    (rng (x0 - v5)).bind fun v6 =>
    (ixO x1 s1.2).bind fun v7 =>
    (f_s x0 s1.1 v6 v7).bind fun r8 =>
    (rng (s1.2 + 1)).bind fun v9 =>
    some (.inl (r8,v9))) (
    (rng (s1.2 + 1)).bind fun v10 =>
    some (.inl (s1.1,v10)))) (
   (rng (s1.2 + 1)).bind fun v11 =>
   some (.inl (s1.1,v11)))) (
  some (.inr s1.1))
def f_Z (x0:Int) (x1:List (List Int)) (x2:List Int):Option (List Int) :=
 (f_t x2).bind fun r1 =>
 (zH (zRE x0 x1) (r1,0)).bind fun r12 =>
 some r12
def zK3 (x0:Int) (x1:Int) (s1:Int):Option (Int ⊕ (Unit ⊕ Int)) :=
 cond (decide (s1 < x1)) (
  (zRC x0 x1).bind fun r1 =>
  (rng (r1 * s1)).bind fun v2 =>
  (uQ v2 x1).bind fun v3 =>
  cond (v3 == 1) (
   some (.inr (.inr s1))) (
   (rng (s1 + 1)).bind fun v4 =>
   some (.inl v4))) (
  some (.inr (.inl ())))
def zTk (x0:Int) (x1:Int):Option Int :=
 (zH (zK3 x0 x1) 1).bind fun r5 =>
 match r5 with
 | (.inl r5) =>
  some 0
 | (.inr r5) =>
  some r5
def zRF (x0:Int) (x1:Int) (x2:List Int):Option (List Int) :=
 (yZ (x2.length:Int)).bind fun m1 =>
 (f_s x0 (List.replicate m1 (0:Int)) x1 x2).bind fun r2 =>
 some r2
def zHb (x0:Int) (s5:(List (List Int)) × Int) (r3:Int) (r7:(List Int)) (s6:(List (List Int)) × Bool × Int):Option (((List (List Int)) × Bool × Int) ⊕ ((List (List Int)) × Bool)) :=
 cond (decide (s6.2.2 < (s5.1.length:Int))) (
  cond (!s6.2.1) (
   (ixO s5.1 s6.2.2).bind fun v8 =>
   (f_A v8).bind fun r9 =>
   cond (decide (r9 > r3)) (
    (xQ s6.1 [r7]).bind fun v10 =>
    (ixO s5.1 s6.2.2).bind fun v11 =>
    (ixO s5.1 s6.2.2).bind fun v12 =>
    (ixO v12 r3).bind fun v13 =>
    (rng (x0 - v13)).bind fun v14 =>
    (f_s x0 v11 v14 r7).bind fun r15 =>
    (xQ v10 [r15]).bind fun v16 =>
    (rng (s6.2.2 + 1)).bind fun v17 =>
    some (.inl (v16,true,v17))) (
    (ixO s5.1 s6.2.2).bind fun v18 =>
    (ixO s5.1 s6.2.2).bind fun v19 =>
    (ixO v19 r3).bind fun v20 =>
    (rng (x0 - v20)).bind fun v21 =>
    (f_s x0 v18 v21 r7).bind fun r22 =>
    (xQ s6.1 [r22]).bind fun v23 =>
    (rng (s6.2.2 + 1)).bind fun v24 =>
    some (.inl (v23,s6.2.1,v24)))) (
   (ixO s5.1 s6.2.2).bind fun v25 =>
   (ixO s5.1 s6.2.2).bind fun v26 =>
   (ixO v26 r3).bind fun v27 =>
   (rng (x0 - v27)).bind fun v28 =>
   (f_s x0 v25 v28 r7).bind fun r29 =>
   (xQ s6.1 [r29]).bind fun v30 =>
   (rng (s6.2.2 + 1)).bind fun v31 =>
   some (.inl (v30,s6.2.1,v31)))) (
  some (.inr (s6.1,s6.2.1)))
def zOr (x0:Int) (x1:List (List Int)) (s5:(List (List Int)) × Int):Option (((List (List Int)) × Int) ⊕ (List (List Int))) :=
 cond (decide (s5.2 < (x1.length:Int))) (
  (ixO x1 s5.2).bind fun v1 =>
  (f_Z x0 s5.1 v1).bind fun r2 =>
  (f_A r2).bind fun r3 =>
  cond (r3 == (r2.length:Int)) (
   (rng (s5.2 + 1)).bind fun v4 =>
   some (.inl (s5.1,v4))) (
   (ixO r2 r3).bind fun v5 =>
   (zTk v5 x0).bind fun r6 =>
   (zRF x0 r6 r2).bind fun r7 =>
   (zH (zHb x0 s5 r3 r7) ([],false,0)).bind fun r32 =>
   cond (!r32.2) (
    (xQ r32.1 [r7]).bind fun v33 =>
    (rng (s5.2 + 1)).bind fun v34 =>
    some (.inl (v33,v34))) (
    (rng (s5.2 + 1)).bind fun v35 =>
    some (.inl (r32.1,v35))))) (
  some (.inr s5.1))
def f_m (x0:Int) (x1:List (List Int)):Option (List (List Int)) :=
 (zH (zOr x0 x1) ([],0)).bind fun r36 =>
 some r36
def zK4 (x1:List (List Int)) (r1:(List (List Int))) (s1:(List (List Int)) × Int):Option (((List (List Int)) × Int) ⊕ (List (List Int))) :=
 cond (decide (s1.2 < (x1.length:Int))) (
  (ixO x1 s1.2).bind fun v2 =>
  (f_t v2).bind fun r3 =>
  (ixO r1 s1.2).bind fun v4 =>
  (xQ r3 v4).bind fun v5 =>
  (xQ s1.1 [v5]).bind fun v6 =>
  (rng (s1.2 + 1)).bind fun v7 =>
  some (.inl (v6,v7))) (
  some (.inr s1.1))
def zRG (x0:Int) (x1:List (List Int)):Option (List (List Int)) :=
 (f_H (x1.length:Int)).bind fun r1 =>
 (zH (zK4 x1 r1) ([],0)).bind fun r8 =>
 (f_m x0 r8).bind fun r9 =>
 some r9
def zHM (x2:Int) (r1:(List (List Int))) (s1:(List (List Int)) × Int):Option (((List (List Int)) × Int) ⊕ (List (List Int))) :=
 cond (decide (s1.2 < (r1.length:Int))) (
  (ixO r1 s1.2).bind fun v2 =>
  (f_A v2).bind fun r3 =>
  cond (decide (r3 ≥ x2)) (
   (ixO r1 s1.2).bind fun v4 =>
   (zX v4 x2 v4.length).bind fun v5 =>
   (f_t v5).bind fun r6 =>
   (xQ s1.1 [r6]).bind fun v7 =>
   (rng (s1.2 + 1)).bind fun v8 =>
   some (.inl (v7,v8))) (
   (rng (s1.2 + 1)).bind fun v9 =>
   some (.inl (s1.1,v9)))) (
  some (.inr s1.1))
def zTl (x0:Int) (x1:List (List Int)) (x2:Int):Option (List (List Int)) :=
 (zRG x0 x1).bind fun r1 =>
 (zH (zHM x2 r1) ([],0)).bind fun r10 =>
 some r10
def zTm (x0:SPr):Option Int :=
 (rng ((x0.zA.length:Int) - 1)).bind fun v1 =>
 (rng ((x0.zA.length:Int) * v1)).bind fun v2 =>
 (tV v2 2).bind fun v3 =>
 (rng ((x0.zA.length:Int) + v3)).bind fun v4 =>
 some v4
def zV2 (x0:Int) (x1:Int) (x2:Int):Option Int :=
 (rng (x1 * x0)).bind fun v1 =>
 (rng (x0 + v1)).bind fun v2 =>
 (rng (x1 + 1)).bind fun v3 =>
 (rng (x1 * v3)).bind fun v4 =>
 (tV v4 2).bind fun v5 =>
 (rng (v2 - v5)).bind fun v6 =>
 (rng (v6 + x2)).bind fun v7 =>
 (rng (v7 - x1)).bind fun v8 =>
 (rng (v8 - 1)).bind fun v9 =>
 some v9
def zTn (x0:SPr):Option Int :=
 (rng ((x0.zA.length:Int) + 1)).bind fun v1 =>
 (rng ((x0.zA.length:Int) * v1)).bind fun v2 =>
 (tV v2 2).bind fun v3 =>
 some v3
def zOs (x0:List Int) (x1:Int) (s1:(List (List Int)) × Int):Option (((List (List Int)) × Int) ⊕ (List (List Int))) :=
 cond (decide (s1.2 < (x0.length:Int))) (
  (rng (s1.2 + x1)).bind fun v1 =>
  (zX x0 s1.2 v1).bind fun v2 =>
  (f_x v2).bind fun r3 =>
  (xQ s1.1 [r3]).bind fun v4 =>
  (rng (s1.2 + x1)).bind fun v5 =>
  some (.inl (v4,v5))) (
  some (.inr s1.1))
def f_W (x0:List Int) (x1:Int):Option (List (List Int)) :=
 (zH (zOs x0 x1) ([],0)).bind fun r6 =>
 some r6
def zOt (x0:List Int) (s6:(List (List Int)) × Int):Option (((List (List Int)) × Int) ⊕ (List (List Int))) :=
 cond (decide (s6.2 < (x0.length:Int))) (
  (zID (x0.length:Int) s6.2).bind fun r5 =>
  (xQ s6.1 [r5]).bind fun v6 =>
  (rng (s6.2 + 1)).bind fun v7 =>
  some (.inl (v6,v7))) (
  some (.inr s6.1))
def zOu (x0:List Int) (s5:(List (List Int)) × (List (List (List Int))) × Int):Option (((List (List Int)) × (List (List (List Int))) × Int) ⊕ ((List (List Int)) × (List (List (List Int))))) :=
 cond (decide (s5.2.2 < (x0.length:Int))) (
  (yZ (x0.length:Int)).bind fun m2 =>
  (xQ s5.1 [List.replicate m2 (0:Int)]).bind fun v3 =>
  (rng (s5.2.2 + 1)).bind fun v4 =>
  (zH (zOt x0) ([],v4)).bind fun r8 =>
  (xQ s5.2.1 [r8]).bind fun v9 =>
  (rng (s5.2.2 + 1)).bind fun v10 =>
  some (.inl (v3,v9,v10))) (
  some (.inr (s5.1,s5.2.1)))
def f_y (x0:List Int):Option SPr :=
 (f_x x0).bind fun r1 =>
 (zH (zOu x0) ([],[],0)).bind fun r11 =>
 some (SPr.mk r1 r11.1 r11.2)
def zOv (x0:SPr) (x2:List (List Int)) (s1:(List (List Int)) × Int × Int):Option (((List (List Int)) × Int × Int) ⊕ ((List (List Int)) × Int)) :=
 cond (decide (s1.2.2 < (x0.zU.length:Int))) (
  (ixO x0.zU s1.2.2).bind fun v5 =>
  (ixO x2 s1.2.1).bind fun v6 =>
  (f_r [v5,v6]).bind fun r7 =>
  (ixO s1.1 s1.2.2).bind fun _ =>
  (rng (s1.2.1 + 1)).bind fun v9 =>
  (rng (s1.2.2 + 1)).bind fun v10 =>
  some (.inl (s1.1.set s1.2.2.toNat r7,v9,v10))) (
  some (.inr (s1.1,s1.2.1)))
def zOw (x2:List (List Int)) (s11:(List (List (List Int))) × Int × Int) (v12:List (List Int)) (s12:(List (List (List Int))) × Int × Int):Option (((List (List (List Int))) × Int × Int) ⊕ ((List (List (List Int))) × Int)) :=
 cond (decide (s12.2.2 < (v12.length:Int))) (
  (ixO v12 s12.2.2).bind fun v13 =>
  (ixO s12.1 s11.2.2).bind fun v14 =>
  (ixO x2 s12.2.1).bind fun v15 =>
  (f_r [v13,v15]).bind fun r16 =>
  (ixO v14 s12.2.2).bind fun _ =>
  (rng (s12.2.1 + 1)).bind fun v18 =>
  (rng (s12.2.2 + 1)).bind fun v19 =>
  some (.inl (s12.1.set s11.2.2.toNat (v14.set s12.2.2.toNat r16),v18,v19))) (
  some (.inr (s12.1,s12.2.1)))
def zOx (x0:SPr) (s11:(List (List (List Int))) × Int × Int) (v21:List (List Int)) (s14:(List (List (List Int))) × Int):Option (((List (List (List Int))) × Int) ⊕ (List (List (List Int)))) :=
 cond (decide (s14.2 < (v21.length:Int))) (
  (ixO v21 s14.2).bind fun v22 =>
  (ixO s14.1 s11.2.2).bind fun v23 =>
  (rng ((x0.zA.length:Int) - 1)).bind fun v24 =>
  (rng (v24 - s11.2.2)).bind fun v25 =>
  (rng (v25 + s14.2)).bind fun v26 =>
  (zR3 v22 (x0.zA.length:Int) 0).bind fun r27 =>
  (ixO v23 v26).bind fun _ =>
  (rng (s14.2 + 1)).bind fun v29 =>
  some (.inl (s14.1.set s11.2.2.toNat (v23.set v26.toNat r27),v29))) (
  some (.inr s14.1))
def zOy (x0:SPr) (x1:zC) (x2:List (List Int)) (s11:(List (List (List Int))) × Int × Int):Option (((List (List (List Int))) × Int × Int) ⊕ (List (List (List Int)))) :=
 cond (decide (s11.2.2 < (x0.zA.length:Int))) (
  (ixO x0.zB s11.2.2).bind fun v12 =>
  (zH (zOw x2 s11 v12) (s11.1,s11.2.1,0)).bind fun r20 =>
  (ixO x1.zI s11.2.2).bind fun v21 =>
  (zH (zOx x0 s11 v21) (r20.1,0)).bind fun r30 =>
  (rng (s11.2.2 + 1)).bind fun v31 =>
  some (.inl (r30,r20.2,v31))) (
  some (.inr s11.1))
def f_j (x0:SPr) (x1:zC) (x2:List (List Int)):Option SPr :=
 (f_x x0.zA).bind fun r1 =>
 (f_i [x1.Prime] x1.Dim).bind fun r2 =>
 (xQ r1 r2).bind fun v3 =>
 (f_y v3).bind fun r4 =>
 (zH (zOv x0 x2) (r4.zU,0,0)).bind fun r11 =>
 (zH (zOy x0 x1 x2) (r4.zB,r11.2,0)).bind fun r32 =>
 some (SPr.mk r4.zA r11.1 r32)
def zK5 (x0:zC) (x1:List (List Int)) (s1:Int):Option (Int ⊕ (Unit ⊕ Bool)) :=
 cond (decide (s1 < (x1.length:Int))) (
  (ixO x1 s1).bind fun v1 =>
  (zQN x0.Prime x0.Dim v1).bind fun r2 =>
  cond (!r2) (
   some (.inr (.inr false))) (
   (rng (s1 + 1)).bind fun v3 =>
   some (.inl v3))) (
  some (.inr (.inl ())))
def zV3 (x0:zC) (x1:List (List Int)):Option Bool :=
 (zH (zK5 x0 x1) 0).bind fun r4 =>
 match r4 with
 | (.inl r4) =>
  some true
 | (.inr r4) =>
  some r4
def zK6 (x0:zC) (x1:List (List Int)) (x2:List Int) (x3:Int):Option (List Int) :=
 (ixO x0.zI x3).bind fun v1 =>
 (f_F x0.Prime x2 v1 x0.Dim).bind fun r2 =>
 (ixO x1 x3).bind fun v3 =>
 (f_s x0.Prime r2 1 v3).bind fun r4 =>
 some r4
def zRH (x0:zC) (x1:List (List Int)) (x3:List Int) (s5:(List Int) × Int) (s6:(List Int) × Int):Option (((List Int) × Int) ⊕ (List Int)) :=
 (ixO x3 s5.2).bind fun v1 =>
 cond (decide (s6.2 < v1)) (
  (zK6 x0 x1 s6.1 s5.2).bind fun r2 =>
  (rng (s6.2 + 1)).bind fun v3 =>
  some (.inl (r2,v3))) (
  some (.inr s6.1))
def zRI (x0:zC) (x1:List (List Int)) (x3:List Int) (s5:(List Int) × Int):Option (((List Int) × Int) ⊕ (List Int)) :=
 cond (decide (s5.2 < (x3.length:Int))) (
  (zH (zRH x0 x1 x3 s5) (s5.1,0)).bind fun r4 =>
  (rng (s5.2 + 1)).bind fun v5 =>
  some (.inl (r4,v5))) (
  some (.inr s5.1))
def f_K (x0:zC) (x1:List (List Int)) (x2:List Int) (x3:List Int):Option (List Int) :=
 (zH (zRI x0 x1 x3) (x2,0)).bind fun r6 =>
 some r6
def zUk (x0:List Int) (s1:Int):Option (Int ⊕ (Unit ⊕ Bool)) :=
 cond (decide (s1 < (x0.length:Int))) (
  (ixO x0 s1).bind fun v1 =>
  cond (v1 != 0) (
   some (.inr (.inr false))) (
   (rng (s1 + 1)).bind fun v2 =>
   some (.inl v2))) (
  some (.inr (.inl ())))
def zRJ (x0:List Int):Option Bool :=
 (zH (zUk x0) 0).bind fun r3 =>
 match r3 with
 | (.inl r3) =>
  some true
 | (.inr r3) =>
  some r3
def zNy (x0:zC) (x1:List (List Int)) (s1:Int):Option (Int ⊕ (Unit ⊕ Bool)) :=
 cond (decide (s1 < (x1.length:Int))) (
  (ixO x1 s1).bind fun v1 =>
  (zRo v1 x0.Prime x0.Dim).bind fun r2 =>
  cond (!r2) (
   some (.inr (.inr false))) (
   (rng (s1 + 1)).bind fun v3 =>
   some (.inl v3))) (
  some (.inr (.inl ())))
def zV4 (x0:zC) (x1:List (List Int)):Option Bool :=
 (zH (zNy x0 x1) 0).bind fun r4 =>
 match r4 with
 | (.inl r4) =>
  some true
 | (.inr r4) =>
  some r4
def zK7 (x0:zC) (x1:List (List Int)) (x2:List Int) (s1:(List Int) × Int):Option (((List Int) × Int) ⊕ (List Int)) :=
 cond (decide (s1.2 < (x2.length:Int))) (
  (ixO x2 s1.2).bind fun v2 =>
  (rng (v2 - 1)).bind fun v3 =>
  (zLU x0 v3).bind fun r4 =>
  (zRv s1.1 r4).bind fun r5 =>
  (rng (v2 - 1)).bind fun v6 =>
  (ixO x1 v6).bind fun v7 =>
  (f_v r5 v7 1 x0.Prime).bind fun r8 =>
  (rng (s1.2 + 1)).bind fun v9 =>
  some (.inl (r8,v9))) (
  some (.inr s1.1))
def zRK (x0:zC) (x1:List (List Int)) (x2:List Int):Option (List Int) :=
 (yZ x0.Dim).bind fun m1 =>
 (zH (zK7 x0 x1 x2) (List.replicate m1 (0:Int),0)).bind fun r10 =>
 some r10
def zK8 (x1:zC) (x2:List (List Int)) (r1:(List ((List Int) × (List Int)))) (s1:(List (List Int)) × Int):Option (((List (List Int)) × Int) ⊕ (List (List Int))) :=
 cond (decide (s1.2 < (r1.length:Int))) (
  (ixO r1 s1.2).bind fun v2 =>
  (zRK x1 x2 v2.1).bind fun r3 =>
  (zRK x1 x2 v2.2).bind fun r4 =>
  (f_v r3 r4 (-1) x1.Prime).bind fun r5 =>
  (xQ s1.1 [r5]).bind fun v6 =>
  (rng (s1.2 + 1)).bind fun v7 =>
  some (.inl (v6,v7))) (
  some (.inr s1.1))
def zTo (x0:SPr) (x1:zC) (x2:List (List Int)):Option (List (List Int)) :=
 (f_w x0).bind fun r1 =>
 (zH (zK8 x1 x2 r1) ([],0)).bind fun r8 =>
 some r8
def zRL (x0:SPr) (x1:zC) (x2:List (List Int)):Option Bool :=
 (zTm x0).bind fun r1 =>
 cond ((x2.length:Int) == r1) (
  (zV3 x1 x2).bind fun r2 =>
  some r2) (
  some false)
def zK9 (x0:zP):Option zE :=
 cond (decide ((x0.zKG.length:Int) > 0)) (
  (ixO x0.zKG 0).bind fun v1 =>
  (yZ (x0.p.zA.length:Int)).bind fun m2 =>
  (yZ (v1.length:Int)).bind fun m3 =>
  some (zE.mk (List.replicate m2 (0:Int)) (List.replicate m3 (0:Int)))) (
  (yZ (x0.p.zA.length:Int)).bind fun m4 =>
  (yZ 0).bind fun m5 =>
  some (zE.mk (List.replicate m4 (0:Int)) (List.replicate m5 (0:Int))))
def f_X (x0:zP) (x1:Int) (x2:Int):Option zE :=
 (ixO x0.p.zB x1).bind fun v1 =>
 (rng (x2 - x1)).bind fun v2 =>
 (rng (v2 - 1)).bind fun v3 =>
 (ixO v1 v3).bind fun v4 =>
 (zV2 (x0.p.zA.length:Int) x1 x2).bind fun r5 =>
 (ixO x0.zKG r5).bind fun v6 =>
 some (zE.mk v4 v6)
def zHN (x0:zC) (x1:List Int) (x2:Int) (s1:(List Int) × Int):Option (((List Int) × Int) ⊕ (List Int)) :=
 cond (decide (s1.2 < (x1.length:Int))) (
  (rng (s1.2 + x0.Dim)).bind fun v1 =>
  (zX x1 s1.2 v1).bind fun v2 =>
  (ixO x0.zI x2).bind fun v3 =>
  (f_F x0.Prime v2 v3 x0.Dim).bind fun r4 =>
  (xQ s1.1 r4).bind fun v5 =>
  (rng (s1.2 + x0.Dim)).bind fun v6 =>
  some (.inl (v5,v6))) (
  some (.inr s1.1))
def zTp (x0:zC) (x1:List Int) (x2:Int):Option (List Int) :=
 (zH (zHN x0 x1 x2) ([],0)).bind fun r7 =>
 some r7
def zLX (x0:zP) (x1:Int):Option zE :=
 (ixO x0.p.zU x1).bind fun v1 =>
 (ixO x0.zKG x1).bind fun v2 =>
 some (zE.mk v1 v2)
def zTq (g_d:zP → Int → zE → zE → Option zE) (x0:zP) (x1:Int) (x2:zE) (s5:(List Int) × (List Int) × Int) (s6:(List Int) × (List Int) × Int):Option (((List Int) × (List Int) × Int) ⊕ ((List Int) × (List Int))) :=
 (ixO x2.x s5.2.2).bind fun v3 =>
 cond (decide (s6.2.2 < v3)) (
  (rng (x1 + 1)).bind fun v4 =>
  (f_X x0 x1 s5.2.2).bind fun r5 =>
  (g_d x0 v4 (zE.mk s6.1 s6.2.1) r5).bind fun r6 =>
  (rng (s6.2.2 + 1)).bind fun v7 =>
  some (.inl (r6.x,r6.v,v7))) (
  some (.inr (s6.1,s6.2.1)))
def zRM (g_d:zP → Int → zE → zE → Option zE) (x0:zP) (x1:Int) (x2:zE) (s5:(List Int) × (List Int) × Int):Option (((List Int) × (List Int) × Int) ⊕ ((List Int) × (List Int))) :=
 cond (decide (s5.2.2 < (x2.x.length:Int))) (
  (zH (zTq g_d x0 x1 x2 s5) (s5.1,s5.2.1,0)).bind fun r8 =>
  (rng (s5.2.2 + 1)).bind fun v9 =>
  some (.inl (r8.1,r8.2,v9))) (
  some (.inr (s5.1,s5.2.1)))
def b_f (g_d:zP → Int → zE → zE → Option zE) (x0:zP) (x1:Int) (x2:zE):Option zE :=
 (zK9 x0).bind fun r1 =>
 (rng (x1 + 1)).bind fun v2 =>
 (zH (zRM g_d x0 x1 x2) (r1.x,r1.v,v2)).bind fun r10 =>
 (zTp x0.m x2.v x1).bind fun r11 =>
 (f_s x0.m.Prime r10.2 1 r11).bind fun r12 =>
 some (zE.mk r10.1 r12)
def zOz (g_f:zP → Int → zE → Option zE) (x0:zP) (x1:Int) (x3:zE) (s1:(List Int) × (List Int) × Int):Option (((List Int) × (List Int) × Int) ⊕ ((List Int) × (List Int))) :=
 (ixO x3.x x1).bind fun v7 =>
 cond (decide (s1.2.2 < v7)) (
  (g_f x0 x1 (zE.mk s1.1 s1.2.1)).bind fun r8 =>
  (rng (s1.2.2 + 1)).bind fun v9 =>
  some (.inl (r8.x,r8.v,v9))) (
  some (.inr (s1.1,s1.2.1)))
def b_d (g_f:zP → Int → zE → Option zE) (g_d:zP → Int → zE → zE → Option zE) (x0:zP) (x1:Int) (x2:zE) (x3:zE):Option zE :=
 cond (decide (x1 ≥ (x0.p.zA.length:Int))) (
  (yZ (x0.p.zA.length:Int)).bind fun m1 =>
  (f_s x0.m.Prime x2.v 1 x3.v).bind fun r2 =>
  some (zE.mk (List.replicate m1 (0:Int)) r2)) (
  (f_t x2.x).bind fun r3 =>
  (f_t x3.x).bind fun r4 =>
  (ixO r3 x1).bind fun _ =>
  (ixO r4 x1).bind fun _ =>
  (zH (zOz g_f x0 x1 x3) (r3.set x1.toNat 0,x2.v,0)).bind fun r10 =>
  (rng (x1 + 1)).bind fun v11 =>
  (g_d x0 v11 (zE.mk r10.1 r10.2) (zE.mk (r4.set x1.toNat 0) x3.v)).bind fun r12 =>
  (ixO x2.x x1).bind fun v13 =>
  (ixO x3.x x1).bind fun v14 =>
  (rng (v13 + v14)).bind fun v15 =>
  (ixO x0.p.zA x1).bind fun v16 =>
  cond (decide (v15 ≥ v16)) (
   (ixO x0.p.zA x1).bind fun v17 =>
   (rng (v15 - v17)).bind fun v18 =>
   (rng (x1 + 1)).bind fun v19 =>
   (zLX x0 x1).bind fun r20 =>
   (g_d x0 v19 r20 r12).bind fun r21 =>
   (f_t r21.x).bind fun r22 =>
   (ixO r22 x1).bind fun _ =>
   some (zE.mk (r22.set x1.toNat v18) r21.v)) (
   (f_t r12.x).bind fun r24 =>
   (ixO r24 x1).bind fun _ =>
   some (zE.mk (r24.set x1.toNat v15) r12.v)))
mutual
def zLY:Nat → zP → Int → zE → Option zE
 | 0 => fun _ _ _ => none
 | n + 1 => b_f (zLZ n)
def zLZ:Nat → zP → Int → zE → zE → Option zE
 | 0 => fun _ _ _ _ => none
 | n + 1 => b_d (zLY n) (zLZ n)
end
def f_f (x0:zP) (x1:Int) (x2:zE):Option zE:=zC6 fun n => zLY n x0 x1 x2
def f_d (x0:zP) (x1:Int) (x2:zE) (x3:zE):Option zE:=zC6 fun n => zLZ n x0 x1 x2 x3
def zKA (x0:zP) (x1:zE) (x2:zE):Option (List Int) :=
 (rng (x0.m.Prime - 1)).bind fun v1 =>
 (f_s x0.m.Prime x1.v v1 x2.v).bind fun r2 =>
 some r2
def zO0 (x0:zP) (x1:Int) (s9:(List (List Int)) × Int) (s10:(List Int) × (List Int) × Int):Option (((List Int) × (List Int) × Int) ⊕ ((List Int) × (List Int))) :=
 (ixO x0.p.zA s9.2).bind fun v3 =>
 cond (decide (s10.2.2 < v3)) (
  (rng (x1 + 1)).bind fun v4 =>
  (f_X x0 x1 s9.2).bind fun r5 =>
  (f_d x0 v4 (zE.mk s10.1 s10.2.1) r5).bind fun r6 =>
  (rng (s10.2.2 + 1)).bind fun v7 =>
  some (.inl (r6.x,r6.v,v7))) (
  some (.inr (s10.1,s10.2.1)))
def zO1 (x0:zP) (x1:Int) (s9:(List (List Int)) × Int) (s12:(List (List Int)) × Int):Option (((List (List Int)) × Int) ⊕ (List (List Int))) :=
 cond (decide (s12.2 < (x0.p.zA.length:Int))) (
  (f_X x0 x1 s9.2).bind fun r14 =>
  (f_X x0 x1 s12.2).bind fun r15 =>
  (f_X x0 s9.2 s12.2).bind fun r16 =>
  (f_f x0 x1 r16).bind fun r17 =>
  (rng (x1 + 1)).bind fun v18 =>
  (f_d x0 v18 r15 r14).bind fun r19 =>
  (rng (x1 + 1)).bind fun v20 =>
  (f_d x0 v20 r14 r17).bind fun r21 =>
  (zKA x0 r19 r21).bind fun r22 =>
  (xQ s12.1 [r22]).bind fun v23 =>
  (rng (s12.2 + 1)).bind fun v24 =>
  some (.inl (v23,v24))) (
  some (.inr s12.1))
def zRN (x0:zP) (x1:Int) (s9:(List (List Int)) × Int):Option (((List (List Int)) × Int) ⊕ (List (List Int))) :=
 cond (decide (s9.2 < (x0.p.zA.length:Int))) (
  (zK9 x0).bind fun r2 =>
  (zH (zO0 x0 x1 s9) (r2.x,r2.v,0)).bind fun r8 =>
  (zLX x0 s9.2).bind fun r9 =>
  (f_f x0 x1 r9).bind fun r10 =>
  (zKA x0 (zE.mk r8.1 r8.2) r10).bind fun r11 =>
  (xQ s9.1 [r11]).bind fun v12 =>
  (rng (s9.2 + 1)).bind fun v13 =>
  (zH (zO1 x0 x1 s9) (v12,v13)).bind fun r25 =>
  (rng (s9.2 + 1)).bind fun v26 =>
  some (.inl (r25,v26))) (
  some (.inr s9.1))
def zRO (x0:zP) (x1:Int) (s20:(List Int) × (List Int) × Int):Option (((List Int) × (List Int) × Int) ⊕ ((List Int) × (List Int))) :=
 (ixO x0.p.zA x1).bind fun v35 =>
 cond (decide (s20.2.2 < v35)) (
  (f_f x0 x1 (zE.mk s20.1 s20.2.1)).bind fun r36 =>
  (rng (s20.2.2 + 1)).bind fun v37 =>
  some (.inl (r36.x,r36.v,v37))) (
  some (.inr (s20.1,s20.2.1)))
def zO2 (x0:zP) (x1:Int) (r28:zE) (s19:(List (List Int)) × Int):Option (((List (List Int)) × Int) ⊕ (List (List Int))) :=
 cond (decide (s19.2 < (x0.p.zA.length:Int))) (
  (zK9 x0).bind fun r33 =>
  (ixO r33.x s19.2).bind fun _ =>
  (zH (zRO x0 x1) (r33.x.set s19.2.toNat 1,r33.v,0)).bind fun r38 =>
  (rng (x1 + 1)).bind fun v39 =>
  (f_d x0 v39 r28 (zE.mk r38.1 r38.2)).bind fun r40 =>
  (rng (x1 + 1)).bind fun v41 =>
  (f_d x0 v41 (zE.mk (r33.x.set s19.2.toNat 1) r33.v) r28).bind fun r42 =>
  (zKA x0 r40 r42).bind fun r43 =>
  (xQ s19.1 [r43]).bind fun v44 =>
  (rng (s19.2 + 1)).bind fun v45 =>
  some (.inl (v44,v45))) (
  some (.inr s19.1))
def f_h (x0:zP) (x1:Int):Option (List (List Int)) :=
 (rng (x1 + 1)).bind fun v1 =>
 (zH (zRN x0 x1) ([],v1)).bind fun r27 =>
 (zLX x0 x1).bind fun r28 =>
 (f_f x0 x1 r28).bind fun r29 =>
 (zKA x0 r29 r28).bind fun r30 =>
 (xQ r27 [r30]).bind fun v31 =>
 (rng (x1 + 1)).bind fun v32 =>
 (zH (zO2 x0 x1 r28) (v31,v32)).bind fun r46 =>
 some r46
def zKB (x0:zP) (s1:(List (List Int)) × Int):Option (((List (List Int)) × Int) ⊕ (List (List Int))) :=
 cond (decide (s1.2 < (x0.p.zA.length:Int))) (
  (f_h x0 s1.2).bind fun r1 =>
  (xQ s1.1 r1).bind fun v2 =>
  (rng (s1.2 + 1)).bind fun v3 =>
  some (.inl (v2,v3))) (
  some (.inr s1.1))
def zTr (x0:zP):Option (List (List Int)) :=
 (zH (zKB x0) ([],0)).bind fun r4 =>
 some r4
def zKC (r1:(List (List Int))) (s1:Int):Option (Int ⊕ (Unit ⊕ Bool)) :=
 cond (decide (s1 < (r1.length:Int))) (
  (ixO r1 s1).bind fun v2 =>
  (zRJ v2).bind fun r3 =>
  cond (!r3) (
   some (.inr (.inr false))) (
   (rng (s1 + 1)).bind fun v4 =>
   some (.inl v4))) (
  some (.inr (.inl ())))
def zRP (x0:SPr) (x1:zC) (x2:List (List Int)):Option Bool :=
 (zTr (zP.mk x0 x1 x2)).bind fun r1 =>
 (zH (zKC r1) 0).bind fun r5 =>
 match r5 with
 | (.inl r5) =>
  some true
 | (.inr r5) =>
  some r5
def zTs (x0:SPr) (x1:zC) (x2:List (List Int)):Option Bool :=
 (zTn x0).bind fun r1 =>
 cond ((x2.length:Int) == r1) (
  (zV4 x1 x2).bind fun r2 =>
  some r2) (
  some false)
def zTt (x0:SPr) (x1:zC) (x2:List (List Int)):Option Bool :=
 (f_j x0 x1 x2).bind fun r1 =>
 (f_N r1).bind fun r2 =>
 some (r2 == 0)
def zTu (x0:Int):Option Bool :=
 some (x0 != 0)
def zHO (x0:List Int) (s1:Int):Option (Int ⊕ (Unit ⊕ Int)) :=
 cond (decide (s1 < (x0.length:Int))) (
  (ixO x0 s1).bind fun v1 =>
  (zTu v1).bind fun r2 =>
  cond r2 (
   some (.inr (.inr s1))) (
   (rng (s1 + 1)).bind fun v3 =>
   some (.inl v3))) (
  some (.inr (.inl ())))
def zTv (x0:List Int):Option Int :=
 (zH (zHO x0) 0).bind fun r4 =>
 match r4 with
 | (.inl r4) =>
  some (-1)
 | (.inr r4) =>
  some r4
def zKD (x0:List (List Int)) (s1:(List Int) × Int):Option (((List Int) × Int) ⊕ (List Int)) :=
 cond (decide (s1.2 < (x0.length:Int))) (
  (ixO x0 s1.2).bind fun v1 =>
  (zTv v1).bind fun r2 =>
  (xQ s1.1 [r2]).bind fun v3 =>
  (rng (s1.2 + 1)).bind fun v4 =>
  some (.inl (v3,v4))) (
  some (.inr s1.1))
def zTw (x0:List (List Int)):Option (List Int) :=
 (zH (zKD x0) ([],0)).bind fun r5 =>
 some r5
def zHP (x0:zV) (r2:(List Int)) (s1:(List Int) × Int):Option (((List Int) × Int) ⊕ (List Int)) :=
 cond (decide (s1.2 < (r2.length:Int))) (
  (ixO r2 s1.2).bind fun v3 =>
  (ixO x0.Rows s1.2).bind fun v4 =>
  (ixO s1.1 v3).bind fun v5 =>
  (rng (0 - v5)).bind fun v6 =>
  (f_v s1.1 v4 v6 x0.Prime).bind fun r7 =>
  (rng (s1.2 + 1)).bind fun v8 =>
  some (.inl (r7,v8))) (
  some (.inr s1.1))
def zTx (x0:zV) (x1:List Int):Option (List Int) :=
 (f_x x1).bind fun r1 =>
 (zTw x0.Rows).bind fun r2 =>
 (zH (zHP x0 r2) (r1,0)).bind fun r9 =>
 some r9
def zRQ (x0:List (List Int)) (s1:(List Int) × Int):Option (((List Int) × Int) ⊕ (List Int)) :=
 cond (decide (s1.2 < (x0.length:Int))) (
  (ixO x0 s1.2).bind fun v1 =>
  (xQ s1.1 v1).bind fun v2 =>
  (rng (s1.2 + 1)).bind fun v3 =>
  some (.inl (v2,v3))) (
  some (.inr s1.1))
def f_V (x0:List (List Int)):Option (List Int) :=
 (zH (zRQ x0) ([],0)).bind fun r4 =>
 some r4
def zHQ (x2:Int) (r2:(List (List Int))) (s1:(List (List Int)) × Int):Option (((List (List Int)) × Int) ⊕ (List (List Int))) :=
 cond (decide (s1.2 < (r2.length:Int))) (
  (ixO r2 s1.2).bind fun v3 =>
  (zX v3 0 x2).bind fun v4 =>
  (f_E v4).bind fun r5 =>
  cond r5 (
   (zX v3 x2 v3.length).bind fun v6 =>
   (xQ s1.1 [v6]).bind fun v7 =>
   (rng (s1.2 + 1)).bind fun v8 =>
   some (.inl (v7,v8))) (
   (rng (s1.2 + 1)).bind fun v9 =>
   some (.inl (s1.1,v9)))) (
  some (.inr s1.1))
def zTy (x0:Int) (x1:List (List Int)) (x2:Int):Option (List (List Int)) :=
 (zRB x1).bind fun r1 =>
 (f_g x0 r1).bind fun r2 =>
 (zH (zHQ x2 r2) ([],0)).bind fun r10 =>
 (f_g x0 r10).bind fun r11 =>
 some r11
def zO3 (x0:List Int) (x1:Int) (s1:(List (List Int)) × Int):Option (((List (List Int)) × Int) ⊕ (List (List Int))) :=
 (rng (s1.2 + x1)).bind fun v1 =>
 cond (decide (v1 ≤ (x0.length:Int))) (
  (rng (s1.2 + x1)).bind fun v2 =>
  (zX x0 s1.2 v2).bind fun v3 =>
  (f_t v3).bind fun r4 =>
  (xQ s1.1 [r4]).bind fun v5 =>
  (rng (s1.2 + x1)).bind fun v6 =>
  some (.inl (v5,v6))) (
  some (.inr s1.1))
def f_Q (x0:List Int) (x1:Int):Option (List (List Int)) :=
 (zH (zO3 x0 x1) ([],0)).bind fun r7 =>
 some r7
def zRR (x0:SPr) (x1:zC) (x2:List (List Int)) (s5:(List (List Int)) × Int) (s6:(List Int) × Int):Option (((List Int) × Int) ⊕ (List Int)) :=
 (ixO x0.zA s5.2).bind fun v2 =>
 cond (decide (s6.2 < v2)) (
  (zK6 x1 x2 s6.1 s5.2).bind fun r3 =>
  (rng (s6.2 + 1)).bind fun v4 =>
  some (.inl (r3,v4))) (
  some (.inr s6.1))
def zRS (x0:SPr) (x1:zC) (x2:List (List Int)) (m1:Nat) (s5:(List (List Int)) × Int):Option (((List (List Int)) × Int) ⊕ (List (List Int))) :=
 cond (decide (s5.2 < (x0.zA.length:Int))) (
  (zH (zRR x0 x1 x2 s5) (List.replicate m1 (0:Int),0)).bind fun r5 =>
  (rng (x1.Prime - 1)).bind fun v6 =>
  (ixO x0.zU s5.2).bind fun v7 =>
  (f_K x1 x2 (List.replicate m1 (0:Int)) v7).bind fun r8 =>
  (f_s x1.Prime r5 v6 r8).bind fun r9 =>
  (xQ s5.1 [r9]).bind fun v10 =>
  (rng (s5.2 + 1)).bind fun v11 =>
  some (.inl (v10,v11))) (
  some (.inr s5.1))
def zRT (x0:SPr) (x1:zC) (x2:List (List Int)) (m1:Nat) (s13:(List (List Int)) × Int) (s14:(List (List Int)) × Int):Option (((List (List Int)) × Int) ⊕ (List (List Int))) :=
 cond (decide (s14.2 < (x0.zA.length:Int))) (
  (zK6 x1 x2 (List.replicate m1 (0:Int)) s14.2).bind fun r14 =>
  (zK6 x1 x2 r14 s13.2).bind fun r15 =>
  (zK6 x1 x2 (List.replicate m1 (0:Int)) s13.2).bind fun r16 =>
  (ixO x0.zB s13.2).bind fun v17 =>
  (rng (s14.2 - s13.2)).bind fun v18 =>
  (rng (v18 - 1)).bind fun v19 =>
  (ixO v17 v19).bind fun v20 =>
  (f_K x1 x2 r16 v20).bind fun r21 =>
  (rng (x1.Prime - 1)).bind fun v22 =>
  (f_s x1.Prime r15 v22 r21).bind fun r23 =>
  (xQ s14.1 [r23]).bind fun v24 =>
  (rng (s14.2 + 1)).bind fun v25 =>
  some (.inl (v24,v25))) (
  some (.inr s14.1))
def zO4 (x0:SPr) (x1:zC) (x2:List (List Int)) (m1:Nat) (s13:(List (List Int)) × Int):Option (((List (List Int)) × Int) ⊕ (List (List Int))) :=
 cond (decide (s13.2 < (x0.zA.length:Int))) (
  (rng (s13.2 + 1)).bind fun v13 =>
  (zH (zRT x0 x1 x2 m1 s13) (s13.1,v13)).bind fun r26 =>
  (rng (s13.2 + 1)).bind fun v27 =>
  some (.inl (r26,v27))) (
  some (.inr s13.1))
def f_n (x0:SPr) (x1:zC) (x2:List (List Int)):Option (List (List Int)) :=
 (yZ x1.Dim).bind fun m1 =>
 (zH (zRS x0 x1 x2 m1) ([],0)).bind fun r12 =>
 (zH (zO4 x0 x1 x2 m1) (r12,0)).bind fun r28 =>
 some r28
def zKE (x0:SPr) (x1:zC) (v1:Int) (s1:(List (List Int)) × Int):Option (((List (List Int)) × Int) ⊕ (List (List Int))) :=
 cond (decide (s1.2 < v1)) (
  (yZ v1).bind fun m2 =>
  (ixO (List.replicate m2 (0:Int)) s1.2).bind fun _ =>
  (f_Q ((List.replicate m2 (0:Int)).set s1.2.toNat 1) x1.Dim).bind fun r4 =>
  (f_n x0 x1 r4).bind fun r5 =>
  (f_V r5).bind fun r6 =>
  (xQ s1.1 [r6]).bind fun v7 =>
  (rng (s1.2 + 1)).bind fun v8 =>
  some (.inl (v7,v8))) (
  some (.inr s1.1))
def zTz (x0:SPr) (x1:zC):Option (List (List Int)) :=
 (rng ((x0.zA.length:Int) * x1.Dim)).bind fun v1 =>
 (zH (zKE x0 x1 v1) ([],0)).bind fun r9 =>
 some r9
def zKF (x0:SPr) (x1:zC) (v1:Int) (s1:(List (List Int)) × Int):Option (((List (List Int)) × Int) ⊕ (List (List Int))) :=
 cond (decide (s1.2 < v1)) (
  (zID v1 s1.2).bind fun r2 =>
  (f_W r2 x1.Dim).bind fun r3 =>
  (zTo x0 x1 r3).bind fun r4 =>
  (f_r r4).bind fun r5 =>
  (xQ s1.1 [r5]).bind fun v6 =>
  (rng (s1.2 + 1)).bind fun v7 =>
  some (.inl (v6,v7))) (
  some (.inr s1.1))
def zT0 (x0:SPr) (x1:zC):Option (List (List Int)) :=
 (rng ((x0.zA.length:Int) * x1.Dim)).bind fun v1 =>
 (zH (zKF x0 x1 v1) ([],0)).bind fun r8 =>
 some r8
def zT1 (x0:SPr) (x1:zC) (x2:List (List Int)) (x3:List (List Int)):Option Int :=
 (zSV x0 x1).bind fun r1 =>
 cond (!r1) (
  some 1) (
  (zRL x0 x1 x2).bind fun r2 =>
  cond (!r2) (
   some 1) (
   (zRL x0 x1 x3).bind fun r3 =>
   cond (!r3) (
    some 1) (
    (zRP x0 x1 x2).bind fun r4 =>
    cond (!r4) (
     some 5) (
     (zRP x0 x1 x3).bind fun r5 =>
     cond (!r5) (
      some 5) (
      some 0)))))
def zRU (x0:SPr) (x1:zC) (x2:List (List (List Int))) (s1:Int):Option (Int ⊕ (Unit ⊕ Int)) :=
 cond (decide (s1 < (x2.length:Int))) (
  (ixO x2 s1).bind fun v2 =>
  (zTs x0 x1 v2).bind fun r3 =>
  cond (!r3) (
   some (.inr (.inr 1))) (
   (rng (s1 + 1)).bind fun v4 =>
   some (.inl v4))) (
  some (.inr (.inl ())))
def zRV (x0:SPr) (x1:zC) (x2:List (List (List Int))) (s3:Int):Option (Int ⊕ (Unit ⊕ Int)) :=
 cond (decide (s3 < (x2.length:Int))) (
  (ixO x2 s3).bind fun v6 =>
  (zTt x0 x1 v6).bind fun r7 =>
  cond (!r7) (
   some (.inr (.inr 5))) (
   (rng (s3 + 1)).bind fun v8 =>
   some (.inl v8))) (
  some (.inr (.inl ())))
def f_M (x0:SPr) (x1:zC) (x2:List (List (List Int))):Option Int :=
 (f_D x0 x1).bind fun r1 =>
 cond (!r1) (
  some 1) (
  (zH (zRU x0 x1 x2) 0).bind fun r5 =>
  match r5 with
  | (.inl r5) =>
   (zH (zRV x0 x1 x2) 0).bind fun r9 =>
   match r9 with
   | (.inl r9) =>
    some 0
   | (.inr r9) =>
    some r9
  | (.inr r5) =>
   some r5)
def zO5 (x2:Int) (r1:(List (List Int))) (s1:(List (List Int)) × Int):Option (((List (List Int)) × Int) ⊕ (List (List Int))) :=
 cond (decide (s1.2 < (r1.length:Int))) (
  (ixO r1 s1.2).bind fun v4 =>
  (f_A v4).bind fun r5 =>
  cond (decide (r5 < x2)) (
   (ixO r1 s1.2).bind fun v6 =>
   (xQ s1.1 [v6]).bind fun v7 =>
   (rng (s1.2 + 1)).bind fun v8 =>
   some (.inl (v7,v8))) (
   (rng (s1.2 + 1)).bind fun v9 =>
   some (.inl (s1.1,v9)))) (
  some (.inr s1.1))
def f_P (x0:Int) (x1:List (List Int)) (x2:Int) (x3:List Int):Option ((List Int) × Bool) :=
 (zRG x0 x1).bind fun r1 =>
 (f_t x3).bind fun r2 =>
 (vR r2 (x1.length:Int) (0:Int)).bind fun v3 =>
 (zH (zO5 x2 r1) ([],0)).bind fun r10 =>
 (f_Z x0 r10 v3).bind fun r11 =>
 (zX r11 0 x2).bind fun v12 =>
 (zRJ v12).bind fun r13 =>
 cond (!r13) (
  some ([],false)) (
  (rng (x0 - 1)).bind fun v14 =>
  (zX r11 x2 r11.length).bind fun v15 =>
  (zRF x0 v14 v15).bind fun r16 =>
  (zTl x0 x1 x2).bind fun r17 =>
  (f_Z x0 r17 r16).bind fun r18 =>
  some (r18,true))
def zV5 (x0:Int) (x1:List (List Int)):Option zV :=
 (ixO x1 0).bind fun v1 =>
 some (zV.mk x0 (v1.length:Int) x1)
def zT2 (x0:Int):Option Bool :=
 some (x0 != 0)
def zHR (x0:List Int) (s1:Int):Option (Int ⊕ (Unit ⊕ Int)) :=
 cond (decide (s1 < (x0.length:Int))) (
  (ixO x0 s1).bind fun v1 =>
  (zT2 v1).bind fun r2 =>
  cond r2 (
   some (.inr (.inr s1))) (
   (rng (s1 + 1)).bind fun v3 =>
   some (.inl v3))) (
  some (.inr (.inl ())))
def zT3 (x0:List Int):Option Int :=
 (zH (zHR x0) 0).bind fun r4 =>
 match r4 with
 | (.inl r4) =>
  some (-1)
 | (.inr r4) =>
  some r4
def zV6 (x0:zV):Option zV :=
 (zTy x0.Prime x0.Rows x0.xT).bind fun r1 =>
 some (zV.mk x0.Prime (x0.Rows.length:Int) r1)
def zO6 (x0:zV) (r4:(List (List Int))) (s1:(List Int) × Int):Option (((List Int) × Int) ⊕ (List Int)) :=
 cond (decide (s1.2 < (r4.length:Int))) (
  (ixO r4 s1.2).bind fun v5 =>
  (zT3 v5).bind fun r6 =>
  cond (decide (r6 < x0.xT)) (
   (ixO s1.1 r6).bind fun v7 =>
   (rng (0 - v7)).bind fun v8 =>
   (f_v s1.1 v5 v8 x0.Prime).bind fun r9 =>
   (rng (s1.2 + 1)).bind fun v10 =>
   some (.inl (r9,v10))) (
   (rng (s1.2 + 1)).bind fun v11 =>
   some (.inl (s1.1,v11)))) (
  some (.inr s1.1))
def zO7 (x0:zV) (r12:(List Int)) (s3:(List Int) × Int):Option (((List Int) × Int) ⊕ (List Int)) :=
 cond (decide (s3.2 < (((r12.length:Int).toNat - (x0.xT:Int).toNat:Nat):Int))) (
  (zX s3.1 x0.xT r12.length).bind fun v16 =>
  (ixO v16 s3.2).bind fun v17 =>
  (rng (0 - v17)).bind fun v18 =>
  (zGY v18 x0.Prime).bind fun r19 =>
  (zX s3.1 x0.xT r12.length).bind fun v20 =>
  (ixO v20 s3.2).bind fun _ =>
  (rng (s3.2 + 1)).bind fun v22 =>
  some (.inl (s3.1.set (x0.xT + s3.2).toNat r19,v22))) (
  some (.inr s3.1))
def f_z (x0:zV) (x1:List Int):Option ((List Int) × Bool) :=
 (f_x x1).bind fun r1 =>
 (vR r1 (x0.Rows.length:Int) (0:Int)).bind fun v2 =>
 (zRB x0.Rows).bind fun r3 =>
 (f_g x0.Prime r3).bind fun r4 =>
 (zH (zO6 x0 r4) (v2,0)).bind fun r12 =>
 (zX r12 0 x0.xT).bind fun v13 =>
 (f_E v13).bind fun r14 =>
 cond (!r14) (
  some ([],false)) (
  (zX r12 x0.xT r12.length).bind fun _ =>
  (zH (zO7 x0 r12) (r12,0)).bind fun r23 =>
  (zV6 x0).bind fun r24 =>
  (zX r23 x0.xT r12.length).bind fun v25 =>
  (zTx r24 v25).bind fun r26 =>
  some (r26,true))
def zV7 (x0:zC) (x1:List (List Int)) (x2:List (List Int)):Option (List Int) :=
 (f_r x1).bind fun r1 =>
 (f_r x2).bind fun r2 =>
 (f_v r1 r2 (-1) x0.Prime).bind fun r3 =>
 some r3
def zT4 (x0:SPr) (x1:zC) (x2:List Int):Option ((List (List Int)) × Bool) :=
 cond ((x0.zA.length:Int) == 0) (
  some ([],true)) (
  (yZ (x2.length:Int)).bind fun m1 =>
  (f_v (List.replicate m1 (0:Int)) x2 (-1) x1.Prime).bind fun r2 =>
  (zT0 x0 x1).bind fun r3 =>
  (zV5 x1.Prime r3).bind fun r4 =>
  (f_z r4 r2).bind fun r5 =>
  cond (!r5.2) (
   some ([],false)) (
   (f_W r5.1 x1.Dim).bind fun r6 =>
   some (r6,true)))
def zV8 (x0:SPr) (x1:zC) (x2:List (List Int)) (x3:List (List Int)):Option ((List (List Int)) × Bool) :=
 (f_V x2).bind fun r1 =>
 (rng (x1.Prime - 1)).bind fun v2 =>
 (f_V x3).bind fun r3 =>
 (f_s x1.Prime r1 v2 r3).bind fun r4 =>
 (zTz x0 x1).bind fun r5 =>
 (f_P x1.Prime r5 (r4.length:Int) r4).bind fun r6 =>
 cond (!r6.2) (
  some ([],false)) (
  (f_Q r6.1 x1.Dim).bind fun r7 =>
  some (r7,true))
def zRW (x0:SPr) (x1:zC) (x2:List (List Int)) (x3:List (List Int)):Option ((List (List Int)) × Int) :=
 (zT1 x0 x1 x2 x3).bind fun r1 =>
 cond (r1 != 0) (
  some ([],r1)) (
  (zV8 x0 x1 x2 x3).bind fun r2 =>
  cond (!r2.2) (
   some ([],4)) (
   some (r2.1,0)))
def zO8 (x0:SPr) (x1:zC) (x2:List (List Int)) (x3:List (List Int)):Option ((List (List Int)) × Int) :=
 (f_M x0 x1 [x2,x3]).bind fun r1 =>
 cond (r1 != 0) (
  some ([],r1)) (
  (zV7 x1 x3 x2).bind fun r2 =>
  (zT4 x0 x1 r2).bind fun r3 =>
  cond (!r3.2) (
   some ([],4)) (
   some (r3.1,0)))
def zRX (x0:SPr) (x1:zC) (x2:List (List Int)) (x3:List (List Int)):Option Bool :=
 (zSM x0 1048576).bind fun r1 =>
 cond (decide (r1 < 0)) (
  some true) (
  (zSN x1 r1).bind fun r2 =>
  cond (decide (r2 < 0)) (
   some true) (
   (zOj x2 r2).bind fun r3 =>
   cond (decide (r3 < 0)) (
    some true) (
    (zOj x3 r3).bind fun r4 =>
    cond (decide (r4 < 0)) (
     some true) (
     (zLM x0).bind fun r5 =>
     (zLN x1).bind fun r6 =>
     (f_p x2).bind fun r7 =>
     (f_p x3).bind fun r8 =>
     (zRW r5 r6 r7 r8).bind fun r9 =>
     (zLM x0).bind fun r10 =>
     (zLN x1).bind fun r11 =>
     (f_p x2).bind fun r12 =>
     (f_p x3).bind fun r13 =>
     (zO8 r10 r11 r12 r13).bind fun r14 =>
     (f_B r14.1 r9.1).bind fun r15 =>
     cond (!r15) (
      some false) (
      cond (r14.2 != r9.2) (
       some false) (
       (zLM x0).bind fun r16 =>
       (zTf r10 r16).bind fun r17 =>
       cond (!r17) (
        some false) (
        (zLN x1).bind fun r18 =>
        (zTe r11 r18).bind fun r19 =>
        cond (!r19) (
         some false) (
         (f_p x2).bind fun r20 =>
         (f_B r12 r20).bind fun r21 =>
         cond (!r21) (
          some false) (
          (f_p x3).bind fun r22 =>
          (f_B r13 r22).bind fun r23 =>
          cond (!r23) (
           some false) (
           (zTg r10 1).bind fun r24 =>
           (zTh r11 r24.1).bind fun r25 =>
           (f_L r12 r25.1).bind fun r26 =>
           (f_L r13 r26.1).bind fun r27 =>
           cond (decide (r27.1 < 0)) (
            some false) (
            (f_B r14.1 r9.1).bind fun r28 =>
            cond (!r28) (
             some false) (
             cond (r14.2 != r9.2) (
              some false) (
              (f_L r14.1 1).bind fun r29 =>
              (zTi r29.2 1).bind fun r30 =>
              cond (decide (r30 < 0)) (
               some false) (
               cond (r30 != r29.1) (
                some false) (
                (zLM x0).bind fun r31 =>
                (zLN x1).bind fun r32 =>
                (f_p x2).bind fun r33 =>
                (f_p x3).bind fun r34 =>
                (zO8 r31 r32 r33 r34).bind fun r35 =>
                (f_B r35.1 r9.1).bind fun r36 =>
                cond (!r36) (
                 some false) (
                 cond (r35.2 != r9.2) (
                  some false) (
                  (zTi r29.2 1).bind fun r37 =>
                  cond (decide (r37 < 0)) (
                   some false) (
                   cond (r37 != r29.1) (
                    some false) (
                    some true)))))))))))))))))))
end Go.Wk
