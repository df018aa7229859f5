/- The program's PushCocycle returns what the reference's returns, for all arguments; no conditions. -/
import Derived.Test.YtnggaddopliclaaGreatAbC
noncomputable section
namespace Go.Wk
open Go Go.Ab
structure SPr where
 zA:List Int
 zR:List (List Int)
 zB:List (List (List Int))
abbrev xU (x:SPr):T:=.agg [(L 1 I) x.zA,(L 1 (L 1 I)) x.zR,(L 1 (L 1 (L 1 I))) x.zB]
instance:Enc xU:=.of fun _ => zMT ⟨Enc.t (f:=(L 1 I)) inferInstance _,Enc.t (f:=(L 1 (L 1 I))) inferInstance _,Enc.t (f:=(L 1 (L 1 (L 1 I)))) inferInstance _,trivial⟩
structure zC where
 Prime:Int
 Dim:Int
 zE:List (List (List Int))
abbrev zV (x:zC):T:=.agg [I x.Prime,I x.Dim,(L 1 (L 1 (L 1 I))) x.zE]
instance:Enc zV:=.of fun _ => zMT ⟨Enc.t (f:=I) inferInstance _,Enc.t (f:=I) inferInstance _,Enc.t (f:=(L 1 (L 1 (L 1 I)))) inferInstance _,trivial⟩
structure yL where
 Kind:Int
 zQP:Int
 zQO:Int
 zPh:Int
abbrev zEi (x:yL):T:=.agg [I x.Kind,I x.zQP,I x.zQO,I x.zPh]
instance:Enc zEi:=.of fun _ => zMT ⟨Enc.t (f:=I) inferInstance _,Enc.t (f:=I) inferInstance _,Enc.t (f:=I) inferInstance _,Enc.t (f:=I) inferInstance _,trivial⟩
structure zL where
 Prime:Int
 yS:Int
 Rows:List (List Int)
abbrev xT (x:zL):T:=.agg [I x.Prime,I x.yS,(L 1 (L 1 I)) x.Rows]
instance:Enc xT:=.of fun _ => zMT ⟨Enc.t (f:=I) inferInstance _,Enc.t (f:=I) inferInstance _,Enc.t (f:=(L 1 (L 1 I))) inferInstance _,trivial⟩
structure zO where
 p:SPr
 m:zC
 zIS:List (List Int)
structure zD where
 x:List Int
 v:List Int
abbrev yI (x:zD):T:=.agg [(L 1 I) x.x,(L 1 I) x.v]
instance:Enc yI:=.of fun _ => zMT ⟨Enc.t (f:=(L 1 I)) inferInstance _,Enc.t (f:=(L 1 I)) inferInstance _,trivial⟩
def zNS (x0:List Int) (x1:Int):Option Int :=
 (rng (x1 - (x0.length:Int))).bind fun v1 =>
 cond (decide (v1 < 0)) (
  some (-1)) (
  some v1)
def zQL (x0:List (List Int)) (s1:Int × Int):Option ((Int × Int) ⊕ (Int ⊕ Int)) :=
 cond (decide (s1.2 < (x0.length:Int))) (
  (ixO x0 s1.2).bind fun v2 =>
  (zNS v2 s1.1).bind fun r3 =>
  cond (decide (r3 < 0)) (
   some (.inr (.inr (-1)))) (
   (rng (s1.2 + 1)).bind fun v4 =>
   some (.inl (r3,v4)))) (
  some (.inr (.inl s1.1)))
def zLR (x0:List (List Int)) (x1:Int):Option Int :=
 (rng (x1 - (x0.length:Int))).bind fun v1 =>
 cond (decide (v1 < 0)) (
  some (-1)) (
  (zJ (zQL x0) (v1,0)).bind fun r5 =>
  match r5 with
  | (.inl r5) =>
   some r5
  | (.inr r5) =>
   some r5)
def zQM (x0:List (List (List Int))) (s1:Int × Int):Option ((Int × Int) ⊕ (Int ⊕ Int)) :=
 cond (decide (s1.2 < (x0.length:Int))) (
  (ixO x0 s1.2).bind fun v2 =>
  (zLR v2 s1.1).bind fun r3 =>
  cond (decide (r3 < 0)) (
   some (.inr (.inr (-1)))) (
   (rng (s1.2 + 1)).bind fun v4 =>
   some (.inl (r3,v4)))) (
  some (.inr (.inl s1.1)))
def zPM (x0:List (List (List Int))) (x1:Int):Option Int :=
 (rng (x1 - (x0.length:Int))).bind fun v1 =>
 cond (decide (v1 < 0)) (
  some (-1)) (
  (zJ (zQM x0) (v1,0)).bind fun r5 =>
  match r5 with
  | (.inl r5) =>
   some r5
  | (.inr r5) =>
   some r5)
def zPN (x0:SPr) (x1:Int):Option Int :=
 (zNS x0.zA x1).bind fun r1 =>
 cond (decide (r1 < 0)) (
  some (-1)) (
  (zLR x0.zR r1).bind fun r2 =>
  cond (decide (r2 < 0)) (
   some (-1)) (
   (zPM x0.zB r2).bind fun r3 =>
   cond (decide (r3 < 0)) (
    some (-1)) (
    some r3)))
def zNT (x0:zC) (x1:Int):Option Int :=
 (zPM x0.zE x1).bind fun r1 =>
 cond (decide (r1 < 0)) (
  some (-1)) (
  some r1)
def zNU (x0:List Int) (s1:(List Int) × Int):Option (((List Int) × Int) ⊕ (List Int)) :=
 cond (decide (s1.2 < (x0.length:Int))) (
  (ixO x0 s1.2).bind fun v2 =>
  (ixO s1.1 s1.2).bind fun _ =>
  (rng (s1.2 + 1)).bind fun v4 =>
  some (.inl (s1.1.set s1.2.toNat v2,v4))) (
  some (.inr s1.1))
def zLS (x0:List Int):Option (List Int) :=
 (yP (x0.length:Int)).bind fun m1 =>
 (zJ (zNU x0) (List.replicate m1 (0:Int),0)).bind fun r5 =>
 some r5
def zRG (x0:List (List Int)) (s1:(List (List Int)) × Int):Option (((List (List Int)) × Int) ⊕ (List (List Int))) :=
 cond (decide (s1.2 < (x0.length:Int))) (
  (ixO x0 s1.2).bind fun v2 =>
  (zLS v2).bind fun r3 =>
  (ixO s1.1 s1.2).bind fun _ =>
  (rng (s1.2 + 1)).bind fun v5 =>
  some (.inl (s1.1.set s1.2.toNat r3,v5))) (
  some (.inr s1.1))
def f_v (x0:List (List Int)):Option (List (List Int)) :=
 (yP (x0.length:Int)).bind fun m1 =>
 (zJ (zRG x0) (List.replicate m1 ([]:List Int),0)).bind fun r6 =>
 some r6
def zNV (x0:List (List (List Int))) (s1:(List (List (List Int))) × Int):Option (((List (List (List Int))) × Int) ⊕ (List (List (List Int)))) :=
 cond (decide (s1.2 < (x0.length:Int))) (
  (ixO x0 s1.2).bind fun v2 =>
  (f_v v2).bind fun r3 =>
  (ixO s1.1 s1.2).bind fun _ =>
  (rng (s1.2 + 1)).bind fun v5 =>
  some (.inl (s1.1.set s1.2.toNat r3,v5))) (
  some (.inr s1.1))
def zNW (x0:List (List (List Int))):Option (List (List (List Int))) :=
 (yP (x0.length:Int)).bind fun m1 =>
 (zJ (zNV x0) (List.replicate m1 ([]:List (List Int)),0)).bind fun r6 =>
 some r6
def f_T (x0:SPr):Option SPr :=
 (zLS x0.zA).bind fun r1 =>
 (f_v x0.zR).bind fun r2 =>
 (zNW x0.zB).bind fun r3 =>
 some (SPr.mk r1 r2 r3)
def f_w (x0:zC):Option zC :=
 (zNW x0.zE).bind fun r1 =>
 some (zC.mk x0.Prime x0.Dim r1)
def zNX (x0:Int):Option Bool :=
 cond (x0 == 2) (
  some true) (
  cond (x0 == 3) (
   some true) (
   cond (x0 == 5) (
    some true) (
    some (x0 == 7))))
def zI9 (x0:List Int) (s1:Int × Int):Option ((Int × Int) ⊕ Int) :=
 cond (decide (s1.2 < (x0.length:Int))) (
  cond (decide (s1.1 ≤ 729)) (
   (ixO x0 s1.2).bind fun v1 =>
   (rng (s1.1 * v1)).bind fun v2 =>
   (rng (s1.2 + 1)).bind fun v3 =>
   some (.inl (v2,v3))) (
   (rng (s1.2 + 1)).bind fun v4 =>
   some (.inl (s1.1,v4)))) (
  some (.inr s1.1))
def zPO (x0:List Int):Option Int :=
 (zJ (zI9 x0) (1,0)).bind fun r5 =>
 some r5
def zLT (x0:Int) (x1:Int) (x2:Int):Option Bool :=
 cond (decide (x0 ≥ x1)) (
  some (decide (x0 ≤ x2))) (
  some false)
def zLg (x0:List Int) (x1:List Int) (x2:Int) (s1:Int):Option (Int ⊕ (Unit ⊕ Bool)) :=
 cond (decide (s1 < (x1.length:Int))) (
  (ixO x1 s1).bind fun v1 =>
  (ixO x0 s1).bind fun v2 =>
  (rng (v2 - 1)).bind fun v3 =>
  (zLT v1 0 v3).bind fun r4 =>
  cond (!r4) (
   some (.inr (.inr false))) (
   cond (decide (s1 ≤ x2)) (
    (ixO x1 s1).bind fun v5 =>
    cond (v5 != 0) (
     some (.inr (.inr false))) (
     (rng (s1 + 1)).bind fun v6 =>
     some (.inl v6))) (
    (rng (s1 + 1)).bind fun v5 =>
    some (.inl v5)))) (
  some (.inr (.inl ())))
def zNY (x0:List Int) (x1:List Int) (x2:Int):Option Bool :=
 cond ((x1.length:Int) != (x0.length:Int)) (
  some false) (
  (zJ (zLg x0 x1 x2) 0).bind fun r6 =>
  match r6 with
  | (.inl r6) =>
   some true
  | (.inr r6) =>
   some r6)
def zNZ (x0:SPr) (s1:Int):Option (Int ⊕ (Unit ⊕ Bool)) :=
 cond (decide (s1 < (x0.zA.length:Int))) (
  (ixO x0.zA s1).bind fun v1 =>
  (zNX v1).bind fun r2 =>
  cond (!r2) (
   some (.inr (.inr false))) (
   (rng (s1 + 1)).bind fun v3 =>
   some (.inl v3))) (
  some (.inr (.inl ())))
def zOa (x0:SPr) (s7:Int) (s8:Int):Option (Int ⊕ (Unit ⊕ Bool)) :=
 (ixO x0.zB s7).bind fun v11 =>
 cond (decide (s8 < (v11.length:Int))) (
  (ixO x0.zB s7).bind fun v12 =>
  (ixO v12 s8).bind fun v13 =>
  (zNY x0.zA v13 s7).bind fun r14 =>
  cond (!r14) (
   some (.inr (.inr false))) (
   (rng (s8 + 1)).bind fun v15 =>
   some (.inl v15))) (
  some (.inr (.inl ())))
def zJL (x0:SPr) (s7:Int):Option (Int ⊕ (Unit ⊕ Bool)) :=
 cond (decide (s7 < (x0.zA.length:Int))) (
  (ixO x0.zR s7).bind fun v6 =>
  (zNY x0.zA v6 s7).bind fun r7 =>
  cond (!r7) (
   some (.inr (.inr false))) (
   (ixO x0.zB s7).bind fun v8 =>
   (rng ((x0.zA.length:Int) - 1)).bind fun v9 =>
   (rng (v9 - s7)).bind fun v10 =>
   cond ((v8.length:Int) != v10) (
    some (.inr (.inr false))) (
    (zJ (zOa x0 s7) 0).bind fun r16 =>
    match r16 with
    | (.inl r16) =>
     (rng (s7 + 1)).bind fun v17 =>
     some (.inl v17)
    | (.inr r16) =>
     some (.inr (.inr r16))))) (
  some (.inr (.inl ())))
def f_o (x0:SPr):Option Bool :=
 cond (decide ((x0.zA.length:Int) > 6)) (
  some false) (
  cond ((x0.zR.length:Int) != (x0.zA.length:Int)) (
   some false) (
   cond ((x0.zB.length:Int) != (x0.zA.length:Int)) (
    some false) (
    (zJ (zNZ x0) 0).bind fun r4 =>
    match r4 with
    | (.inl r4) =>
     (zPO x0.zA).bind fun r5 =>
     cond (decide (r5 > 729)) (
      some false) (
      (zJ (zJL x0) 0).bind fun r18 =>
      match r18 with
      | (.inl r18) =>
       some true
      | (.inr r18) =>
       some r18)
    | (.inr r4) =>
     some r4)))
def f_u (x0:List Int):Option (List Int) :=
 (wJ [] x0).bind fun v1 =>
 some v1
def zOb (g_a:SPr → Int → (List Int) → (List Int) → Option (List Int)) (x0:SPr) (x1:Int) (x2:List Int) (s5:(List Int) × Int) (s6:(List Int) × Int):Option (((List Int) × Int) ⊕ (List Int)) :=
 (ixO x2 s5.2).bind fun v3 =>
 cond (decide (s6.2 < v3)) (
  (rng (x1 + 1)).bind fun v4 =>
  (ixO x0.zB x1).bind fun v5 =>
  (rng (s5.2 - x1)).bind fun v6 =>
  (rng (v6 - 1)).bind fun v7 =>
  (ixO v5 v7).bind fun v8 =>
  (g_a x0 v4 s6.1 v8).bind fun r9 =>
  (rng (s6.2 + 1)).bind fun v10 =>
  some (.inl (r9,v10))) (
  some (.inr s6.1))
def zOc (g_a:SPr → Int → (List Int) → (List Int) → Option (List Int)) (x0:SPr) (x1:Int) (x2:List Int) (s5:(List Int) × Int):Option (((List Int) × Int) ⊕ (List Int)) :=
 cond (decide (s5.2 < (x0.zA.length:Int))) (
  (zJ (zOb g_a x0 x1 x2 s5) (s5.1,0)).bind fun r11 =>
  (rng (s5.2 + 1)).bind fun v12 =>
  some (.inl (r11,v12))) (
  some (.inr s5.1))
def b_e (g_a:SPr → Int → (List Int) → (List Int) → Option (List Int)) (x0:SPr) (x1:Int) (x2:List Int):Option (List Int) :=
 (yP (x0.zA.length:Int)).bind fun m1 =>
 (rng (x1 + 1)).bind fun v2 =>
 (zJ (zOc g_a x0 x1 x2) (List.replicate m1 (0:Int),v2)).bind fun r13 =>
 some r13
def zPP (g_e:SPr → Int → (List Int) → Option (List Int)) (x0:SPr) (x1:Int) (x3:List Int) (s1:(List Int) × Int):Option (((List Int) × Int) ⊕ (List Int)) :=
 (ixO x3 x1).bind fun v6 =>
 cond (decide (s1.2 < v6)) (
  (g_e x0 x1 s1.1).bind fun r7 =>
  (rng (s1.2 + 1)).bind fun v8 =>
  some (.inl (r7,v8))) (
  some (.inr s1.1))
def b_a (g_e:SPr → Int → (List Int) → Option (List Int)) (g_a:SPr → Int → (List Int) → (List Int) → Option (List Int)) (x0:SPr) (x1:Int) (x2:List Int) (x3:List Int):Option (List Int) :=
 cond (decide (x1 ≥ (x0.zA.length:Int))) (
  (yP (x0.zA.length:Int)).bind fun m1 =>
  some (List.replicate m1 (0:Int))) (
  (f_u x2).bind fun r2 =>
  (f_u x3).bind fun r3 =>
  (ixO r2 x1).bind fun _ =>
  (ixO r3 x1).bind fun _ =>
  (zJ (zPP g_e x0 x1 x3) (r2.set x1.toNat 0,0)).bind fun r9 =>
  (rng (x1 + 1)).bind fun v10 =>
  (g_a x0 v10 r9 (r3.set x1.toNat 0)).bind fun r11 =>
  (ixO x2 x1).bind fun v12 =>
  (ixO x3 x1).bind fun v13 =>
  (rng (v12 + v13)).bind fun v14 =>
  (ixO x0.zA x1).bind fun v15 =>
  cond (decide (v14 ≥ v15)) (
   (ixO x0.zA x1).bind fun v16 =>
   (rng (v14 - v16)).bind fun v17 =>
   (rng (x1 + 1)).bind fun v18 =>
   (ixO x0.zR x1).bind fun v19 =>
   (g_a x0 v18 v19 r11).bind fun r20 =>
   (f_u r20).bind fun r21 =>
   (ixO r21 x1).bind fun _ =>
   some (r21.set x1.toNat v17)) (
   (f_u r11).bind fun r23 =>
   (ixO r23 x1).bind fun _ =>
   some (r23.set x1.toNat v14)))
mutual
def zJM:Nat → SPr → Int → (List Int) → Option (List Int)
 | 0 => fun _ _ _ => none
 | n + 1 => b_e (zJN n)
def zJN:Nat → SPr → Int → (List Int) → (List Int) → Option (List Int)
 | 0 => fun _ _ _ _ => none
 | n + 1 => b_a (zJM n) (zJN n)
end
def f_e (x0:SPr) (x1:Int) (x2:List Int):Option (List Int):=zB7 fun n => zJM n x0 x1 x2
def f_a (x0:SPr) (x1:Int) (x2:List Int) (x3:List Int):Option (List Int):=zB7 fun n => zJN n x0 x1 x2 x3
def zLh (x0:SPr) (x1:Int) (s1:Int × (List Int) × (List Int)):Option ((Int × (List Int) × (List Int)) ⊕ (List Int)) :=
 cond (decide (s1.1 > 0)) (
  (vQ s1.1 2).bind fun v2 =>
  cond (v2 == 1) (
   (f_a x0 x1 s1.2.1 s1.2.2).bind fun r3 =>
   (f_a x0 x1 s1.2.2 s1.2.2).bind fun r4 =>
   (uJ s1.1 2).bind fun v5 =>
   some (.inl (v5,r3,r4))) (
   (f_a x0 x1 s1.2.2 s1.2.2).bind fun r6 =>
   (uJ s1.1 2).bind fun v7 =>
   some (.inl (v7,s1.2.1,r6)))) (
  some (.inr s1.2.1))
def zPQ (x0:SPr) (x1:Int) (x2:List Int) (x3:Int):Option (List Int) :=
 (yP (x0.zA.length:Int)).bind fun m1 =>
 (zJ (zLh x0 x1) (x3,List.replicate m1 (0:Int),x2)).bind fun r8 =>
 some r8
def zTH (x0:List Int) (x1:List Int) (s1:Int):Option (Int ⊕ (Unit ⊕ Bool)) :=
 cond (decide (s1 < (x0.length:Int))) (
  (ixO x0 s1).bind fun v1 =>
  (ixO x1 s1).bind fun v2 =>
  cond (v1 != v2) (
   some (.inr (.inr false))) (
   (rng (s1 + 1)).bind fun v3 =>
   some (.inl v3))) (
  some (.inr (.inl ())))
def f_P (x0:List Int) (x1:List Int):Option Bool :=
 cond ((x0.length:Int) != (x1.length:Int)) (
  some false) (
  (zJ (zTH x0 x1) 0).bind fun r4 =>
  match r4 with
  | (.inl r4) =>
   some true
  | (.inr r4) =>
   some r4)
def zRH (x0:Int) (x1:Int):Option (List Int) :=
 (yP x0).bind fun m1 =>
 (ixO (List.replicate m1 (0:Int)) x1).bind fun _ =>
 some ((List.replicate m1 (0:Int)).set x1.toNat 1)
def zOd (x0:SPr) (x1:Int) (s1:Int):Option (Int ⊕ (Unit ⊕ yL)) :=
 cond (decide (s1 < (x0.zA.length:Int))) (
  (rng (x1 + 1)).bind fun v2 =>
  (ixO x0.zB x1).bind fun v3 =>
  (rng (s1 - x1)).bind fun v4 =>
  (rng (v4 - 1)).bind fun v5 =>
  (ixO v3 v5).bind fun v6 =>
  (ixO x0.zA s1).bind fun v7 =>
  (zPQ x0 v2 v6 v7).bind fun r8 =>
  (ixO x0.zR s1).bind fun v9 =>
  (f_e x0 x1 v9).bind fun r10 =>
  (f_P r8 r10).bind fun r11 =>
  cond (!r11) (
   some (.inr (.inr (yL.mk 1 x1 s1 0)))) (
   (rng (s1 + 1)).bind fun v12 =>
   some (.inl v12))) (
  some (.inr (.inl ())))
def zOe (x0:SPr) (x1:Int) (s7:Int) (s8:Int):Option (Int ⊕ (Unit ⊕ yL)) :=
 cond (decide (s8 < (x0.zA.length:Int))) (
  (ixO x0.zB x1).bind fun v16 =>
  (rng (s7 - x1)).bind fun v17 =>
  (rng (v17 - 1)).bind fun v18 =>
  (ixO v16 v18).bind fun v19 =>
  (ixO x0.zB x1).bind fun v20 =>
  (rng (s8 - x1)).bind fun v21 =>
  (rng (v21 - 1)).bind fun v22 =>
  (ixO v20 v22).bind fun v23 =>
  (ixO x0.zB s7).bind fun v24 =>
  (rng (s8 - s7)).bind fun v25 =>
  (rng (v25 - 1)).bind fun v26 =>
  (ixO v24 v26).bind fun v27 =>
  (f_e x0 x1 v27).bind fun r28 =>
  (rng (x1 + 1)).bind fun v29 =>
  (f_a x0 v29 v23 v19).bind fun r30 =>
  (rng (x1 + 1)).bind fun v31 =>
  (f_a x0 v31 v19 r28).bind fun r32 =>
  (f_P r30 r32).bind fun r33 =>
  cond (!r33) (
   some (.inr (.inr (yL.mk 2 x1 s7 s8)))) (
   (rng (s8 + 1)).bind fun v34 =>
   some (.inl v34))) (
  some (.inr (.inl ())))
def zOf (x0:SPr) (x1:Int) (s7:Int):Option (Int ⊕ (Unit ⊕ yL)) :=
 cond (decide (s7 < (x0.zA.length:Int))) (
  (rng (s7 + 1)).bind fun v15 =>
  (zJ (zOe x0 x1 s7) v15).bind fun r35 =>
  match r35 with
  | (.inl r35) =>
   (rng (s7 + 1)).bind fun v36 =>
   some (.inl v36)
  | (.inr r35) =>
   some (.inr (.inr r35))) (
  some (.inr (.inl ())))
def zOg (x0:SPr) (x1:Int) (s16:(List Int) × Int):Option (((List Int) × Int) ⊕ (List Int)) :=
 (ixO x0.zA x1).bind fun v43 =>
 cond (decide (s16.2 < v43)) (
  (f_e x0 x1 s16.1).bind fun r44 =>
  (rng (s16.2 + 1)).bind fun v45 =>
  some (.inl (r44,v45))) (
  some (.inr s16.1))
def zOh (x0:SPr) (x1:Int) (v38:List Int) (s15:Int):Option (Int ⊕ (Unit ⊕ yL)) :=
 cond (decide (s15 < (x0.zA.length:Int))) (
  (zRH (x0.zA.length:Int) s15).bind fun r42 =>
  (zJ (zOg x0 x1) (r42,0)).bind fun r46 =>
  (rng (x1 + 1)).bind fun v47 =>
  (f_a x0 v47 v38 r46).bind fun r48 =>
  (rng (x1 + 1)).bind fun v49 =>
  (f_a x0 v49 r42 v38).bind fun r50 =>
  (f_P r48 r50).bind fun r51 =>
  cond (!r51) (
   some (.inr (.inr (yL.mk 4 x1 s15 0)))) (
   (rng (s15 + 1)).bind fun v52 =>
   some (.inl v52))) (
  some (.inr (.inl ())))
def f_k (x0:SPr) (x1:Int):Option yL :=
 (rng (x1 + 1)).bind fun v1 =>
 (zJ (zOd x0 x1) v1).bind fun r13 =>
 match r13 with
 | (.inl r13) =>
  (rng (x1 + 1)).bind fun v14 =>
  (zJ (zOf x0 x1) v14).bind fun r37 =>
  match r37 with
  | (.inl r37) =>
   (ixO x0.zR x1).bind fun v38 =>
   (f_e x0 x1 v38).bind fun r39 =>
   (f_P r39 v38).bind fun r40 =>
   cond (!r40) (
    some (yL.mk 3 x1 0 0)) (
    (rng (x1 + 1)).bind fun v41 =>
    (zJ (zOh x0 x1 v38) v41).bind fun r53 =>
    match r53 with
    | (.inl r53) =>
     some (yL.mk 0 0 0 0)
    | (.inr r53) =>
     some r53)
  | (.inr r37) =>
   some r37
 | (.inr r13) =>
  some r13
def zIA (x0:SPr) (s1:Int):Option (Int ⊕ (Unit ⊕ yL)) :=
 cond (decide (s1 ≥ 0)) (
  (f_k x0 s1).bind fun r2 =>
  cond (r2.Kind != 0) (
   some (.inr (.inr r2))) (
   (rng (s1 - 1)).bind fun v3 =>
   some (.inl v3))) (
  some (.inr (.inl ())))
def zRI (x0:SPr):Option yL :=
 (rng ((x0.zA.length:Int) - 1)).bind fun v1 =>
 (zJ (zIA x0) v1).bind fun r4 =>
 match r4 with
 | (.inl r4) =>
  some (yL.mk 0 0 0 0)
 | (.inr r4) =>
  some r4
def zRJ (x0:SPr):Option Bool :=
 (zRI x0).bind fun r1 =>
 some (r1.Kind == 0)
def zPR (x0:SPr):Option Bool :=
 (f_o x0).bind fun r1 =>
 cond r1 (
  (zRJ x0).bind fun r2 =>
  some r2) (
  some false)
def zPS (x0:Int) (x2:List Int) (s1:Int):Option (Int ⊕ (Unit ⊕ Bool)) :=
 cond (decide (s1 < (x2.length:Int))) (
  (ixO x2 s1).bind fun v1 =>
  (rng (x0 - 1)).bind fun v2 =>
  (zLT v1 0 v2).bind fun r3 =>
  cond (!r3) (
   some (.inr (.inr false))) (
   (rng (s1 + 1)).bind fun v4 =>
   some (.inl v4))) (
  some (.inr (.inl ())))
def f_W (x0:Int) (x1:Int) (x2:List Int):Option Bool :=
 cond ((x2.length:Int) != x1) (
  some false) (
  (zJ (zPS x0 x2) 0).bind fun r5 =>
  match r5 with
  | (.inl r5) =>
   some true
  | (.inr r5) =>
   some r5)
def zLi (x0:Int) (x1:Int) (x2:List (List Int)) (s1:Int):Option (Int ⊕ (Unit ⊕ Bool)) :=
 cond (decide (s1 < (x2.length:Int))) (
  (ixO x2 s1).bind fun v1 =>
  (f_W x0 x1 v1).bind fun r2 =>
  cond (!r2) (
   some (.inr (.inr false))) (
   (rng (s1 + 1)).bind fun v3 =>
   some (.inl v3))) (
  some (.inr (.inl ())))
def zPT (x0:Int) (x1:Int) (x2:List (List Int)):Option Bool :=
 cond ((x2.length:Int) != x1) (
  some false) (
  (zJ (zLi x0 x1 x2) 0).bind fun r4 =>
  match r4 with
  | (.inl r4) =>
   some true
  | (.inr r4) =>
   some r4)
def zOi (x0:Int) (s1:(List (List Int)) × Int):Option (((List (List Int)) × Int) ⊕ (List (List Int))) :=
 cond (decide (s1.2 < x0)) (
  (yP x0).bind fun m1 =>
  (ixO (List.replicate m1 (0:Int)) s1.2).bind fun _ =>
  (wJ s1.1 [(List.replicate m1 (0:Int)).set s1.2.toNat 1]).bind fun v3 =>
  (rng (s1.2 + 1)).bind fun v4 =>
  some (.inl (v3,v4))) (
  some (.inr s1.1))
def f_V (x0:Int):Option (List (List Int)) :=
 (zJ (zOi x0) ([],0)).bind fun r5 =>
 some r5
def zIB (x0:Int) (x1:List Int) (x2:List (List Int)) (s5:(List Int) × Int) (s6:(List Int) × Int):Option (((List Int) × Int) ⊕ (List Int)) :=
 cond (decide (s6.2 < (s6.1.length:Int))) (
  (ixO x2 s5.2).bind fun v2 =>
  cond (decide (s6.2 < (v2.length:Int))) (
   (ixO s6.1 s6.2).bind fun v3 =>
   (ixO x1 s5.2).bind fun v4 =>
   (ixO x2 s5.2).bind fun v5 =>
   (ixO v5 s6.2).bind fun v6 =>
   (rng (v4 * v6)).bind fun v7 =>
   (rng (v3 + v7)).bind fun v8 =>
   (vQ v8 x0).bind fun v9 =>
   (ixO s6.1 s6.2).bind fun _ =>
   (rng (s6.2 + 1)).bind fun v11 =>
   some (.inl (s6.1.set s6.2.toNat v9,v11))) (
   some (.inr s6.1))) (
  some (.inr s6.1))
def zIC (x0:Int) (x1:List Int) (x2:List (List Int)) (s5:(List Int) × Int):Option (((List Int) × Int) ⊕ (List Int)) :=
 cond (decide (s5.2 < (x1.length:Int))) (
  cond (decide (s5.2 < (x2.length:Int))) (
   (zJ (zIB x0 x1 x2 s5) (s5.1,0)).bind fun r12 =>
   (rng (s5.2 + 1)).bind fun v13 =>
   some (.inl (r12,v13))) (
   some (.inr s5.1))) (
  some (.inr s5.1))
def f_n (x0:Int) (x1:List Int) (x2:List (List Int)) (x3:Int):Option (List Int) :=
 (yP x3).bind fun m1 =>
 (zJ (zIC x0 x1 x2) (List.replicate m1 (0:Int),0)).bind fun r14 =>
 some r14
def zID (x0:Int) (x1:List (List Int)) (x2:List (List Int)) (x3:Int) (s1:(List (List Int)) × Int):Option (((List (List Int)) × Int) ⊕ (List (List Int))) :=
 cond (decide (s1.2 < (x1.length:Int))) (
  (ixO x1 s1.2).bind fun v1 =>
  (f_n x0 v1 x2 x3).bind fun r2 =>
  (wJ s1.1 [r2]).bind fun v3 =>
  (rng (s1.2 + 1)).bind fun v4 =>
  some (.inl (v3,v4))) (
  some (.inr s1.1))
def f_t (x0:Int) (x1:List (List Int)) (x2:List (List Int)) (x3:Int):Option (List (List Int)) :=
 (zJ (zID x0 x1 x2 x3) ([],0)).bind fun r5 =>
 some r5
def zOj (x0:zC) (x1:List Int) (s5:(List (List Int)) × Int) (s6:(List (List Int)) × Int):Option (((List (List Int)) × Int) ⊕ (List (List Int))) :=
 (ixO x1 s5.2).bind fun v2 =>
 cond (decide (s6.2 < v2)) (
  (ixO x0.zE s5.2).bind fun v3 =>
  (f_t x0.Prime s6.1 v3 x0.Dim).bind fun r4 =>
  (rng (s6.2 + 1)).bind fun v5 =>
  some (.inl (r4,v5))) (
  some (.inr s6.1))
def zOl (x0:zC) (x1:List Int) (s5:(List (List Int)) × Int):Option (((List (List Int)) × Int) ⊕ (List (List Int))) :=
 cond (decide (s5.2 < (x1.length:Int))) (
  (zJ (zOj x0 x1 s5) (s5.1,0)).bind fun r6 =>
  (rng (s5.2 + 1)).bind fun v7 =>
  some (.inl (r6,v7))) (
  some (.inr s5.1))
def f_C (x0:zC) (x1:List Int):Option (List (List Int)) :=
 (f_V x0.Dim).bind fun r1 =>
 (zJ (zOl x0 x1) (r1,0)).bind fun r8 =>
 some r8
def zOm (x0:List (List Int)) (x1:List (List Int)) (s1:Int):Option (Int ⊕ (Unit ⊕ Bool)) :=
 cond (decide (s1 < (x0.length:Int))) (
  (ixO x0 s1).bind fun v1 =>
  (ixO x1 s1).bind fun v2 =>
  (f_P v1 v2).bind fun r3 =>
  cond (!r3) (
   some (.inr (.inr false))) (
   (rng (s1 + 1)).bind fun v4 =>
   some (.inl v4))) (
  some (.inr (.inl ())))
def zOn (x0:List (List Int)) (x1:List (List Int)):Option Bool :=
 cond ((x0.length:Int) != (x1.length:Int)) (
  some false) (
  (zJ (zOm x0 x1) 0).bind fun r5 =>
  match r5 with
  | (.inl r5) =>
   some true
  | (.inr r5) =>
   some r5)
def zOo (x0:SPr) (x1:zC) (s1:Int):Option (Int ⊕ (Unit ⊕ Bool)) :=
 cond (decide (s1 < (x0.zA.length:Int))) (
  (ixO x1.zE s1).bind fun v3 =>
  (zPT x1.Prime x1.Dim v3).bind fun r4 =>
  cond (!r4) (
   some (.inr (.inr false))) (
   (rng (s1 + 1)).bind fun v5 =>
   some (.inl v5))) (
  some (.inr (.inl ())))
def zOp (x0:SPr) (x1:zC) (s11:Int) (s12:(List (List Int)) × Int):Option (((List (List Int)) × Int) ⊕ (List (List Int))) :=
 (ixO x0.zA s11).bind fun v8 =>
 cond (decide (s12.2 < v8)) (
  (ixO x1.zE s11).bind fun v9 =>
  (f_t x1.Prime s12.1 v9 x1.Dim).bind fun r10 =>
  (rng (s12.2 + 1)).bind fun v11 =>
  some (.inl (r10,v11))) (
  some (.inr s12.1))
def zOq (x0:SPr) (x1:zC) (s11:Int) (s14:Int):Option (Int ⊕ (Unit ⊕ Bool)) :=
 cond (decide (s14 < (x0.zA.length:Int))) (
  (ixO x1.zE s14).bind fun v17 =>
  (ixO x1.zE s11).bind fun v18 =>
  (f_t x1.Prime v17 v18 x1.Dim).bind fun r19 =>
  (ixO x1.zE s11).bind fun v20 =>
  (ixO x0.zB s11).bind fun v21 =>
  (rng (s14 - s11)).bind fun v22 =>
  (rng (v22 - 1)).bind fun v23 =>
  (ixO v21 v23).bind fun v24 =>
  (f_C x1 v24).bind fun r25 =>
  (f_t x1.Prime v20 r25 x1.Dim).bind fun r26 =>
  (zOn r19 r26).bind fun r27 =>
  cond (!r27) (
   some (.inr (.inr false))) (
   (rng (s14 + 1)).bind fun v28 =>
   some (.inl v28))) (
  some (.inr (.inl ())))
def zOr (x0:SPr) (x1:zC) (s11:Int):Option (Int ⊕ (Unit ⊕ Bool)) :=
 cond (decide (s11 < (x0.zA.length:Int))) (
  (f_V x1.Dim).bind fun r7 =>
  (zJ (zOp x0 x1 s11) (r7,0)).bind fun r12 =>
  (ixO x0.zR s11).bind fun v13 =>
  (f_C x1 v13).bind fun r14 =>
  (zOn r12 r14).bind fun r15 =>
  cond (!r15) (
   some (.inr (.inr false))) (
   (rng (s11 + 1)).bind fun v16 =>
   (zJ (zOq x0 x1 s11) v16).bind fun r29 =>
   match r29 with
   | (.inl r29) =>
    (rng (s11 + 1)).bind fun v30 =>
    some (.inl v30)
   | (.inr r29) =>
    some (.inr (.inr r29)))) (
  some (.inr (.inl ())))
def f_l (x0:SPr) (x1:zC):Option Bool :=
 (zNX x1.Prime).bind fun r1 =>
 cond (!r1) (
  some false) (
  (zLT x1.Dim 1 3).bind fun r2 =>
  cond (!r2) (
   some false) (
   cond ((x1.zE.length:Int) != (x0.zA.length:Int)) (
    some false) (
    (zJ (zOo x0 x1) 0).bind fun r6 =>
    match r6 with
    | (.inl r6) =>
     (zJ (zOr x0 x1) 0).bind fun r31 =>
     match r31 with
     | (.inl r31) =>
      some true
     | (.inr r31) =>
      some r31
    | (.inr r6) =>
     some r6)))
def zLU (x0:SPr) (x1:zC):Option Bool :=
 (zPR x0).bind fun r1 =>
 cond r1 (
  (f_l x0 x1).bind fun r2 =>
  some r2) (
  some false)
def zLV (x0:Int):Option Bool :=
 cond (x0 == 2) (
  some true) (
  cond (x0 == 3) (
   some true) (
   cond (x0 == 5) (
    some true) (
    some (x0 == 7))))
def zJO (x0:Int) (x1:Int) (x2:Int):Option Bool :=
 cond (decide (x0 ≥ x1)) (
  some (decide (x0 ≤ x2))) (
  some false)
def zLj (x0:SPr) (x1:List Int) (s1:Int):Option (Int ⊕ (Unit ⊕ Bool)) :=
 cond (decide (s1 < (x1.length:Int))) (
  (ixO x1 s1).bind fun v1 =>
  (ixO x0.zA s1).bind fun v2 =>
  (rng (v2 - 1)).bind fun v3 =>
  (zJO v1 0 v3).bind fun r4 =>
  cond (!r4) (
   some (.inr (.inr false))) (
   (rng (s1 + 1)).bind fun v5 =>
   some (.inl v5))) (
  some (.inr (.inl ())))
def zPU (x0:SPr) (x1:List Int):Option Bool :=
 cond ((x1.length:Int) != (x0.zA.length:Int)) (
  some false) (
  (zJ (zLj x0 x1) 0).bind fun r6 =>
  match r6 with
  | (.inl r6) =>
   some true
  | (.inr r6) =>
   some r6)
def zLW (x0:List Int) (s1:Int):Option (Int ⊕ (Unit ⊕ Bool)) :=
 cond (decide (s1 < (x0.length:Int))) (
  (ixO x0 s1).bind fun v1 =>
  cond (v1 != 0) (
   some (.inr (.inr false))) (
   (rng (s1 + 1)).bind fun v2 =>
   some (.inl v2))) (
  some (.inr (.inl ())))
def f_U (x0:List Int):Option Bool :=
 (zJ (zLW x0) 0).bind fun r3 =>
 match r3 with
 | (.inl r3) =>
  some true
 | (.inr r3) =>
  some r3
def zOs (x0:SPr) (x1:Int) (x2:List Int):Option Bool :=
 (zPU x0 x2).bind fun r1 =>
 cond r1 (
  (rng (x1 + 1)).bind fun v2 =>
  (yB x2 0 v2).bind fun v3 =>
  (f_U v3).bind fun r4 =>
  some r4) (
  some false)
def zJP (x0:SPr) (s1:Int × Int):Option ((Int × Int) ⊕ (Unit ⊕ Bool)) :=
 cond (decide (s1.2 < (x0.zA.length:Int))) (
  (ixO x0.zA s1.2).bind fun v1 =>
  (zLV v1).bind fun r2 =>
  cond (!r2) (
   some (.inr (.inr false))) (
   (rng (s1.1 * v1)).bind fun v3 =>
   cond (decide (v3 > 729)) (
    some (.inr (.inr false))) (
    (rng (s1.1 * v1)).bind fun v4 =>
    (rng (s1.2 + 1)).bind fun v5 =>
    some (.inl (v4,v5))))) (
  some (.inr (.inl ())))
def zOt (x0:SPr) (s7:Int) (v12:List (List Int)) (s8:Int):Option (Int ⊕ (Unit ⊕ Bool)) :=
 cond (decide (s8 < (v12.length:Int))) (
  (ixO v12 s8).bind fun v13 =>
  (zOs x0 s7 v13).bind fun r14 =>
  cond (!r14) (
   some (.inr (.inr false))) (
   (rng (s8 + 1)).bind fun v15 =>
   some (.inl v15))) (
  some (.inr (.inl ())))
def zJQ (x0:SPr) (s7:Int):Option (Int ⊕ (Unit ⊕ Bool)) :=
 cond (decide (s7 < (x0.zA.length:Int))) (
  (ixO x0.zR s7).bind fun v7 =>
  (zOs x0 s7 v7).bind fun r8 =>
  cond (!r8) (
   some (.inr (.inr false))) (
   (ixO x0.zB s7).bind fun v9 =>
   (rng ((x0.zA.length:Int) - 1)).bind fun v10 =>
   (rng (v10 - s7)).bind fun v11 =>
   cond ((v9.length:Int) != v11) (
    some (.inr (.inr false))) (
    (ixO x0.zB s7).bind fun v12 =>
    (zJ (zOt x0 s7 v12) 0).bind fun r16 =>
    match r16 with
    | (.inl r16) =>
     (rng (s7 + 1)).bind fun v17 =>
     some (.inl v17)
    | (.inr r16) =>
     some (.inr (.inr r16))))) (
  some (.inr (.inl ())))
def f_m (x0:SPr):Option Bool :=
 cond (decide ((x0.zA.length:Int) > 6)) (
  some false) (
  cond ((x0.zR.length:Int) != (x0.zA.length:Int)) (
   some false) (
   cond ((x0.zB.length:Int) != (x0.zA.length:Int)) (
    some false) (
    (zJ (zJP x0) (1,0)).bind fun r6 =>
    match r6 with
    | (.inl r6) =>
     (zJ (zJQ x0) 0).bind fun r18 =>
     match r18 with
     | (.inl r18) =>
      some true
     | (.inr r18) =>
      some r18
    | (.inr r6) =>
     some r6)))
def f_z (x0:List Int):Option (List Int) :=
 (wJ [] x0).bind fun v2 =>
 some v2
def zOu (x2:Int) (r3:(List Int)) (s1:(List Int) × Int):Option (((List Int) × Int) ⊕ (List Int)) :=
 cond (decide (s1.2 < (r3.length:Int))) (
  (rng (x2 + 1)).bind fun v4 =>
  (rng (v4 + s1.2)).bind fun v5 =>
  (ixO s1.1 v5).bind fun _ =>
  (rng (s1.2 + 1)).bind fun v7 =>
  some (.inl (s1.1.set v5.toNat 0,v7))) (
  some (.inr s1.1))
def zRK (g_c:SPr → (List Int) → (List Int) → Option (List Int)) (x0:SPr) (x2:Int) (s7:(List Int) × Int) (v17:Int) (s8:(List Int) × Int):Option (((List Int) × Int) ⊕ (List Int)) :=
 cond (decide (s8.2 < v17)) (
  (ixO x0.zB x2).bind fun v18 =>
  (ixO v18 s7.2).bind fun v19 =>
  (g_c x0 s8.1 v19).bind fun r20 =>
  (rng (s8.2 + 1)).bind fun v21 =>
  some (.inl (r20,v21))) (
  some (.inr s8.1))
def zRL (g_c:SPr → (List Int) → (List Int) → Option (List Int)) (x0:SPr) (x2:Int) (r3:(List Int)) (s7:(List Int) × Int):Option (((List Int) × Int) ⊕ (List Int)) :=
 cond (decide (s7.2 < (r3.length:Int))) (
  (ixO r3 s7.2).bind fun v17 =>
  (zJ (zRK g_c x0 x2 s7 v17) (s7.1,0)).bind fun r22 =>
  (rng (s7.2 + 1)).bind fun v23 =>
  some (.inl (r22,v23))) (
  some (.inr s7.1))
def zRM (g_c:SPr → (List Int) → (List Int) → Option (List Int)) (x0:SPr) (x2:Int) (s15:(List Int) × Int) (v25:Int) (s16:(List Int) × Int):Option (((List Int) × Int) ⊕ (List Int)) :=
 cond (decide (s16.2 < v25)) (
  (ixO x0.zB x2).bind fun v26 =>
  (ixO v26 s15.2).bind fun v27 =>
  (g_c x0 s16.1 v27).bind fun r28 =>
  (rng (s16.2 + 1)).bind fun v29 =>
  some (.inl (r28,v29))) (
  some (.inr s16.1))
def zRN (g_c:SPr → (List Int) → (List Int) → Option (List Int)) (x0:SPr) (x2:Int) (r3:(List Int)) (s15:(List Int) × Int):Option (((List Int) × Int) ⊕ (List Int)) :=
 cond (decide (s15.2 < (r3.length:Int))) (
  (ixO r3 s15.2).bind fun v25 =>
  (zJ (zRM g_c x0 x2 s15 v25) (s15.1,0)).bind fun r30 =>
  (rng (s15.2 + 1)).bind fun v31 =>
  some (.inl (r30,v31))) (
  some (.inr s15.1))
def b_b (g_c:SPr → (List Int) → (List Int) → Option (List Int)) (x0:SPr) (x1:List Int) (x2:Int):Option (List Int) :=
 (rng (x2 + 1)).bind fun v1 =>
 (yB x1 v1 x1.length).bind fun v2 =>
 (f_z v2).bind fun r3 =>
 (zJ (zOu x2 r3) (x1,0)).bind fun r8 =>
 (ixO r8 x2).bind fun v9 =>
 (rng (v9 + 1)).bind fun v10 =>
 (ixO r8 x2).bind fun _ =>
 (ixO (r8.set x2.toNat v10) x2).bind fun v12 =>
 (ixO x0.zA x2).bind fun v13 =>
 cond (v12 == v13) (
  (ixO (r8.set x2.toNat v10) x2).bind fun _ =>
  (ixO x0.zR x2).bind fun v15 =>
  (g_c x0 ((r8.set x2.toNat v10).set x2.toNat 0) v15).bind fun r16 =>
  (zJ (zRL g_c x0 x2 r3) (r16,0)).bind fun r24 =>
  some r24) (
  (zJ (zRN g_c x0 x2 r3) (r8.set x2.toNat v10,0)).bind fun r32 =>
  some r32)
def zOv (g_b:SPr → (List Int) → Int → Option (List Int)) (x0:SPr) (s5:(List Int) × Int) (v1:Int) (s6:(List Int) × Int):Option (((List Int) × Int) ⊕ (List Int)) :=
 cond (decide (s6.2 < v1)) (
  (g_b x0 s6.1 s5.2).bind fun r2 =>
  (rng (s6.2 + 1)).bind fun v3 =>
  some (.inl (r2,v3))) (
  some (.inr s6.1))
def zOw (g_b:SPr → (List Int) → Int → Option (List Int)) (x0:SPr) (x2:List Int) (s5:(List Int) × Int):Option (((List Int) × Int) ⊕ (List Int)) :=
 cond (decide (s5.2 < (x2.length:Int))) (
  (ixO x2 s5.2).bind fun v1 =>
  (zJ (zOv g_b x0 s5 v1) (s5.1,0)).bind fun r4 =>
  (rng (s5.2 + 1)).bind fun v5 =>
  some (.inl (r4,v5))) (
  some (.inr s5.1))
def b_c (g_b:SPr → (List Int) → Int → Option (List Int)) (x0:SPr) (x1:List Int) (x2:List Int):Option (List Int) :=
 (zJ (zOw g_b x0 x2) (x1,0)).bind fun r6 =>
 some r6
mutual
def zOx:Nat → SPr → (List Int) → Int → Option (List Int)
 | 0 => fun _ _ _ => none
 | n + 1 => b_b (zLX n)
def zLX:Nat → SPr → (List Int) → (List Int) → Option (List Int)
 | 0 => fun _ _ _ => none
 | n + 1 => b_c (zOx n)
end
def f_b (x0:SPr) (x1:List Int) (x2:Int):Option (List Int):=zB7 fun n => zOx n x0 x1 x2
def f_c (x0:SPr) (x1:List Int) (x2:List Int):Option (List Int):=zB7 fun n => zLX n x0 x1 x2
def zIE (x0:SPr) (x1:List Int) (x2:Int) (s1:(List Int) × Int):Option (((List Int) × Int) ⊕ (List Int)) :=
 cond (decide (s1.2 < x2)) (
  (f_c x0 s1.1 x1).bind fun r2 =>
  (rng (s1.2 + 1)).bind fun v3 =>
  some (.inl (r2,v3))) (
  some (.inr s1.1))
def zPV (x0:SPr) (x1:List Int) (x2:Int):Option (List Int) :=
 (yP (x1.length:Int)).bind fun m1 =>
 (zJ (zIE x0 x1 x2) (List.replicate m1 (0:Int),0)).bind fun r4 =>
 some r4
def zOy (x0:SPr) (v3:List Int) (v6:Int) (s6:(List Int) × Int):Option (((List Int) × Int) ⊕ (List Int)) :=
 cond (decide (s6.2 < v6)) (
  (f_c x0 s6.1 v3).bind fun r7 =>
  (rng (s6.2 + 1)).bind fun v8 =>
  some (.inl (r7,v8))) (
  some (.inr s6.1))
def zOz (x0:SPr) (x1:Int) (x2:List Int) (v2:List (List Int)) (s5:(List Int) × Int):Option (((List Int) × Int) ⊕ (List Int)) :=
 cond (decide (s5.2 < (v2.length:Int))) (
  (ixO v2 s5.2).bind fun v3 =>
  (rng (x1 + 1)).bind fun v4 =>
  (rng (v4 + s5.2)).bind fun v5 =>
  (ixO x2 v5).bind fun v6 =>
  (zJ (zOy x0 v3 v6) (s5.1,0)).bind fun r9 =>
  (rng (s5.2 + 1)).bind fun v10 =>
  some (.inl (r9,v10))) (
  some (.inr s5.1))
def f_x (x0:SPr) (x1:Int) (x2:List Int):Option (List Int) :=
 (yP (x2.length:Int)).bind fun m1 =>
 (ixO x0.zB x1).bind fun v2 =>
 (zJ (zOz x0 x1 x2 v2) (List.replicate m1 (0:Int),0)).bind fun r11 =>
 some r11
def zRO (x0:List Int) (x1:List Int) (s1:Int):Option (Int ⊕ (Unit ⊕ Bool)) :=
 cond (decide (s1 < (x0.length:Int))) (
  (ixO x0 s1).bind fun v1 =>
  (ixO x1 s1).bind fun v2 =>
  cond (v1 != v2) (
   some (.inr (.inr false))) (
   (rng (s1 + 1)).bind fun v3 =>
   some (.inl v3))) (
  some (.inr (.inl ())))
def f_L (x0:List Int) (x1:List Int):Option Bool :=
 cond ((x0.length:Int) != (x1.length:Int)) (
  some false) (
  (zJ (zRO x0 x1) 0).bind fun r4 =>
  match r4 with
  | (.inl r4) =>
   some true
  | (.inr r4) =>
   some r4)
def zLY (x0:SPr) (s5:(List Int) × (List Int) × Int) (s6:(List Int) × (List Int)):Option (((List Int) × (List Int)) ⊕ ((List Int) × (List Int))) :=
 (ixO s6.1 s5.2.2).bind fun v3 =>
 cond (v3 != 0) (
  (f_b x0 s6.1 s5.2.2).bind fun r4 =>
  (f_b x0 s6.2 s5.2.2).bind fun r5 =>
  some (.inl (r4,r5))) (
  some (.inr (s6.1,s6.2)))
def zO0 (x0:SPr) (r1:(List Int)) (s5:(List Int) × (List Int) × Int):Option (((List Int) × (List Int) × Int) ⊕ (List Int)) :=
 cond (decide (s5.2.2 < (r1.length:Int))) (
  (zJ (zLY x0 s5) (s5.1,s5.2.1)).bind fun r6 =>
  (rng (s5.2.2 + 1)).bind fun v7 =>
  some (.inl (r6.1,r6.2,v7))) (
  some (.inr s5.2.1))
def f_A (x0:SPr) (x1:List Int):Option (List Int) :=
 (f_z x1).bind fun r1 =>
 (yP (x1.length:Int)).bind fun m2 =>
 (zJ (zO0 x0 r1) (r1,List.replicate m2 (0:Int),0)).bind fun r8 =>
 some r8
def zO1 (x0:SPr) (x1:List Int) (x2:List Int):Option (List Int) :=
 (f_z x1).bind fun r1 =>
 (f_c x0 r1 x2).bind fun r2 =>
 some r2
def zO2 (x0:SPr) (x1:List Int) (x2:List Int):Option (List Int) :=
 (f_A x0 x2).bind fun r1 =>
 (zO1 x0 x1 x2).bind fun r2 =>
 (zO1 x0 r1 r2).bind fun r3 =>
 some r3
def zIF (x0:Int) (x1:Int):Option (List Int) :=
 (yP x0).bind fun m1 =>
 (ixO (List.replicate m1 (0:Int)) x1).bind fun _ =>
 some ((List.replicate m1 (0:Int)).set x1.toNat 1)
def zO3 (x0:SPr) (x1:Int) (s1:Int):Option (Int ⊕ (Unit ⊕ yL)) :=
 cond (decide (s1 < (x0.zA.length:Int))) (
  (ixO x0.zB x1).bind fun v2 =>
  (rng (s1 - x1)).bind fun v3 =>
  (rng (v3 - 1)).bind fun v4 =>
  (ixO v2 v4).bind fun v5 =>
  (ixO x0.zA s1).bind fun v6 =>
  (zPV x0 v5 v6).bind fun r7 =>
  (ixO x0.zR s1).bind fun v8 =>
  (f_x x0 x1 v8).bind fun r9 =>
  (f_L r7 r9).bind fun r10 =>
  cond (!r10) (
   some (.inr (.inr (yL.mk 1 x1 s1 0)))) (
   (rng (s1 + 1)).bind fun v11 =>
   some (.inl v11))) (
  some (.inr (.inl ())))
def zO4 (x0:SPr) (x1:Int) (s7:Int) (s8:Int):Option (Int ⊕ (Unit ⊕ yL)) :=
 cond (decide (s8 < (x0.zA.length:Int))) (
  (ixO x0.zB x1).bind fun v15 =>
  (rng (s8 - x1)).bind fun v16 =>
  (rng (v16 - 1)).bind fun v17 =>
  (ixO v15 v17).bind fun v18 =>
  (ixO x0.zB x1).bind fun v19 =>
  (rng (s7 - x1)).bind fun v20 =>
  (rng (v20 - 1)).bind fun v21 =>
  (ixO v19 v21).bind fun v22 =>
  (zO2 x0 v18 v22).bind fun r23 =>
  (ixO x0.zB s7).bind fun v24 =>
  (rng (s8 - s7)).bind fun v25 =>
  (rng (v25 - 1)).bind fun v26 =>
  (ixO v24 v26).bind fun v27 =>
  (f_x x0 x1 v27).bind fun r28 =>
  (f_L r23 r28).bind fun r29 =>
  cond (!r29) (
   some (.inr (.inr (yL.mk 2 x1 s7 s8)))) (
   (rng (s8 + 1)).bind fun v30 =>
   some (.inl v30))) (
  some (.inr (.inl ())))
def zO5 (x0:SPr) (x1:Int) (s7:Int):Option (Int ⊕ (Unit ⊕ yL)) :=
 cond (decide (s7 < (x0.zA.length:Int))) (
  (rng (s7 + 1)).bind fun v14 =>
  (zJ (zO4 x0 x1 s7) v14).bind fun r31 =>
  match r31 with
  | (.inl r31) =>
   (rng (s7 + 1)).bind fun v32 =>
   some (.inl v32)
  | (.inr r31) =>
   some (.inr (.inr r31))) (
  some (.inr (.inl ())))
def zO6 (x0:SPr) (x1:Int) (v39:Int) (s16:(List Int) × Int):Option (((List Int) × Int) ⊕ (List Int)) :=
 cond (decide (s16.2 < v39)) (
  (f_x x0 x1 s16.1).bind fun r40 =>
  (rng (s16.2 + 1)).bind fun v41 =>
  some (.inl (r40,v41))) (
  some (.inr s16.1))
def zO7 (x0:SPr) (x1:Int) (v34:List Int) (s15:Int):Option (Int ⊕ (Unit ⊕ yL)) :=
 cond (decide (s15 < (x0.zA.length:Int))) (
  (zIF (x0.zA.length:Int) s15).bind fun r38 =>
  (ixO x0.zA x1).bind fun v39 =>
  (zJ (zO6 x0 x1 v39) (r38,0)).bind fun r42 =>
  (zIF (x0.zA.length:Int) s15).bind fun r43 =>
  (zO2 x0 r43 v34).bind fun r44 =>
  (f_L r42 r44).bind fun r45 =>
  cond (!r45) (
   some (.inr (.inr (yL.mk 4 x1 s15 0)))) (
   (rng (s15 + 1)).bind fun v46 =>
   some (.inl v46))) (
  some (.inr (.inl ())))
def f_j (x0:SPr) (x1:Int):Option yL :=
 (rng (x1 + 1)).bind fun v1 =>
 (zJ (zO3 x0 x1) v1).bind fun r12 =>
 match r12 with
 | (.inl r12) =>
  (rng (x1 + 1)).bind fun v13 =>
  (zJ (zO5 x0 x1) v13).bind fun r33 =>
  match r33 with
  | (.inl r33) =>
   (ixO x0.zR x1).bind fun v34 =>
   (f_x x0 x1 v34).bind fun r35 =>
   (f_L r35 v34).bind fun r36 =>
   cond (!r36) (
    some (yL.mk 3 x1 0 0)) (
    (rng (x1 + 1)).bind fun v37 =>
    (zJ (zO7 x0 x1 v34) v37).bind fun r47 =>
    match r47 with
    | (.inl r47) =>
     some (yL.mk 0 0 0 0)
    | (.inr r47) =>
     some r47)
  | (.inr r33) =>
   some r33
 | (.inr r12) =>
  some r12
def zIG (x0:SPr) (s1:Int):Option (Int ⊕ Int) :=
 cond (decide (s1 > 0)) (
  (rng (s1 - 1)).bind fun v1 =>
  (f_j x0 v1).bind fun r2 =>
  cond (r2.Kind == 0 && (r2.zQP == 0 && (r2.zQO == 0 && r2.zPh == 0))) (
   (rng (s1 - 1)).bind fun v3 =>
   some (.inl v3)) (
   some (.inr s1))) (
  some (.inr s1))
def f_H (x0:SPr):Option Int :=
 (zJ (zIG x0) (x0.zA.length:Int)).bind fun r4 =>
 some r4
def zPW (x0:SPr):Option Bool :=
 (f_m x0).bind fun r1 =>
 cond r1 (
  (f_H x0).bind fun r2 =>
  some (r2 == 0)) (
  some false)
def zIH (x0:zC) (x1:Int):Option zL :=
 (ixO x0.zE x1).bind fun v1 =>
 some (zL.mk x0.Prime x0.Dim v1)
def zLk (x0:List Int) (x1:Int) (s1:Int):Option (Int ⊕ (Unit ⊕ Bool)) :=
 cond (decide (s1 < (x0.length:Int))) (
  (ixO x0 s1).bind fun v1 =>
  (rng (x1 - 1)).bind fun v2 =>
  (zJO v1 0 v2).bind fun r3 =>
  cond (!r3) (
   some (.inr (.inr false))) (
   (rng (s1 + 1)).bind fun v4 =>
   some (.inl v4))) (
  some (.inr (.inl ())))
def zO8 (x0:List Int) (x1:Int) (x2:Int):Option Bool :=
 cond ((x0.length:Int) != x2) (
  some false) (
  (zJ (zLk x0 x1) 0).bind fun r5 =>
  match r5 with
  | (.inl r5) =>
   some true
  | (.inr r5) =>
   some r5)
def zII (x0:zL) (s1:Int):Option (Int ⊕ (Unit ⊕ Bool)) :=
 cond (decide (s1 < (x0.Rows.length:Int))) (
  (ixO x0.Rows s1).bind fun v3 =>
  (zO8 v3 x0.Prime x0.yS).bind fun r4 =>
  cond (!r4) (
   some (.inr (.inr false))) (
   (rng (s1 + 1)).bind fun v5 =>
   some (.inl v5))) (
  some (.inr (.inl ())))
def f_E (x0:zL):Option Bool :=
 (zLV x0.Prime).bind fun r1 =>
 cond (!r1) (
  some false) (
  (zJO x0.yS 0 8).bind fun r2 =>
  cond (!r2) (
   some false) (
   cond (decide ((x0.Rows.length:Int) > 8)) (
    some false) (
    (zJ (zII x0) 0).bind fun r6 =>
    match r6 with
    | (.inl r6) =>
     some true
    | (.inr r6) =>
     some r6)))
def zTI (x0:Int) (x1:Int):Option (Int × Int) :=
 some ((IntKind.wrap .u64 ((IntKind.wrap .u64 ((IntKind.wrap .u64 ((Int.fdiv x0 (2 ^ (min (32:Int).toNat (IntKind.bits .u64)))) * (Int.fdiv x1 (2 ^ (min (32:Int).toNat (IntKind.bits .u64)))))) + (Int.fdiv (IntKind.wrap .u64 ((IntKind.wrap .u64 ((Int.fdiv x0 (2 ^ (min (32:Int).toNat (IntKind.bits .u64)))) * (zDP .u64 x1 4294967295))) + (Int.fdiv (IntKind.wrap .u64 ((zDP .u64 x0 4294967295) * (zDP .u64 x1 4294967295))) (2 ^ (min (32:Int).toNat (IntKind.bits .u64)))))) (2 ^ (min (32:Int).toNat (IntKind.bits .u64)))))) + (Int.fdiv (IntKind.wrap .u64 ((zDP .u64 (IntKind.wrap .u64 ((IntKind.wrap .u64 ((Int.fdiv x0 (2 ^ (min (32:Int).toNat (IntKind.bits .u64)))) * (zDP .u64 x1 4294967295))) + (Int.fdiv (IntKind.wrap .u64 ((zDP .u64 x0 4294967295) * (zDP .u64 x1 4294967295))) (2 ^ (min (32:Int).toNat (IntKind.bits .u64)))))) 4294967295) + (IntKind.wrap .u64 ((zDP .u64 x0 4294967295) * (Int.fdiv x1 (2 ^ (min (32:Int).toNat (IntKind.bits .u64)))))))) (2 ^ (min (32:Int).toNat (IntKind.bits .u64)))))),(IntKind.wrap .u64 (x0 * x1)))
def zO9 (x0:Int) (x1:Int):Option (Int × Int) :=
 (zTI x0 x1).bind fun r1 =>
 some (r1.1,r1.2)
def sD  (s1:(List Int) × Int):Option (((List Int) × Int) ⊕ (List Int)) :=
 cond (decide (s1.2 < (s1.1.length:Int))) (
  (yB s1.1 s1.2 s1.1.length).bind fun _ =>
  (yB s1.1 0 s1.2).bind fun v4 =>
  (rng (s1.2 + ((min v4.length (((s1.1.length:Int).toNat) - ((s1.2:Int).toNat)):Nat):Int))).bind fun v5 =>
  some (.inl (xX s1.1 ((s1.2:Int).toNat) (v4.take (((s1.1.length:Int).toNat) - ((s1.2:Int).toNat))),v5))) (
  some (.inr s1.1))
def f_g (x0:List Int) (x1:Int):Option (List Int) :=
 cond (decide (x1 < 0)) (
  none) (
  (zO9 (IntKind.wrap .u64 (x0.length:Int)) (IntKind.wrap .u64 x1)).bind fun r1 =>
  cond (decide (r1.1 > 0)) (
   none) (
   cond (decide (r1.2 > 9223372036854775807)) (
    none) (
    (yP (IntKind.wrap .i64 r1.2)).bind fun m2 =>
    (zJ sD (xX (List.replicate m2 (0:Int)) 0 (x0.take (((List.replicate m2 (0:Int)).length) - 0)),((min x0.length (((List.replicate m2 (0:Int)).length) - 0):Nat):Int))).bind fun r6 =>
    some r6)))
def zOA (s5:(List Int) × Int) (v1:Int) (s6:(List Int) × Int):Option (((List Int) × Int) ⊕ (List Int)) :=
 cond (decide (s6.2 < v1)) (
  (rng (s5.2 + 1)).bind fun v2 =>
  (wJ s6.1 [v2]).bind fun v3 =>
  (rng (s6.2 + 1)).bind fun v4 =>
  some (.inl (v3,v4))) (
  some (.inr s6.1))
def zOB (x0:List Int) (s5:(List Int) × Int):Option (((List Int) × Int) ⊕ (List Int)) :=
 cond (decide (s5.2 < (x0.length:Int))) (
  (ixO x0 s5.2).bind fun v1 =>
  (zJ (zOA s5 v1) (s5.1,0)).bind fun r5 =>
  (rng (s5.2 + 1)).bind fun v6 =>
  some (.inl (r5,v6))) (
  some (.inr s5.1))
def f_D (x0:List Int):Option (List Int) :=
 (zJ (zOB x0) ([],0)).bind fun r7 =>
 some r7
def zOC (x0:SPr) (s1:(List ((List Int) × (List Int))) × Int):Option (((List ((List Int) × (List Int))) × Int) ⊕ (List ((List Int) × (List Int)))) :=
 cond (decide (s1.2 < (x0.zA.length:Int))) (
  (ixO x0.zA s1.2).bind fun v1 =>
  (rng (s1.2 + 1)).bind fun v2 =>
  (f_g [v2] v1).bind fun r3 =>
  (ixO x0.zR s1.2).bind fun v4 =>
  (f_D v4).bind fun r5 =>
  (wJ s1.1 [(r3,r5)]).bind fun v6 =>
  (rng (s1.2 + 1)).bind fun v7 =>
  some (.inl (v6,v7))) (
  some (.inr s1.1))
def zOD (s7:(List ((List Int) × (List Int))) × Int) (v9:List (List Int)) (s8:(List ((List Int) × (List Int))) × Int):Option (((List ((List Int) × (List Int))) × Int) ⊕ (List ((List Int) × (List Int)))) :=
 cond (decide (s8.2 < (v9.length:Int))) (
  (ixO v9 s8.2).bind fun v10 =>
  (rng (s7.2 + 1)).bind fun v11 =>
  (rng (s7.2 + s8.2)).bind fun v12 =>
  (rng (v12 + 2)).bind fun v13 =>
  (f_D v10).bind fun r14 =>
  (wJ [v11] r14).bind fun v15 =>
  (wJ s8.1 [([v13,v11],v15)]).bind fun v16 =>
  (rng (s8.2 + 1)).bind fun v17 =>
  some (.inl (v16,v17))) (
  some (.inr s8.1))
def zOE (x0:SPr) (s7:(List ((List Int) × (List Int))) × Int):Option (((List ((List Int) × (List Int))) × Int) ⊕ (List ((List Int) × (List Int)))) :=
 cond (decide (s7.2 < (x0.zA.length:Int))) (
  (ixO x0.zB s7.2).bind fun v9 =>
  (zJ (zOD s7 v9) (s7.1,0)).bind fun r18 =>
  (rng (s7.2 + 1)).bind fun v19 =>
  some (.inl (r18,v19))) (
  some (.inr s7.1))
def f_p (x0:SPr):Option (List ((List Int) × (List Int))) :=
 (zJ (zOC x0) ([],0)).bind fun r8 =>
 (zJ (zOE x0) (r8,0)).bind fun r20 =>
 some r20
def zOF (x1:Int) (s1:(List (List Int)) × Int):Option (((List (List Int)) × Int) ⊕ (List (List Int))) :=
 cond (decide (s1.2 < x1)) (
  (yP x1).bind fun m1 =>
  (ixO (List.replicate m1 (0:Int)) s1.2).bind fun _ =>
  (wJ s1.1 [(List.replicate m1 (0:Int)).set s1.2.toNat 1]).bind fun v3 =>
  (rng (s1.2 + 1)).bind fun v4 =>
  some (.inl (v3,v4))) (
  some (.inr s1.1))
def f_M (x0:Int) (x1:Int):Option zL :=
 (zJ (zOF x1) ([],0)).bind fun r5 =>
 some (zL.mk x0 x1 r5)
def zLZ (x0:Int) (x1:Int):Option Int :=
 (vQ x0 x1).bind fun v1 =>
 (rng (v1 + x1)).bind fun v2 =>
 (vQ v2 x1).bind fun v3 =>
 some v3
def zIJ (x0:List Int) (x1:List Int) (x2:Int) (x3:Int) (s1:(List Int) × Int):Option (((List Int) × Int) ⊕ (List Int)) :=
 cond (decide (s1.2 < (x0.length:Int))) (
  (ixO s1.1 s1.2).bind fun v1 =>
  (ixO x1 s1.2).bind fun v2 =>
  (rng (x2 * v2)).bind fun v3 =>
  (rng (v1 + v3)).bind fun v4 =>
  (zLZ v4 x3).bind fun r5 =>
  (ixO s1.1 s1.2).bind fun _ =>
  (rng (s1.2 + 1)).bind fun v7 =>
  some (.inl (s1.1.set s1.2.toNat r5,v7))) (
  some (.inr s1.1))
def f_I (x0:List Int) (x1:List Int) (x2:Int) (x3:Int):Option (List Int) :=
 (zJ (zIJ x0 x1 x2 x3) (x0,0)).bind fun r8 =>
 some r8
def zIK (x0:List Int) (x1:zL) (s1:(List Int) × Int):Option (((List Int) × Int) ⊕ (List Int)) :=
 cond (decide (s1.2 < (x0.length:Int))) (
  (ixO x0 s1.2).bind fun v2 =>
  (ixO x1.Rows s1.2).bind fun v3 =>
  (f_I s1.1 v3 v2 x1.Prime).bind fun r4 =>
  (rng (s1.2 + 1)).bind fun v5 =>
  some (.inl (r4,v5))) (
  some (.inr s1.1))
def f_F (x0:List Int) (x1:zL):Option (List Int) :=
 (yP x1.yS).bind fun m1 =>
 (zJ (zIK x0 x1) (List.replicate m1 (0:Int),0)).bind fun r6 =>
 some r6
def zIL (x0:zL) (x1:zL) (s1:(List (List Int)) × Int):Option (((List (List Int)) × Int) ⊕ (List (List Int))) :=
 cond (decide (s1.2 < (x0.Rows.length:Int))) (
  (ixO x0.Rows s1.2).bind fun v1 =>
  (f_F v1 x1).bind fun r2 =>
  (wJ s1.1 [r2]).bind fun v3 =>
  (rng (s1.2 + 1)).bind fun v4 =>
  some (.inl (v3,v4))) (
  some (.inr s1.1))
def f_B (x0:zL) (x1:zL):Option zL :=
 (zJ (zIL x0 x1) ([],0)).bind fun r5 =>
 some (zL.mk x0.Prime x1.yS r5)
def zOG (x0:zC) (x1:List Int) (s1:Int × Int × (List (List Int)) × Int):Option ((Int × Int × (List (List Int)) × Int) ⊕ (Int × Int × (List (List Int)))) :=
 cond (decide (s1.2.2.2 < (x1.length:Int))) (
  (ixO x1 s1.2.2.2).bind fun v2 =>
  (rng (v2 - 1)).bind fun v3 =>
  (zIH x0 v3).bind fun r4 =>
  (f_B (zL.mk s1.1 s1.2.1 s1.2.2.1) r4).bind fun r5 =>
  (rng (s1.2.2.2 + 1)).bind fun v6 =>
  some (.inl (r5.Prime,r5.yS,r5.Rows,v6))) (
  some (.inr (s1.1,s1.2.1,s1.2.2.1)))
def f_N (x0:zC) (x1:List Int):Option zL :=
 (f_M x0.Prime x0.Dim).bind fun r1 =>
 (zJ (zOG x0 x1) (r1.Prime,r1.yS,r1.Rows,0)).bind fun r7 =>
 some (zL.mk r7.1 r7.2.1 r7.2.2)
def zOH (x0:List (List Int)) (x1:List (List Int)) (s1:Int):Option (Int ⊕ (Unit ⊕ Bool)) :=
 cond (decide (s1 < (x0.length:Int))) (
  (ixO x0 s1).bind fun v1 =>
  (ixO x1 s1).bind fun v2 =>
  (f_L v1 v2).bind fun r3 =>
  cond (!r3) (
   some (.inr (.inr false))) (
   (rng (s1 + 1)).bind fun v4 =>
   some (.inl v4))) (
  some (.inr (.inl ())))
def zRP (x0:List (List Int)) (x1:List (List Int)):Option Bool :=
 cond ((x0.length:Int) != (x1.length:Int)) (
  some false) (
  (zJ (zOH x0 x1) 0).bind fun r5 =>
  match r5 with
  | (.inl r5) =>
   some true
  | (.inr r5) =>
   some r5)
def zOI (x0:List (List Int)) (x1:List (List Int)):Option Bool :=
 (zRP x0 x1).bind fun r1 =>
 some r1
def zOJ (x1:zC) (s1:Int):Option (Int ⊕ (Unit ⊕ Bool)) :=
 cond (decide (s1 < (x1.zE.length:Int))) (
  (ixO x1.zE s1).bind fun v4 =>
  cond ((v4.length:Int) != x1.Dim) (
   some (.inr (.inr false))) (
   (zIH x1 s1).bind fun r5 =>
   (f_E r5).bind fun r6 =>
   cond (!r6) (
    some (.inr (.inr false))) (
    (rng (s1 + 1)).bind fun v7 =>
    some (.inl v7)))) (
  some (.inr (.inl ())))
def zOK (x1:zC) (r9:(List ((List Int) × (List Int)))) (s3:Int):Option (Int ⊕ (Unit ⊕ Bool)) :=
 cond (decide (s3 < (r9.length:Int))) (
  (ixO r9 s3).bind fun v10 =>
  (f_N x1 v10.1).bind fun r11 =>
  (f_N x1 v10.2).bind fun r12 =>
  (zOI r11.Rows r12.Rows).bind fun r13 =>
  cond (!r13) (
   some (.inr (.inr false))) (
   (rng (s3 + 1)).bind fun v14 =>
   some (.inl v14))) (
  some (.inr (.inl ())))
def f_q (x0:SPr) (x1:zC):Option Bool :=
 (zPW x0).bind fun r1 =>
 cond (!r1) (
  some false) (
  (zLV x1.Prime).bind fun r2 =>
  cond (!r2) (
   some false) (
   (zJO x1.Dim 1 3).bind fun r3 =>
   cond (!r3) (
    some false) (
    cond ((x1.zE.length:Int) != (x0.zA.length:Int)) (
     some false) (
     (zJ (zOJ x1) 0).bind fun r8 =>
     match r8 with
     | (.inl r8) =>
      (f_p x0).bind fun r9 =>
      (zJ (zOK x1 r9) 0).bind fun r15 =>
      match r15 with
      | (.inl r15) =>
       some true
      | (.inr r15) =>
       some r15
     | (.inr r8) =>
      some r8))))
def zOL (x1:Int):Option (List Int) :=
 cond (decide (x1 < 0)) (
  none) (
  (rng (0 - 0)).bind fun v1 =>
  (rng (x1 - v1)).bind fun v2 =>
  cond (decide (v2 > 0)) (
   (vF [] v2 (0:Int)).bind fun v3 =>
   (yB v3 0 0).bind fun v4 =>
   some v4) (
   some []))
def zOM (x0:List (List Int)) (s1:Int × Int):Option ((Int × Int) ⊕ Int) :=
 cond (decide (s1.2 < (x0.length:Int))) (
  (ixO x0 s1.2).bind fun v1 =>
  (rng (s1.1 + (v1.length:Int))).bind fun v2 =>
  cond (decide (v2 < 0)) (
   none) (
   (rng (s1.2 + 1)).bind fun v3 =>
   some (.inl (v2,v3)))) (
  some (.inr s1.1))
def zON (x0:List (List Int)) (s3:(List Int) × Int):Option (((List Int) × Int) ⊕ (List Int)) :=
 cond (decide (s3.2 < (x0.length:Int))) (
  (ixO x0 s3.2).bind fun v6 =>
  (wJ s3.1 v6).bind fun v7 =>
  (rng (s3.2 + 1)).bind fun v8 =>
  some (.inl (v7,v8))) (
  some (.inr s3.1))
def f_r (x0:List (List Int)):Option (List Int) :=
 (zJ (zOM x0) (0,0)).bind fun r4 =>
 (zOL r4).bind fun r5 =>
 (zJ (zON x0) (r5,0)).bind fun r9 =>
 some r9
def zOO (x0:List Int) (x1:Int) (x2:Int):Option (List Int) :=
 (yP x1).bind fun m1 =>
 (yP x2).bind fun m2 =>
 (f_r [List.replicate m1 (0:Int),x0,List.replicate m2 (0:Int)]).bind fun r3 =>
 some r3
def zOP (x0:List Int) (x1:List Int) (s1:Int):Option (Int ⊕ (Unit ⊕ Bool)) :=
 cond (decide (s1 < (x0.length:Int))) (
  (ixO x0 s1).bind fun v1 =>
  (ixO x1 s1).bind fun v2 =>
  cond (v1 != v2) (
   some (.inr (.inr false))) (
   (rng (s1 + 1)).bind fun v3 =>
   some (.inl v3))) (
  some (.inr (.inl ())))
def zOQ (x0:List Int) (x1:List Int):Option Bool :=
 cond ((x0.length:Int) != (x1.length:Int)) (
  some false) (
  (zJ (zOP x0 x1) 0).bind fun r4 =>
  match r4 with
  | (.inl r4) =>
   some true
  | (.inr r4) =>
   some r4)
def zRQ (x0:List (List Int)) (x1:List (List Int)) (s1:Int):Option (Int ⊕ (Unit ⊕ Bool)) :=
 cond (decide (s1 < (x0.length:Int))) (
  (ixO x0 s1).bind fun v1 =>
  (ixO x1 s1).bind fun v2 =>
  (zOQ v1 v2).bind fun r3 =>
  cond (!r3) (
   some (.inr (.inr false))) (
   (rng (s1 + 1)).bind fun v4 =>
   some (.inl v4))) (
  some (.inr (.inl ())))
def f_y (x0:List (List Int)) (x1:List (List Int)):Option Bool :=
 cond ((x0.length:Int) != (x1.length:Int)) (
  some false) (
  (zJ (zRQ x0 x1) 0).bind fun r5 =>
  match r5 with
  | (.inl r5) =>
   some true
  | (.inr r5) =>
   some r5)
def zOR (x0:List (List (List Int))) (x1:List (List (List Int))) (s1:Int):Option (Int ⊕ (Unit ⊕ Bool)) :=
 cond (decide (s1 < (x0.length:Int))) (
  (ixO x0 s1).bind fun v1 =>
  (ixO x1 s1).bind fun v2 =>
  (f_y v1 v2).bind fun r3 =>
  cond (!r3) (
   some (.inr (.inr false))) (
   (rng (s1 + 1)).bind fun v4 =>
   some (.inl v4))) (
  some (.inr (.inl ())))
def zPX (x0:List (List (List Int))) (x1:List (List (List Int))):Option Bool :=
 cond ((x0.length:Int) != (x1.length:Int)) (
  some false) (
  (zJ (zOR x0 x1) 0).bind fun r5 =>
  match r5 with
  | (.inl r5) =>
   some true
  | (.inr r5) =>
   some r5)
def zOS (x0:zC) (x1:zC):Option Bool :=
 cond (x0.Prime != x1.Prime) (
  some false) (
  cond (x0.Dim != x1.Dim) (
   some false) (
   (zPX x0.zE x1.zE).bind fun r1 =>
   cond (!r1) (
    some false) (
    some true)))
def zPY (x0:SPr) (x1:SPr):Option Bool :=
 (zOQ x0.zA x1.zA).bind fun r1 =>
 cond (!r1) (
  some false) (
  (f_y x0.zR x1.zR).bind fun r2 =>
  cond (!r2) (
   some false) (
   (zPX x0.zB x1.zB).bind fun r3 =>
   cond (!r3) (
    some false) (
    some true)))
def zPZ  (s1:(List Int) × Int × Int):Option (((List Int) × Int × Int) ⊕ ((List Int) × Int)) :=
 cond (decide (s1.2.2 < (s1.1.length:Int))) (
  (ixO s1.1 s1.2.2).bind fun _ =>
  (rng (s1.2.1 + 1)).bind fun v2 =>
  (rng (s1.2.2 + 1)).bind fun v3 =>
  some (.inl (s1.1.set s1.2.2.toNat s1.2.1,v2,v3))) (
  some (.inr (s1.1,s1.2.1)))
def f_R (x0:List Int) (x1:Int):Option (Int × (List Int)) :=
 (zJ zPZ (x0,x1,0)).bind fun r4 =>
 some (r4.2,r4.1)
def zRR  (s1:(List (List Int)) × Int × Int):Option (((List (List Int)) × Int × Int) ⊕ ((List (List Int)) × Int)) :=
 cond (decide (s1.2.2 < (s1.1.length:Int))) (
  (ixO s1.1 s1.2.2).bind fun v1 =>
  (f_R v1 s1.2.1).bind fun r2 =>
  (rng (s1.2.2 + 1)).bind fun v3 =>
  some (.inl (s1.1.set s1.2.2.toNat r2.2,r2.1,v3))) (
  some (.inr (s1.1,s1.2.1)))
def f_G (x0:List (List Int)) (x1:Int):Option (Int × (List (List Int))) :=
 (zJ zRR (x0,x1,0)).bind fun r4 =>
 some (r4.2,r4.1)
def zOT  (s1:(List (List (List Int))) × Int × Int):Option (((List (List (List Int))) × Int × Int) ⊕ ((List (List (List Int))) × Int)) :=
 cond (decide (s1.2.2 < (s1.1.length:Int))) (
  (ixO s1.1 s1.2.2).bind fun v1 =>
  (f_G v1 s1.2.1).bind fun r2 =>
  (rng (s1.2.2 + 1)).bind fun v3 =>
  some (.inl (s1.1.set s1.2.2.toNat r2.2,r2.1,v3))) (
  some (.inr (s1.1,s1.2.1)))
def zOU (x0:List (List (List Int))) (x1:Int):Option (Int × (List (List (List Int)))) :=
 (zJ zOT (x0,x1,0)).bind fun r4 =>
 some (r4.2,r4.1)
def zQa (x0:SPr) (x1:Int):Option (Int × SPr) :=
 (f_R x0.zA x1).bind fun r1 =>
 (f_G x0.zR r1.1).bind fun r2 =>
 (zOU x0.zB r2.1).bind fun r3 =>
 some (r3.1,(SPr.mk r1.2 r2.2 r3.2))
def zOV (x0:zC) (x1:Int):Option (Int × zC) :=
 (zOU x0.zE x1).bind fun r1 =>
 some (r1.1,(zC.mk x0.Prime x0.Dim r1.2))
def zOW (x0:List Int) (s1:Int × Int):Option ((Int × Int) ⊕ (Int ⊕ Int)) :=
 cond (decide (s1.2 < (x0.length:Int))) (
  (ixO x0 s1.2).bind fun v1 =>
  cond (v1 != s1.1) (
   some (.inr (.inr (-1)))) (
   (rng (s1.1 + 1)).bind fun v2 =>
   (rng (s1.2 + 1)).bind fun v3 =>
   some (.inl (v2,v3)))) (
  some (.inr (.inl s1.1)))
def f_S (x0:List Int) (x1:Int):Option Int :=
 (zJ (zOW x0) (x1,0)).bind fun r4 =>
 match r4 with
 | (.inl r4) =>
  some r4
 | (.inr r4) =>
  some r4
def zOX (x0:List (List Int)) (s1:Int × Int):Option ((Int × Int) ⊕ (Int ⊕ Int)) :=
 cond (decide (s1.2 < (x0.length:Int))) (
  (ixO x0 s1.2).bind fun v1 =>
  (f_S v1 s1.1).bind fun r2 =>
  cond (decide (r2 < 0)) (
   some (.inr (.inr (-1)))) (
   (rng (s1.2 + 1)).bind fun v3 =>
   some (.inl (r2,v3)))) (
  some (.inr (.inl s1.1)))
def zQb (x0:List (List Int)) (x1:Int):Option Int :=
 (zJ (zOX x0) (x1,0)).bind fun r4 =>
 match r4 with
 | (.inl r4) =>
  some r4
 | (.inr r4) =>
  some r4
def zQc (x0:Int) (x1:Int):Option Int :=
 (vQ x0 x1).bind fun v1 =>
 cond (decide (v1 < 0)) (
  (rng (v1 + x1)).bind fun v2 =>
  some v2) (
  some v1)
def zOY (x0:Int) (x2:Int) (x3:List Int) (s1:(List Int) × Int):Option (((List Int) × Int) ⊕ (List Int)) :=
 cond (decide (s1.2 < (s1.1.length:Int))) (
  cond (decide (s1.2 < (x3.length:Int))) (
   (ixO s1.1 s1.2).bind fun v2 =>
   (ixO x3 s1.2).bind fun v3 =>
   (rng (x2 * v3)).bind fun v4 =>
   (rng (v2 + v4)).bind fun v5 =>
   (zQc v5 x0).bind fun r6 =>
   (ixO s1.1 s1.2).bind fun _ =>
   (rng (s1.2 + 1)).bind fun v8 =>
   some (.inl (s1.1.set s1.2.toNat r6,v8))) (
   some (.inr s1.1))) (
  some (.inr s1.1))
def f_K (x0:Int) (x1:List Int) (x2:Int) (x3:List Int):Option (List Int) :=
 (f_u x1).bind fun r1 =>
 (zJ (zOY x0 x2 x3) (r1,0)).bind fun r9 =>
 some r9
def zQd (x0:SPr):Option Int :=
 (rng ((x0.zA.length:Int) - 1)).bind fun v1 =>
 (rng ((x0.zA.length:Int) * v1)).bind fun v2 =>
 (uJ v2 2).bind fun v3 =>
 (rng ((x0.zA.length:Int) + v3)).bind fun v4 =>
 some v4
def zRS (x0:Int) (x1:Int) (x2:Int):Option Int :=
 (rng (x1 * x0)).bind fun v1 =>
 (rng (x0 + v1)).bind fun v2 =>
 (rng (x1 + 1)).bind fun v3 =>
 (rng (x1 * v3)).bind fun v4 =>
 (uJ v4 2).bind fun v5 =>
 (rng (v2 - v5)).bind fun v6 =>
 (rng (v6 + x2)).bind fun v7 =>
 (rng (v7 - x1)).bind fun v8 =>
 (rng (v8 - 1)).bind fun v9 =>
 some v9
def zQe (x0:SPr):Option Int :=
 (rng ((x0.zA.length:Int) + 1)).bind fun v1 =>
 (rng ((x0.zA.length:Int) * v1)).bind fun v2 =>
 (uJ v2 2).bind fun v3 =>
 some v3
def zMa (x0:List Int) (s6:(List (List Int)) × Int):Option (((List (List Int)) × Int) ⊕ (List (List Int))) :=
 cond (decide (s6.2 < (x0.length:Int))) (
  (zIF (x0.length:Int) s6.2).bind fun r5 =>
  (wJ s6.1 [r5]).bind fun v6 =>
  (rng (s6.2 + 1)).bind fun v7 =>
  some (.inl (v6,v7))) (
  some (.inr s6.1))
def zMb (x0:List Int) (s5:(List (List Int)) × (List (List (List Int))) × Int):Option (((List (List Int)) × (List (List (List Int))) × Int) ⊕ ((List (List Int)) × (List (List (List Int))))) :=
 cond (decide (s5.2.2 < (x0.length:Int))) (
  (yP (x0.length:Int)).bind fun m2 =>
  (wJ s5.1 [List.replicate m2 (0:Int)]).bind fun v3 =>
  (rng (s5.2.2 + 1)).bind fun v4 =>
  (zJ (zMa x0) ([],v4)).bind fun r8 =>
  (wJ s5.2.1 [r8]).bind fun v9 =>
  (rng (s5.2.2 + 1)).bind fun v10 =>
  some (.inl (v3,v9,v10))) (
  some (.inr (s5.1,s5.2.1)))
def f_s (x0:List Int):Option SPr :=
 (f_z x0).bind fun r1 =>
 (zJ (zMb x0) ([],[],0)).bind fun r11 =>
 some (SPr.mk r1 r11.1 r11.2)
def zMc (x0:SPr) (x2:List (List Int)) (s1:(List (List Int)) × Int × Int):Option (((List (List Int)) × Int × Int) ⊕ ((List (List Int)) × Int)) :=
 cond (decide (s1.2.2 < (x0.zR.length:Int))) (
  (ixO x0.zR s1.2.2).bind fun v5 =>
  (ixO x2 s1.2.1).bind fun v6 =>
  (f_r [v5,v6]).bind fun r7 =>
  (ixO s1.1 s1.2.2).bind fun _ =>
  (rng (s1.2.1 + 1)).bind fun v9 =>
  (rng (s1.2.2 + 1)).bind fun v10 =>
  some (.inl (s1.1.set s1.2.2.toNat r7,v9,v10))) (
  some (.inr (s1.1,s1.2.1)))
def zMd (x2:List (List Int)) (s11:(List (List (List Int))) × Int × Int) (v12:List (List Int)) (s12:(List (List (List Int))) × Int × Int):Option (((List (List (List Int))) × Int × Int) ⊕ ((List (List (List Int))) × Int)) :=
 cond (decide (s12.2.2 < (v12.length:Int))) (
  (ixO v12 s12.2.2).bind fun v13 =>
  (ixO s12.1 s11.2.2).bind fun v14 =>
  (ixO x2 s12.2.1).bind fun v15 =>
  (f_r [v13,v15]).bind fun r16 =>
  (ixO v14 s12.2.2).bind fun _ =>
  (rng (s12.2.1 + 1)).bind fun v18 =>
  (rng (s12.2.2 + 1)).bind fun v19 =>
  some (.inl (s12.1.set s11.2.2.toNat (v14.set s12.2.2.toNat r16),v18,v19))) (
  some (.inr (s12.1,s12.2.1)))
def zMe (x0:SPr) (s11:(List (List (List Int))) × Int × Int) (v21:List (List Int)) (s14:(List (List (List Int))) × Int):Option (((List (List (List Int))) × Int) ⊕ (List (List (List Int)))) :=
 cond (decide (s14.2 < (v21.length:Int))) (
  (ixO v21 s14.2).bind fun v22 =>
  (ixO s14.1 s11.2.2).bind fun v23 =>
  (rng ((x0.zA.length:Int) - 1)).bind fun v24 =>
  (rng (v24 - s11.2.2)).bind fun v25 =>
  (rng (v25 + s14.2)).bind fun v26 =>
  (zOO v22 (x0.zA.length:Int) 0).bind fun r27 =>
  (ixO v23 v26).bind fun _ =>
  (rng (s14.2 + 1)).bind fun v29 =>
  some (.inl (s14.1.set s11.2.2.toNat (v23.set v26.toNat r27),v29))) (
  some (.inr s14.1))
def zMf (x0:SPr) (x1:zC) (x2:List (List Int)) (s11:(List (List (List Int))) × Int × Int):Option (((List (List (List Int))) × Int × Int) ⊕ (List (List (List Int)))) :=
 cond (decide (s11.2.2 < (x0.zA.length:Int))) (
  (ixO x0.zB s11.2.2).bind fun v12 =>
  (zJ (zMd x2 s11 v12) (s11.1,s11.2.1,0)).bind fun r20 =>
  (ixO x1.zE s11.2.2).bind fun v21 =>
  (zJ (zMe x0 s11 v21) (r20.1,0)).bind fun r30 =>
  (rng (s11.2.2 + 1)).bind fun v31 =>
  some (.inl (r30,r20.2,v31))) (
  some (.inr s11.1))
def f_i (x0:SPr) (x1:zC) (x2:List (List Int)):Option SPr :=
 (f_z x0.zA).bind fun r1 =>
 (f_g [x1.Prime] x1.Dim).bind fun r2 =>
 (wJ r1 r2).bind fun v3 =>
 (f_s v3).bind fun r4 =>
 (zJ (zMc x0 x2) (r4.zR,0,0)).bind fun r11 =>
 (zJ (zMf x0 x1 x2) (r4.zB,r11.2,0)).bind fun r32 =>
 some (SPr.mk r4.zA r11.1 r32)
def zIM (x0:zC) (x1:List (List Int)) (s1:Int):Option (Int ⊕ (Unit ⊕ Bool)) :=
 cond (decide (s1 < (x1.length:Int))) (
  (ixO x1 s1).bind fun v1 =>
  (f_W x0.Prime x0.Dim v1).bind fun r2 =>
  cond (!r2) (
   some (.inr (.inr false))) (
   (rng (s1 + 1)).bind fun v3 =>
   some (.inl v3))) (
  some (.inr (.inl ())))
def zRT (x0:zC) (x1:List (List Int)):Option Bool :=
 (zJ (zIM x0 x1) 0).bind fun r4 =>
 match r4 with
 | (.inl r4) =>
  some true
 | (.inr r4) =>
  some r4
def zQN (x0:List Int) (s1:Int):Option (Int ⊕ (Unit ⊕ Bool)) :=
 cond (decide (s1 < (x0.length:Int))) (
  (ixO x0 s1).bind fun v1 =>
  cond (v1 != 0) (
   some (.inr (.inr false))) (
   (rng (s1 + 1)).bind fun v2 =>
   some (.inl v2))) (
  some (.inr (.inl ())))
def zRU (x0:List Int):Option Bool :=
 (zJ (zQN x0) 0).bind fun r3 =>
 match r3 with
 | (.inl r3) =>
  some true
 | (.inr r3) =>
  some r3
def zLl (x0:zC) (x1:List (List Int)) (s1:Int):Option (Int ⊕ (Unit ⊕ Bool)) :=
 cond (decide (s1 < (x1.length:Int))) (
  (ixO x1 s1).bind fun v1 =>
  (zO8 v1 x0.Prime x0.Dim).bind fun r2 =>
  cond (!r2) (
   some (.inr (.inr false))) (
   (rng (s1 + 1)).bind fun v3 =>
   some (.inl v3))) (
  some (.inr (.inl ())))
def zRV (x0:zC) (x1:List (List Int)):Option Bool :=
 (zJ (zLl x0 x1) 0).bind fun r4 =>
 match r4 with
 | (.inl r4) =>
  some true
 | (.inr r4) =>
  some r4
def zOZ (x0:SPr) (x1:zC) (x2:List (List Int)):Option Bool :=
 (zQd x0).bind fun r1 =>
 cond ((x2.length:Int) == r1) (
  (zRT x1 x2).bind fun r2 =>
  some r2) (
  some false)
def zIN (x0:zO):Option zD :=
 cond (decide ((x0.zIS.length:Int) > 0)) (
  (ixO x0.zIS 0).bind fun v1 =>
  (yP (x0.p.zA.length:Int)).bind fun m2 =>
  (yP (v1.length:Int)).bind fun m3 =>
  some (zD.mk (List.replicate m2 (0:Int)) (List.replicate m3 (0:Int)))) (
  (yP (x0.p.zA.length:Int)).bind fun m4 =>
  (yP 0).bind fun m5 =>
  some (zD.mk (List.replicate m4 (0:Int)) (List.replicate m5 (0:Int))))
def f_O (x0:zO) (x1:Int) (x2:Int):Option zD :=
 (ixO x0.p.zB x1).bind fun v1 =>
 (rng (x2 - x1)).bind fun v2 =>
 (rng (v2 - 1)).bind fun v3 =>
 (ixO v1 v3).bind fun v4 =>
 (zRS (x0.p.zA.length:Int) x1 x2).bind fun r5 =>
 (ixO x0.zIS r5).bind fun v6 =>
 some (zD.mk v4 v6)
def zMg (x0:zC) (x1:List Int) (x2:Int) (s1:(List Int) × Int):Option (((List Int) × Int) ⊕ (List Int)) :=
 cond (decide (s1.2 < (x1.length:Int))) (
  (rng (s1.2 + x0.Dim)).bind fun v1 =>
  (yB x1 s1.2 v1).bind fun v2 =>
  (ixO x0.zE x2).bind fun v3 =>
  (f_n x0.Prime v2 v3 x0.Dim).bind fun r4 =>
  (wJ s1.1 r4).bind fun v5 =>
  (rng (s1.2 + x0.Dim)).bind fun v6 =>
  some (.inl (v5,v6))) (
  some (.inr s1.1))
def f_Y (x0:zC) (x1:List Int) (x2:Int):Option (List Int) :=
 (zJ (zMg x0 x1 x2) ([],0)).bind fun r7 =>
 some r7
def zJR (x0:zO) (x1:Int):Option zD :=
 (ixO x0.p.zR x1).bind fun v1 =>
 (ixO x0.zIS x1).bind fun v2 =>
 some (zD.mk v1 v2)
def zQf (g_d:zO → Int → zD → zD → Option zD) (x0:zO) (x1:Int) (x2:zD) (s5:(List Int) × (List Int) × Int) (s6:(List Int) × (List Int) × Int):Option (((List Int) × (List Int) × Int) ⊕ ((List Int) × (List Int))) :=
 (ixO x2.x s5.2.2).bind fun v3 =>
 cond (decide (s6.2.2 < v3)) (
  (rng (x1 + 1)).bind fun v4 =>
  (f_O x0 x1 s5.2.2).bind fun r5 =>
  (g_d x0 v4 (zD.mk s6.1 s6.2.1) r5).bind fun r6 =>
  (rng (s6.2.2 + 1)).bind fun v7 =>
  some (.inl (r6.x,r6.v,v7))) (
  some (.inr (s6.1,s6.2.1)))
def zPa (g_d:zO → Int → zD → zD → Option zD) (x0:zO) (x1:Int) (x2:zD) (s5:(List Int) × (List Int) × Int):Option (((List Int) × (List Int) × Int) ⊕ ((List Int) × (List Int))) :=
 cond (decide (s5.2.2 < (x2.x.length:Int))) (
  (zJ (zQf g_d x0 x1 x2 s5) (s5.1,s5.2.1,0)).bind fun r8 =>
  (rng (s5.2.2 + 1)).bind fun v9 =>
  some (.inl (r8.1,r8.2,v9))) (
  some (.inr (s5.1,s5.2.1)))
def b_f (g_d:zO → Int → zD → zD → Option zD) (x0:zO) (x1:Int) (x2:zD):Option zD :=
 (zIN x0).bind fun r1 =>
 (rng (x1 + 1)).bind fun v2 =>
 (zJ (zPa g_d x0 x1 x2) (r1.x,r1.v,v2)).bind fun r10 =>
 (f_Y x0.m x2.v x1).bind fun r11 =>
 (f_K x0.m.Prime r10.2 1 r11).bind fun r12 =>
 some (zD.mk r10.1 r12)
def zMh (g_f:zO → Int → zD → Option zD) (x0:zO) (x1:Int) (x3:zD) (s1:(List Int) × (List Int) × Int):Option (((List Int) × (List Int) × Int) ⊕ ((List Int) × (List Int))) :=
 (ixO x3.x x1).bind fun v7 =>
 cond (decide (s1.2.2 < v7)) (
  (g_f x0 x1 (zD.mk s1.1 s1.2.1)).bind fun r8 =>
  (rng (s1.2.2 + 1)).bind fun v9 =>
  some (.inl (r8.x,r8.v,v9))) (
  some (.inr (s1.1,s1.2.1)))
def b_d (g_f:zO → Int → zD → Option zD) (g_d:zO → Int → zD → zD → Option zD) (x0:zO) (x1:Int) (x2:zD) (x3:zD):Option zD :=
 cond (decide (x1 ≥ (x0.p.zA.length:Int))) (
  (yP (x0.p.zA.length:Int)).bind fun m1 =>
  (f_K x0.m.Prime x2.v 1 x3.v).bind fun r2 =>
  some (zD.mk (List.replicate m1 (0:Int)) r2)) (
  (f_u x2.x).bind fun r3 =>
  (f_u x3.x).bind fun r4 =>
  (ixO r3 x1).bind fun _ =>
  (ixO r4 x1).bind fun _ =>
  (zJ (zMh g_f x0 x1 x3) (r3.set x1.toNat 0,x2.v,0)).bind fun r10 =>
  (rng (x1 + 1)).bind fun v11 =>
  (g_d x0 v11 (zD.mk r10.1 r10.2) (zD.mk (r4.set x1.toNat 0) x3.v)).bind fun r12 =>
  (ixO x2.x x1).bind fun v13 =>
  (ixO x3.x x1).bind fun v14 =>
  (rng (v13 + v14)).bind fun v15 =>
  (ixO x0.p.zA x1).bind fun v16 =>
  cond (decide (v15 ≥ v16)) (
   (ixO x0.p.zA x1).bind fun v17 =>
   (rng (v15 - v17)).bind fun v18 =>
   (rng (x1 + 1)).bind fun v19 =>
   (zJR x0 x1).bind fun r20 =>
   (g_d x0 v19 r20 r12).bind fun r21 =>
   (f_u r21.x).bind fun r22 =>
   (ixO r22 x1).bind fun _ =>
   some (zD.mk (r22.set x1.toNat v18) r21.v)) (
   (f_u r12.x).bind fun r24 =>
   (ixO r24 x1).bind fun _ =>
   some (zD.mk (r24.set x1.toNat v15) r12.v)))
mutual
def zJS:Nat → zO → Int → zD → Option zD
 | 0 => fun _ _ _ => none
 | n + 1 => b_f (zJT n)
def zJT:Nat → zO → Int → zD → zD → Option zD
 | 0 => fun _ _ _ _ => none
 | n + 1 => b_d (zJS n) (zJT n)
end
def f_f (x0:zO) (x1:Int) (x2:zD):Option zD:=zB7 fun n => zJS n x0 x1 x2
def f_d (x0:zO) (x1:Int) (x2:zD) (x3:zD):Option zD:=zB7 fun n => zJT n x0 x1 x2 x3
def f_Q (x0:zO) (x1:zD) (x2:zD):Option (List Int) :=
 (rng (x0.m.Prime - 1)).bind fun v1 =>
 (f_K x0.m.Prime x1.v v1 x2.v).bind fun r2 =>
 some r2
def zMi (x0:zO) (x1:Int) (s9:(List (List Int)) × Int) (s10:(List Int) × (List Int) × Int):Option (((List Int) × (List Int) × Int) ⊕ ((List Int) × (List Int))) :=
 (ixO x0.p.zA s9.2).bind fun v3 =>
 cond (decide (s10.2.2 < v3)) (
  (rng (x1 + 1)).bind fun v4 =>
  (f_O x0 x1 s9.2).bind fun r5 =>
  (f_d x0 v4 (zD.mk s10.1 s10.2.1) r5).bind fun r6 =>
  (rng (s10.2.2 + 1)).bind fun v7 =>
  some (.inl (r6.x,r6.v,v7))) (
  some (.inr (s10.1,s10.2.1)))
def zMj (x0:zO) (x1:Int) (s9:(List (List Int)) × Int) (s12:(List (List Int)) × Int):Option (((List (List Int)) × Int) ⊕ (List (List Int))) :=
 cond (decide (s12.2 < (x0.p.zA.length:Int))) (
  (f_O x0 x1 s9.2).bind fun r14 =>
  (f_O x0 x1 s12.2).bind fun r15 =>
  (f_O x0 s9.2 s12.2).bind fun r16 =>
  (f_f x0 x1 r16).bind fun r17 =>
  (rng (x1 + 1)).bind fun v18 =>
  (f_d x0 v18 r15 r14).bind fun r19 =>
  (rng (x1 + 1)).bind fun v20 =>
  (f_d x0 v20 r14 r17).bind fun r21 =>
  (f_Q x0 r19 r21).bind fun r22 =>
  (wJ s12.1 [r22]).bind fun v23 =>
  (rng (s12.2 + 1)).bind fun v24 =>
  some (.inl (v23,v24))) (
  some (.inr s12.1))
def zPb (x0:zO) (x1:Int) (s9:(List (List Int)) × Int):Option (((List (List Int)) × Int) ⊕ (List (List Int))) :=
 cond (decide (s9.2 < (x0.p.zA.length:Int))) (
  (zIN x0).bind fun r2 =>
  (zJ (zMi x0 x1 s9) (r2.x,r2.v,0)).bind fun r8 =>
  (zJR x0 s9.2).bind fun r9 =>
  (f_f x0 x1 r9).bind fun r10 =>
  (f_Q x0 (zD.mk r8.1 r8.2) r10).bind fun r11 =>
  (wJ s9.1 [r11]).bind fun v12 =>
  (rng (s9.2 + 1)).bind fun v13 =>
  (zJ (zMj x0 x1 s9) (v12,v13)).bind fun r25 =>
  (rng (s9.2 + 1)).bind fun v26 =>
  some (.inl (r25,v26))) (
  some (.inr s9.1))
def zPc (x0:zO) (x1:Int) (s20:(List Int) × (List Int) × Int):Option (((List Int) × (List Int) × Int) ⊕ ((List Int) × (List Int))) :=
 (ixO x0.p.zA x1).bind fun v35 =>
 cond (decide (s20.2.2 < v35)) (
  (f_f x0 x1 (zD.mk s20.1 s20.2.1)).bind fun r36 =>
  (rng (s20.2.2 + 1)).bind fun v37 =>
  some (.inl (r36.x,r36.v,v37))) (
  some (.inr (s20.1,s20.2.1)))
def zMk (x0:zO) (x1:Int) (r28:zD) (s19:(List (List Int)) × Int):Option (((List (List Int)) × Int) ⊕ (List (List Int))) :=
 cond (decide (s19.2 < (x0.p.zA.length:Int))) (
  (zIN x0).bind fun r33 =>
  (ixO r33.x s19.2).bind fun _ =>
  (zJ (zPc x0 x1) (r33.x.set s19.2.toNat 1,r33.v,0)).bind fun r38 =>
  (rng (x1 + 1)).bind fun v39 =>
  (f_d x0 v39 r28 (zD.mk r38.1 r38.2)).bind fun r40 =>
  (rng (x1 + 1)).bind fun v41 =>
  (f_d x0 v41 (zD.mk (r33.x.set s19.2.toNat 1) r33.v) r28).bind fun r42 =>
  (f_Q x0 r40 r42).bind fun r43 =>
  (wJ s19.1 [r43]).bind fun v44 =>
  (rng (s19.2 + 1)).bind fun v45 =>
  some (.inl (v44,v45))) (
  some (.inr s19.1))
def f_h (x0:zO) (x1:Int):Option (List (List Int)) :=
 (rng (x1 + 1)).bind fun v1 =>
 (zJ (zPb x0 x1) ([],v1)).bind fun r27 =>
 (zJR x0 x1).bind fun r28 =>
 (f_f x0 x1 r28).bind fun r29 =>
 (f_Q x0 r29 r28).bind fun r30 =>
 (wJ r27 [r30]).bind fun v31 =>
 (rng (x1 + 1)).bind fun v32 =>
 (zJ (zMk x0 x1 r28) (v31,v32)).bind fun r46 =>
 some r46
def zIO (x0:zO) (s1:(List (List Int)) × Int):Option (((List (List Int)) × Int) ⊕ (List (List Int))) :=
 cond (decide (s1.2 < (x0.p.zA.length:Int))) (
  (f_h x0 s1.2).bind fun r1 =>
  (wJ s1.1 r1).bind fun v2 =>
  (rng (s1.2 + 1)).bind fun v3 =>
  some (.inl (v2,v3))) (
  some (.inr s1.1))
def zQg (x0:zO):Option (List (List Int)) :=
 (zJ (zIO x0) ([],0)).bind fun r4 =>
 some r4
def zPd (r1:(List (List Int))) (s1:Int):Option (Int ⊕ (Unit ⊕ Bool)) :=
 cond (decide (s1 < (r1.length:Int))) (
  (ixO r1 s1).bind fun v2 =>
  (zRU v2).bind fun r3 =>
  cond (!r3) (
   some (.inr (.inr false))) (
   (rng (s1 + 1)).bind fun v4 =>
   some (.inl v4))) (
  some (.inr (.inl ())))
def f_Z (x0:SPr) (x1:zC) (x2:List (List Int)):Option Bool :=
 (zQg (zO.mk x0 x1 x2)).bind fun r1 =>
 (zJ (zPd r1) 0).bind fun r5 =>
 match r5 with
 | (.inl r5) =>
  some true
 | (.inr r5) =>
  some r5
def zQh (x0:SPr) (x1:zC) (x2:List (List Int)):Option Bool :=
 (zQe x0).bind fun r1 =>
 cond ((x2.length:Int) == r1) (
  (zRV x1 x2).bind fun r2 =>
  some r2) (
  some false)
def zQi (x0:SPr) (x1:zC) (x2:List (List Int)):Option Bool :=
 (f_i x0 x1 x2).bind fun r1 =>
 (f_H r1).bind fun r2 =>
 some (r2 == 0)
def zQj (x0:zL) (x1:Int):Option Int :=
 (zLR x0.Rows x1).bind fun r1 =>
 cond (decide (r1 < 0)) (
  some (-1)) (
  some r1)
def f_X (x0:zL):Option zL :=
 (f_v x0.Rows).bind fun r1 =>
 some (zL.mk x0.Prime x0.yS r1)
def zIP (x0:zL) (s1:Int):Option (Int ⊕ (Unit ⊕ Bool)) :=
 cond (decide (s1 < (x0.Rows.length:Int))) (
  (ixO x0.Rows s1).bind fun v3 =>
  (f_W x0.Prime x0.yS v3).bind fun r4 =>
  cond (!r4) (
   some (.inr (.inr false))) (
   (rng (s1 + 1)).bind fun v5 =>
   some (.inl v5))) (
  some (.inr (.inl ())))
def zQk (x0:zL):Option Bool :=
 (zNX x0.Prime).bind fun r1 =>
 cond (!r1) (
  some false) (
  (zLT x0.yS 0 8).bind fun r2 =>
  cond (!r2) (
   some false) (
   cond (decide ((x0.Rows.length:Int) > 8)) (
    some false) (
    (zJ (zIP x0) 0).bind fun r6 =>
    match r6 with
    | (.inl r6) =>
     some true
    | (.inr r6) =>
     some r6)))
def zQl (x0:zL) (x1:zL):Option Bool :=
 cond (x0.Prime != x1.Prime) (
  some false) (
  cond (x0.yS != x1.yS) (
   some false) (
   (f_y x0.Rows x1.Rows).bind fun r1 =>
   cond (!r1) (
    some false) (
    some true)))
def zQm (x0:zL) (x1:Int):Option (Int × zL) :=
 (f_G x0.Rows x1).bind fun r1 =>
 some (r1.1,(zL.mk x0.Prime x0.yS r1.2))
def zRW (x0:SPr) (x1:zC) (x2:List (List Int)) (x3:List (List Int)):Option Int :=
 (zLU x0 x1).bind fun r1 =>
 cond (!r1) (
  some 1) (
  (zOZ x0 x1 x2).bind fun r2 =>
  cond (!r2) (
   some 1) (
   (zOZ x0 x1 x3).bind fun r3 =>
   cond (!r3) (
    some 1) (
    (f_Z x0 x1 x2).bind fun r4 =>
    cond (!r4) (
     some 5) (
     (f_Z x0 x1 x3).bind fun r5 =>
     cond (!r5) (
      some 5) (
      some 0)))))
def zIQ (x0:zC) (x1:zC) (x2:List (List Int)) (s1:Int):Option (Int ⊕ (Unit ⊕ Bool)) :=
 cond (decide (s1 < (x0.zE.length:Int))) (
  (ixO x0.zE s1).bind fun v1 =>
  (f_t x0.Prime v1 x2 x1.Dim).bind fun r2 =>
  (ixO x1.zE s1).bind fun v3 =>
  (f_t x0.Prime x2 v3 x1.Dim).bind fun r4 =>
  (zOn r2 r4).bind fun r5 =>
  cond (!r5) (
   some (.inr (.inr false))) (
   (rng (s1 + 1)).bind fun v6 =>
   some (.inl v6))) (
  some (.inr (.inl ())))
def zRX (x0:zC) (x1:zC) (x2:List (List Int)):Option Bool :=
 (zJ (zIQ x0 x1 x2) 0).bind fun r7 =>
 match r7 with
 | (.inl r7) =>
  some true
 | (.inr r7) =>
  some r7
def zPe (x0:SPr) (x1:zC) (x2:zC) (x3:zL) (x4:List (List Int)):Option ((List (List Int)) × Int) :=
 (zLU x0 x1).bind fun r1 =>
 cond (!r1) (
  some ([],1)) (
  (zLU x0 x2).bind fun r2 =>
  cond (!r2) (
   some ([],1)) (
   cond (x2.Prime != x1.Prime) (
    some ([],1)) (
    (zQk x3).bind fun r3 =>
    cond (!r3) (
     some ([],1)) (
     cond (x3.Prime != x1.Prime) (
      some ([],1)) (
      cond ((x3.Rows.length:Int) != x1.Dim) (
       some ([],1)) (
       cond (x3.yS != x2.Dim) (
        some ([],1)) (
        (zRX x1 x2 x3.Rows).bind fun r4 =>
        cond (!r4) (
         some ([],1)) (
         (zRW x0 x1 x4 x4).bind fun r5 =>
         cond (r5 != 0) (
          some ([],r5)) (
          (f_t x1.Prime x4 x3.Rows x2.Dim).bind fun r6 =>
          some (r6,0))))))))))
def zIR (x0:zC) (x1:zC) (x2:zL) (s1:Int):Option (Int ⊕ (Unit ⊕ Bool)) :=
 cond (decide (s1 < (x0.zE.length:Int))) (
  (zIH x0 s1).bind fun r1 =>
  (f_B r1 x2).bind fun r2 =>
  (zIH x1 s1).bind fun r3 =>
  (f_B x2 r3).bind fun r4 =>
  (zOI r2.Rows r4.Rows).bind fun r5 =>
  cond (!r5) (
   some (.inr (.inr false))) (
   (rng (s1 + 1)).bind fun v6 =>
   some (.inl v6))) (
  some (.inr (.inl ())))
def zRY (x0:zC) (x1:zC) (x2:zL):Option Bool :=
 (zJ (zIR x0 x1 x2) 0).bind fun r7 =>
 match r7 with
 | (.inl r7) =>
  some true
 | (.inr r7) =>
  some r7
def zRZ (x0:SPr) (x1:zC) (x2:zC) (x3:zL):Option (Bool × Int) :=
 (f_q x0 x1).bind fun r1 =>
 cond (!r1) (
  some (false,1)) (
  (f_q x0 x2).bind fun r2 =>
  cond (!r2) (
   some (false,1)) (
   (f_E x3).bind fun r3 =>
   cond (!r3) (
    some (false,1)) (
    cond (x3.Prime != x1.Prime) (
     some (false,1)) (
     cond ((x3.Rows.length:Int) != x1.Dim) (
      some (false,1)) (
      cond (x3.yS != x2.Dim) (
       some (false,1)) (
       cond (x1.Prime != x2.Prime) (
        some (false,5)) (
        (zRY x1 x2 x3).bind fun r4 =>
        some (r4,0))))))))
def zMl (x3:zL) (x4:List (List Int)) (s1:(List (List Int)) × Int):Option (((List (List Int)) × Int) ⊕ (List (List Int))) :=
 cond (decide (s1.2 < (x4.length:Int))) (
  (ixO x4 s1.2).bind fun v6 =>
  (f_F v6 x3).bind fun r7 =>
  (wJ s1.1 [r7]).bind fun v8 =>
  (rng (s1.2 + 1)).bind fun v9 =>
  some (.inl (v8,v9))) (
  some (.inr s1.1))
def f_J (x0:SPr) (x1:zC) (x2:zC) (x3:zL) (x4:List (List Int)):Option ((List (List Int)) × Int) :=
 (f_q x0 x1).bind fun r1 =>
 cond (!r1) (
  some ([],1)) (
  (f_q x0 x2).bind fun r2 =>
  cond (!r2) (
   some ([],1)) (
   cond (x2.Prime != x1.Prime) (
    some ([],1)) (
    (zQh x0 x1 x4).bind fun r3 =>
    cond (!r3) (
     some ([],1)) (
     (zRZ x0 x1 x2 x3).bind fun r4 =>
     cond (r4.2 != 0) (
      some ([],1)) (
      cond (!r4.1) (
       some ([],1)) (
       (zQi x0 x1 x4).bind fun r5 =>
       cond (!r5) (
        some ([],5)) (
        (zJ (zMl x3 x4) ([],0)).bind fun r10 =>
        some (r10,0))))))))
def zPf (x0:SPr) (x1:zC) (x2:zC) (x3:zL) (x4:List (List Int)):Option Bool :=
 (zPN x0 1048576).bind fun r1 =>
 cond (decide (r1 < 0)) (
  some true) (
  (zNT x1 r1).bind fun r2 =>
  cond (decide (r2 < 0)) (
   some true) (
   (zNT x2 r2).bind fun r3 =>
   cond (decide (r3 < 0)) (
    some true) (
    (zQj x3 r3).bind fun r4 =>
    cond (decide (r4 < 0)) (
     some true) (
     (zLR x4 r4).bind fun r5 =>
     cond (decide (r5 < 0)) (
      some true) (
      (f_T x0).bind fun r6 =>
      (f_w x1).bind fun r7 =>
      (f_w x2).bind fun r8 =>
      (f_X x3).bind fun r9 =>
      (f_v x4).bind fun r10 =>
      (zPe r6 r7 r8 r9 r10).bind fun r11 =>
      (f_T x0).bind fun r12 =>
      (f_w x1).bind fun r13 =>
      (f_w x2).bind fun r14 =>
      (f_X x3).bind fun r15 =>
      (f_v x4).bind fun r16 =>
      (f_J r12 r13 r14 r15 r16).bind fun r17 =>
      (f_y r17.1 r11.1).bind fun r18 =>
      cond (!r18) (
       some false) (
       cond (r17.2 != r11.2) (
        some false) (
        (f_T x0).bind fun r19 =>
        (zPY r12 r19).bind fun r20 =>
        cond (!r20) (
         some false) (
         (f_w x1).bind fun r21 =>
         (zOS r13 r21).bind fun r22 =>
         cond (!r22) (
          some false) (
          (f_w x2).bind fun r23 =>
          (zOS r14 r23).bind fun r24 =>
          cond (!r24) (
           some false) (
           (f_X x3).bind fun r25 =>
           (zQl r15 r25).bind fun r26 =>
           cond (!r26) (
            some false) (
            (f_v x4).bind fun r27 =>
            (f_y r16 r27).bind fun r28 =>
            cond (!r28) (
             some false) (
             (zQa r12 1).bind fun r29 =>
             (zOV r13 r29.1).bind fun r30 =>
             (zOV r14 r30.1).bind fun r31 =>
             (zQm r15 r31.1).bind fun r32 =>
             (f_G r16 r32.1).bind fun r33 =>
             cond (decide (r33.1 < 0)) (
              some false) (
              (f_y r17.1 r11.1).bind fun r34 =>
              cond (!r34) (
               some false) (
               cond (r17.2 != r11.2) (
                some false) (
                (f_G r17.1 1).bind fun r35 =>
                (zQb r35.2 1).bind fun r36 =>
                cond (decide (r36 < 0)) (
                 some false) (
                 cond (r36 != r35.1) (
                  some false) (
                  (f_T x0).bind fun r37 =>
                  (f_w x1).bind fun r38 =>
                  (f_w x2).bind fun r39 =>
                  (f_X x3).bind fun r40 =>
                  (f_v x4).bind fun r41 =>
                  (f_J r37 r38 r39 r40 r41).bind fun r42 =>
                  (f_y r42.1 r11.1).bind fun r43 =>
                  cond (!r43) (
                   some false) (
                   cond (r42.2 != r11.2) (
                    some false) (
                    (zQb r35.2 1).bind fun r44 =>
                    cond (decide (r44 < 0)) (
                     some false) (
                     cond (r44 != r35.1) (
                      some false) (
                      some true)))))))))))))))))))))
end Go.Wk
