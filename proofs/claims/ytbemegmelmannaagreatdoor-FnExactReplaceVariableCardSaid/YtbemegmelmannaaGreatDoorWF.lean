/- x -/
import Derived.Test.YtbemegmelmannaaGreatDoorAbB
import Derived.Test.YtbemegmelmannaaGreatDoorAbC
noncomputable section
namespace Go.Wk
open Go Go.Ab
structure SPr where
 Orders:List Int
 Powers:List (List Int)
 Conjugates:List (List (List Int))
abbrev eSPr (x:SPr):T:=.agg [(L 1 I) x.Orders,(L 1 (L 1 I)) x.Powers,(L 1 (L 1 (L 1 I))) x.Conjugates]
instance:Enc eSPr:=.of fun _ => encA ⟨Enc.t (f:=(L 1 I)) inferInstance _,Enc.t (f:=(L 1 (L 1 I))) inferInstance _,Enc.t (f:=(L 1 (L 1 (L 1 I)))) inferInstance _,trivial⟩
structure SFault where
 Kind:Int
 Level:Int
 First:Int
 Second:Int
abbrev eSFault (x:SFault):T:=.agg [I x.Kind,I x.Level,I x.First,I x.Second]
instance:Enc eSFault:=.of fun _ => encA ⟨Enc.t (f:=I) inferInstance _,Enc.t (f:=I) inferInstance _,Enc.t (f:=I) inferInstance _,Enc.t (f:=I) inferInstance _,trivial⟩
def f_aZ (x0:Int):Option Bool :=
 cond (x0 == 2) (
  some true) (
  cond (x0 == 3) (
   some true) (
   cond (x0 == 5) (
    some true) (
    some (x0 == 7))))
def l1_al (x0:List Int) (s1:Int × Int):Option ((Int × Int) ⊕ Int) :=
 cond (decide (s1.2 < (x0.length:Int))) (
  cond (decide (s1.1 ≤ 729)) (
   (ixO x0 s1.2).bind fun v1 =>
   (rng (s1.1 * v1)).bind fun v2 =>
   (rng (s1.2 + 1)).bind fun v3 =>
   some (.inl (v2,v3))) (
   (rng (s1.2 + 1)).bind fun v4 =>
   some (.inl (s1.1,v4)))) (
  some (.inr s1.1))
def f_al (x0:List Int):Option Int :=
 (loopO (l1_al x0) (1,0)).bind fun r5 =>
 some r5
def f_aR (x0:Int) (x1:Int) (x2:Int):Option Bool :=
 cond (decide (x0 ≥ x1)) (
  some (decide (x0 ≤ x2))) (
  some false)
def l1_as (x0:List Int) (x1:List Int) (x2:Int) (s1:Int):Option (Int ⊕ (Unit ⊕ Bool)) :=
 cond (decide (s1 < (x1.length:Int))) (
  (ixO x1 s1).bind fun v1 =>
  (ixO x0 s1).bind fun v2 =>
  (rng (v2 - 1)).bind fun v3 =>
  (f_aR v1 0 v3).bind fun r4 =>
  cond (!r4) (
   some (.inr (.inr false))) (
   cond (decide (s1 ≤ x2)) (
    (ixO x1 s1).bind fun v5 =>
    cond (v5 != 0) (
     some (.inr (.inr false))) (
     (rng (s1 + 1)).bind fun v6 =>
     some (.inl v6))) (
    (rng (s1 + 1)).bind fun v5 =>
    some (.inl v5)))) (
  some (.inr (.inl ())))
def f_as (x0:List Int) (x1:List Int) (x2:Int):Option Bool :=
 cond ((x1.length:Int) != (x0.length:Int)) (
  some false) (
  (loopO (l1_as x0 x1 x2) 0).bind fun r6 =>
  match r6 with
  | (.inl _) =>
   some true
  | (.inr r6) =>
   some r6)
def l1_u (x0:SPr) (s1:Int):Option (Int ⊕ (Unit ⊕ Bool)) :=
 cond (decide (s1 < (x0.Orders.length:Int))) (
  (ixO x0.Orders s1).bind fun v1 =>
  (f_aZ v1).bind fun r2 =>
  cond (!r2) (
   some (.inr (.inr false))) (
   (rng (s1 + 1)).bind fun v3 =>
   some (.inl v3))) (
  some (.inr (.inl ())))
def l2_u (x0:SPr) (s7:Int) (s8:Int):Option (Int ⊕ (Unit ⊕ Bool)) :=
 (ixO x0.Conjugates s7).bind fun v11 =>
 cond (decide (s8 < (v11.length:Int))) (
  (ixO x0.Conjugates s7).bind fun v12 =>
  (ixO v12 s8).bind fun v13 =>
  (f_as x0.Orders v13 s7).bind fun r14 =>
  cond (!r14) (
   some (.inr (.inr false))) (
   (rng (s8 + 1)).bind fun v15 =>
   some (.inl v15))) (
  some (.inr (.inl ())))
def l3_u (x0:SPr) (s7:Int):Option (Int ⊕ (Unit ⊕ Bool)) :=
 cond (decide (s7 < (x0.Orders.length:Int))) (
  (ixO x0.Powers s7).bind fun v6 =>
  (f_as x0.Orders v6 s7).bind fun r7 =>
  cond (!r7) (
   some (.inr (.inr false))) (
   (ixO x0.Conjugates s7).bind fun v8 =>
   (rng ((x0.Orders.length:Int) - 1)).bind fun v9 =>
   (rng (v9 - s7)).bind fun v10 =>
   cond ((v8.length:Int) != v10) (
    some (.inr (.inr false))) (
    (loopO (l2_u x0 s7) 0).bind fun r16 =>
    match r16 with
    | (.inl _) =>
     (rng (s7 + 1)).bind fun v17 =>
     some (.inl v17)
    | (.inr r16) =>
     some (.inr (.inr r16))))) (
  some (.inr (.inl ())))
def f_u (x0:SPr):Option Bool :=
 cond (decide ((x0.Orders.length:Int) > 6)) (
  some false) (
  cond ((x0.Powers.length:Int) != (x0.Orders.length:Int)) (
   some false) (
   cond ((x0.Conjugates.length:Int) != (x0.Orders.length:Int)) (
    some false) (
    (loopO (l1_u x0) 0).bind fun r4 =>
    match r4 with
    | (.inl _) =>
     (f_al x0.Orders).bind fun r5 =>
     cond (decide (r5 > 729)) (
      some false) (
      (loopO (l3_u x0) 0).bind fun r18 =>
      match r18 with
      | (.inl _) =>
       some true
      | (.inr r18) =>
       some r18)
    | (.inr r4) =>
     some r4)))
def f_am (x0:List Int):Option (List Int) :=
 (appO [] x0).bind fun v1 =>
 some v1
def l1_f (g_a:SPr → Int → (List Int) → (List Int) → Option (List Int)) (x0:SPr) (x1:Int) (x2:List Int) (s5:(List Int) × Int) (s6:(List Int) × Int):Option (((List Int) × Int) ⊕ (List Int)) :=
 (ixO x2 s5.2).bind fun v3 =>
 cond (decide (s6.2 < v3)) (
  (rng (x1 + 1)).bind fun v4 =>
  (ixO x0.Conjugates x1).bind fun v5 =>
  (rng (s5.2 - x1)).bind fun v6 =>
  (rng (v6 - 1)).bind fun v7 =>
  (ixO v5 v7).bind fun v8 =>
  (g_a x0 v4 s6.1 v8).bind fun r9 =>
  (rng (s6.2 + 1)).bind fun v10 =>
  some (.inl (r9,v10))) (
  some (.inr s6.1))
def l2_f (g_a:SPr → Int → (List Int) → (List Int) → Option (List Int)) (x0:SPr) (x1:Int) (x2:List Int) (s5:(List Int) × Int):Option (((List Int) × Int) ⊕ (List Int)) :=
 cond (decide (s5.2 < (x0.Orders.length:Int))) (
  (loopO (l1_f g_a x0 x1 x2 s5) (s5.1,0)).bind fun r11 =>
  (rng (s5.2 + 1)).bind fun v12 =>
  some (.inl (r11,v12))) (
  some (.inr s5.1))
def b_f (g_a:SPr → Int → (List Int) → (List Int) → Option (List Int)) (x0:SPr) (x1:Int) (x2:List Int):Option (List Int) :=
 (lenOk (x0.Orders.length:Int)).bind fun m1 =>
 (rng (x1 + 1)).bind fun v2 =>
 (loopO (l2_f g_a x0 x1 x2) (List.replicate m1 (0:Int),v2)).bind fun r13 =>
 some r13
def l1_a (g_f:SPr → Int → (List Int) → Option (List Int)) (x0:SPr) (x1:Int) (x3:List Int) (s1:(List Int) × Int):Option (((List Int) × Int) ⊕ (List Int)) :=
 (ixO x3 x1).bind fun v6 =>
 cond (decide (s1.2 < v6)) (
  (g_f x0 x1 s1.1).bind fun r7 =>
  (rng (s1.2 + 1)).bind fun v8 =>
  some (.inl (r7,v8))) (
  some (.inr s1.1))
def b_a (g_f:SPr → Int → (List Int) → Option (List Int)) (g_a:SPr → Int → (List Int) → (List Int) → Option (List Int)) (x0:SPr) (x1:Int) (x2:List Int) (x3:List Int):Option (List Int) :=
 cond (decide (x1 ≥ (x0.Orders.length:Int))) (
  (lenOk (x0.Orders.length:Int)).bind fun m1 =>
  some (List.replicate m1 (0:Int))) (
  (f_am x2).bind fun r2 =>
  (f_am x3).bind fun r3 =>
  (ixO r2 x1).bind fun _ =>
  (ixO r3 x1).bind fun _ =>
  (loopO (l1_a g_f x0 x1 x3) (r2.set x1.toNat 0,0)).bind fun r9 =>
  (rng (x1 + 1)).bind fun v10 =>
  (g_a x0 v10 r9 (r3.set x1.toNat 0)).bind fun r11 =>
  (ixO x2 x1).bind fun v12 =>
  (ixO x3 x1).bind fun v13 =>
  (rng (v12 + v13)).bind fun v14 =>
  (ixO x0.Orders x1).bind fun v15 =>
  cond (decide (v14 ≥ v15)) (
   (ixO x0.Orders x1).bind fun v16 =>
   (rng (v14 - v16)).bind fun v17 =>
   (rng (x1 + 1)).bind fun v18 =>
   (ixO x0.Powers x1).bind fun v19 =>
   (g_a x0 v18 v19 r11).bind fun r20 =>
   (f_am r20).bind fun r21 =>
   (ixO r21 x1).bind fun _ =>
   some (r21.set x1.toNat v17)) (
   (f_am r11).bind fun r23 =>
   (ixO r23 x1).bind fun _ =>
   some (r23.set x1.toNat v14)))
mutual
def fN_f:Nat → SPr → Int → (List Int) → Option (List Int)
 | 0 => fun _ _ _ => none
 | n + 1 => b_f (fN_a n)
def fN_a:Nat → SPr → Int → (List Int) → (List Int) → Option (List Int)
 | 0 => fun _ _ _ _ => none
 | n + 1 => b_a (fN_f n) (fN_a n)
end
def f_f (x0:SPr) (x1:Int) (x2:List Int):Option (List Int):=fuelO fun n => fN_f n x0 x1 x2
def f_a (x0:SPr) (x1:Int) (x2:List Int) (x3:List Int):Option (List Int):=fuelO fun n => fN_a n x0 x1 x2 x3
def l1_aC (x0:SPr) (x1:Int) (s1:Int × (List Int) × (List Int)):Option ((Int × (List Int) × (List Int)) ⊕ (List Int)) :=
 cond (decide (s1.1 > 0)) (
  (remO s1.1 2).bind fun v2 =>
  cond (v2 == 1) (
   (f_a x0 x1 s1.2.1 s1.2.2).bind fun r3 =>
   (f_a x0 x1 s1.2.2 s1.2.2).bind fun r4 =>
   (quoO s1.1 2).bind fun v5 =>
   some (.inl (v5,r3,r4))) (
   (f_a x0 x1 s1.2.2 s1.2.2).bind fun r6 =>
   (quoO s1.1 2).bind fun v7 =>
   some (.inl (v7,s1.2.1,r6)))) (
  some (.inr s1.2.1))
def f_aC (x0:SPr) (x1:Int) (x2:List Int) (x3:Int):Option (List Int) :=
 (lenOk (x0.Orders.length:Int)).bind fun m1 =>
 (loopO (l1_aC x0 x1) (x3,List.replicate m1 (0:Int),x2)).bind fun r8 =>
 some r8
def l1_an (x0:List Int) (x1:List Int) (s1:Int):Option (Int ⊕ (Unit ⊕ Bool)) :=
 cond (decide (s1 < (x0.length:Int))) (
  (ixO x0 s1).bind fun v1 =>
  (ixO x1 s1).bind fun v2 =>
  cond (v1 != v2) (
   some (.inr (.inr false))) (
   (rng (s1 + 1)).bind fun v3 =>
   some (.inl v3))) (
  some (.inr (.inl ())))
def f_an (x0:List Int) (x1:List Int):Option Bool :=
 cond ((x0.length:Int) != (x1.length:Int)) (
  some false) (
  (loopO (l1_an x0 x1) 0).bind fun r4 =>
  match r4 with
  | (.inl _) =>
   some true
  | (.inr r4) =>
   some r4)
def f_aM (x0:Int) (x1:Int):Option (List Int) :=
 (lenOk x0).bind fun m1 =>
 (ixO (List.replicate m1 (0:Int)) x1).bind fun _ =>
 some ((List.replicate m1 (0:Int)).set x1.toNat 1)
def l1_o (x0:SPr) (x1:Int) (s1:Int):Option (Int ⊕ (Unit ⊕ SFault)) :=
 cond (decide (s1 < (x0.Orders.length:Int))) (
  (rng (x1 + 1)).bind fun v2 =>
  (ixO x0.Conjugates x1).bind fun v3 =>
  (rng (s1 - x1)).bind fun v4 =>
  (rng (v4 - 1)).bind fun v5 =>
  (ixO v3 v5).bind fun v6 =>
  (ixO x0.Orders s1).bind fun v7 =>
  (f_aC x0 v2 v6 v7).bind fun r8 =>
  (ixO x0.Powers s1).bind fun v9 =>
  (f_f x0 x1 v9).bind fun r10 =>
  (f_an r8 r10).bind fun r11 =>
  cond (!r11) (
   some (.inr (.inr (SFault.mk 1 x1 s1 0)))) (
   (rng (s1 + 1)).bind fun v12 =>
   some (.inl v12))) (
  some (.inr (.inl ())))
def l2_o (x0:SPr) (x1:Int) (s7:Int) (s8:Int):Option (Int ⊕ (Unit ⊕ SFault)) :=
 cond (decide (s8 < (x0.Orders.length:Int))) (
  (ixO x0.Conjugates x1).bind fun v16 =>
  (rng (s7 - x1)).bind fun v17 =>
  (rng (v17 - 1)).bind fun v18 =>
  (ixO v16 v18).bind fun v19 =>
  (ixO x0.Conjugates x1).bind fun v20 =>
  (rng (s8 - x1)).bind fun v21 =>
  (rng (v21 - 1)).bind fun v22 =>
  (ixO v20 v22).bind fun v23 =>
  (ixO x0.Conjugates s7).bind fun v24 =>
  (rng (s8 - s7)).bind fun v25 =>
  (rng (v25 - 1)).bind fun v26 =>
  (ixO v24 v26).bind fun v27 =>
  (f_f x0 x1 v27).bind fun r28 =>
  (rng (x1 + 1)).bind fun v29 =>
  (f_a x0 v29 v23 v19).bind fun r30 =>
  (rng (x1 + 1)).bind fun v31 =>
  (f_a x0 v31 v19 r28).bind fun r32 =>
  (f_an r30 r32).bind fun r33 =>
  cond (!r33) (
   some (.inr (.inr (SFault.mk 2 x1 s7 s8)))) (
   (rng (s8 + 1)).bind fun v34 =>
   some (.inl v34))) (
  some (.inr (.inl ())))
def l3_o (x0:SPr) (x1:Int) (s7:Int):Option (Int ⊕ (Unit ⊕ SFault)) :=
 cond (decide (s7 < (x0.Orders.length:Int))) (
  (rng (s7 + 1)).bind fun v15 =>
  (loopO (l2_o x0 x1 s7) v15).bind fun r35 =>
  match r35 with
  | (.inl _) =>
   (rng (s7 + 1)).bind fun v36 =>
   some (.inl v36)
  | (.inr r35) =>
   some (.inr (.inr r35))) (
  some (.inr (.inl ())))
def l4_o (x0:SPr) (x1:Int) (s16:(List Int) × Int):Option (((List Int) × Int) ⊕ (List Int)) :=
 (ixO x0.Orders x1).bind fun v43 =>
 cond (decide (s16.2 < v43)) (
  (f_f x0 x1 s16.1).bind fun r44 =>
  (rng (s16.2 + 1)).bind fun v45 =>
  some (.inl (r44,v45))) (
  some (.inr s16.1))
def l5_o (x0:SPr) (x1:Int) (v38:List Int) (s15:Int):Option (Int ⊕ (Unit ⊕ SFault)) :=
 cond (decide (s15 < (x0.Orders.length:Int))) (
  (f_aM (x0.Orders.length:Int) s15).bind fun r42 =>
  (loopO (l4_o x0 x1) (r42,0)).bind fun r46 =>
  (rng (x1 + 1)).bind fun v47 =>
  (f_a x0 v47 v38 r46).bind fun r48 =>
  (rng (x1 + 1)).bind fun v49 =>
  (f_a x0 v49 r42 v38).bind fun r50 =>
  (f_an r48 r50).bind fun r51 =>
  cond (!r51) (
   some (.inr (.inr (SFault.mk 4 x1 s15 0)))) (
   (rng (s15 + 1)).bind fun v52 =>
   some (.inl v52))) (
  some (.inr (.inl ())))
def f_o (x0:SPr) (x1:Int):Option SFault :=
 (rng (x1 + 1)).bind fun v1 =>
 (loopO (l1_o x0 x1) v1).bind fun r13 =>
 match r13 with
 | (.inl _) =>
  (rng (x1 + 1)).bind fun v14 =>
  (loopO (l3_o x0 x1) v14).bind fun r37 =>
  match r37 with
  | (.inl _) =>
   (ixO x0.Powers x1).bind fun v38 =>
   (f_f x0 x1 v38).bind fun r39 =>
   (f_an r39 v38).bind fun r40 =>
   cond (!r40) (
    some (SFault.mk 3 x1 0 0)) (
    (rng (x1 + 1)).bind fun v41 =>
    (loopO (l5_o x0 x1 v38) v41).bind fun r53 =>
    match r53 with
    | (.inl _) =>
     some (SFault.mk 0 0 0 0)
    | (.inr r53) =>
     some r53)
  | (.inr r37) =>
   some r37
 | (.inr r13) =>
  some r13
def l1_aE (x0:SPr) (s1:Int):Option (Int ⊕ (Unit ⊕ SFault)) :=
 cond (decide (s1 ≥ 0)) (
  (f_o x0 s1).bind fun r2 =>
  cond (r2.Kind != 0) (
   some (.inr (.inr r2))) (
   (rng (s1 - 1)).bind fun v3 =>
   some (.inl v3))) (
  some (.inr (.inl ())))
def f_aE (x0:SPr):Option SFault :=
 (rng ((x0.Orders.length:Int) - 1)).bind fun v1 =>
 (loopO (l1_aE x0) v1).bind fun r4 =>
 match r4 with
 | (.inl _) =>
  some (SFault.mk 0 0 0 0)
 | (.inr r4) =>
  some r4
def f_aN (x0:SPr):Option Bool :=
 (f_aE x0).bind fun r1 =>
 some (r1.Kind == 0)
def f_be (x0:SPr):Option Bool :=
 (f_u x0).bind fun r1 =>
 cond r1 (
  (f_aN x0).bind fun r2 =>
  some r2) (
  some false)
def f_aY (x0:Int):Option Bool :=
 cond (x0 == 2) (
  some true) (
  cond (x0 == 3) (
   some true) (
   cond (x0 == 5) (
    some true) (
    some (x0 == 7))))
def f_ar (x0:Int) (x1:Int) (x2:Int):Option Bool :=
 cond (decide (x0 ≥ x1)) (
  some (decide (x0 ≤ x2))) (
  some false)
def l1_aB (x0:SPr) (x1:List Int) (s1:Int):Option (Int ⊕ (Unit ⊕ Bool)) :=
 cond (decide (s1 < (x1.length:Int))) (
  (ixO x1 s1).bind fun v1 =>
  (ixO x0.Orders s1).bind fun v2 =>
  (rng (v2 - 1)).bind fun v3 =>
  (f_ar v1 0 v3).bind fun r4 =>
  cond (!r4) (
   some (.inr (.inr false))) (
   (rng (s1 + 1)).bind fun v5 =>
   some (.inl v5))) (
  some (.inr (.inl ())))
def f_aB (x0:SPr) (x1:List Int):Option Bool :=
 cond ((x1.length:Int) != (x0.Orders.length:Int)) (
  some false) (
  (loopO (l1_aB x0 x1) 0).bind fun r6 =>
  match r6 with
  | (.inl _) =>
   some true
  | (.inr r6) =>
   some r6)
def l1_ae (x0:List Int) (s1:Int):Option (Int ⊕ (Unit ⊕ Bool)) :=
 cond (decide (s1 < (x0.length:Int))) (
  (ixO x0 s1).bind fun v1 =>
  cond (v1 != 0) (
   some (.inr (.inr false))) (
   (rng (s1 + 1)).bind fun v2 =>
   some (.inl v2))) (
  some (.inr (.inl ())))
def f_ae (x0:List Int):Option Bool :=
 (loopO (l1_ae x0) 0).bind fun r3 =>
 match r3 with
 | (.inl _) =>
  some true
 | (.inr r3) =>
  some r3
def f_aS (x0:SPr) (x1:Int) (x2:List Int):Option Bool :=
 (f_aB x0 x2).bind fun r1 =>
 cond r1 (
  (rng (x1 + 1)).bind fun v2 =>
  (sliceO x2 0 v2).bind fun v3 =>
  (f_ae v3).bind fun r4 =>
  some r4) (
  some false)
def l1_s (x0:SPr) (s1:Int × Int):Option ((Int × Int) ⊕ (Unit ⊕ Bool)) :=
 cond (decide (s1.2 < (x0.Orders.length:Int))) (
  (ixO x0.Orders s1.2).bind fun v1 =>
  (f_aY v1).bind fun r2 =>
  cond (!r2) (
   some (.inr (.inr false))) (
   (rng (s1.1 * v1)).bind fun v3 =>
   cond (decide (v3 > 729)) (
    some (.inr (.inr false))) (
    (rng (s1.1 * v1)).bind fun v4 =>
    (rng (s1.2 + 1)).bind fun v5 =>
    some (.inl (v4,v5))))) (
  some (.inr (.inl ())))
def l2_s (x0:SPr) (s7:Int) (v12:List (List Int)) (s8:Int):Option (Int ⊕ (Unit ⊕ Bool)) :=
 cond (decide (s8 < (v12.length:Int))) (
  (ixO v12 s8).bind fun v13 =>
  (f_aS x0 s7 v13).bind fun r14 =>
  cond (!r14) (
   some (.inr (.inr false))) (
   (rng (s8 + 1)).bind fun v15 =>
   some (.inl v15))) (
  some (.inr (.inl ())))
def l3_s (x0:SPr) (s7:Int):Option (Int ⊕ (Unit ⊕ Bool)) :=
 cond (decide (s7 < (x0.Orders.length:Int))) (
  (ixO x0.Powers s7).bind fun v7 =>
  (f_aS x0 s7 v7).bind fun r8 =>
  cond (!r8) (
   some (.inr (.inr false))) (
   (ixO x0.Conjugates s7).bind fun v9 =>
   (rng ((x0.Orders.length:Int) - 1)).bind fun v10 =>
   (rng (v10 - s7)).bind fun v11 =>
   cond ((v9.length:Int) != v11) (
    some (.inr (.inr false))) (
    (ixO x0.Conjugates s7).bind fun v12 =>
    (loopO (l2_s x0 s7 v12) 0).bind fun r16 =>
    match r16 with
    | (.inl _) =>
     (rng (s7 + 1)).bind fun v17 =>
     some (.inl v17)
    | (.inr r16) =>
     some (.inr (.inr r16))))) (
  some (.inr (.inl ())))
def f_s (x0:SPr):Option Bool :=
 cond (decide ((x0.Orders.length:Int) > 6)) (
  some false) (
  cond ((x0.Powers.length:Int) != (x0.Orders.length:Int)) (
   some false) (
   cond ((x0.Conjugates.length:Int) != (x0.Orders.length:Int)) (
    some false) (
    (loopO (l1_s x0) (1,0)).bind fun r6 =>
    match r6 with
    | (.inl _) =>
     (loopO (l3_s x0) 0).bind fun r18 =>
     match r18 with
     | (.inl _) =>
      some true
     | (.inr r18) =>
      some r18
    | (.inr r6) =>
     some r6)))
def f_V (x0:List Int):Option (List Int) :=
 (appO [] x0).bind fun v2 =>
 some v2
def l1_b (x2:Int) (r3:(List Int)) (s1:(List Int) × Int):Option (((List Int) × Int) ⊕ (List Int)) :=
 cond (decide (s1.2 < (r3.length:Int))) (
  (rng (x2 + 1)).bind fun v4 =>
  (rng (v4 + s1.2)).bind fun v5 =>
  (ixO s1.1 v5).bind fun _ =>
  (rng (s1.2 + 1)).bind fun v7 =>
  some (.inl (s1.1.set v5.toNat 0,v7))) (
  some (.inr s1.1))
def l2_b (g_c:SPr → (List Int) → (List Int) → Option (List Int)) (x0:SPr) (x2:Int) (s7:(List Int) × Int) (v17:Int) (s8:(List Int) × Int):Option (((List Int) × Int) ⊕ (List Int)) :=
 cond (decide (s8.2 < v17)) (
  (ixO x0.Conjugates x2).bind fun v18 =>
  (ixO v18 s7.2).bind fun v19 =>
  (g_c x0 s8.1 v19).bind fun r20 =>
  (rng (s8.2 + 1)).bind fun v21 =>
  some (.inl (r20,v21))) (
  some (.inr s8.1))
def l3_b (g_c:SPr → (List Int) → (List Int) → Option (List Int)) (x0:SPr) (x2:Int) (r3:(List Int)) (s7:(List Int) × Int):Option (((List Int) × Int) ⊕ (List Int)) :=
 cond (decide (s7.2 < (r3.length:Int))) (
  (ixO r3 s7.2).bind fun v17 =>
  (loopO (l2_b g_c x0 x2 s7 v17) (s7.1,0)).bind fun r22 =>
  (rng (s7.2 + 1)).bind fun v23 =>
  some (.inl (r22,v23))) (
  some (.inr s7.1))
def l4_b (g_c:SPr → (List Int) → (List Int) → Option (List Int)) (x0:SPr) (x2:Int) (s15:(List Int) × Int) (v25:Int) (s16:(List Int) × Int):Option (((List Int) × Int) ⊕ (List Int)) :=
 cond (decide (s16.2 < v25)) (
  (ixO x0.Conjugates x2).bind fun v26 =>
  (ixO v26 s15.2).bind fun v27 =>
  (g_c x0 s16.1 v27).bind fun r28 =>
  (rng (s16.2 + 1)).bind fun v29 =>
  some (.inl (r28,v29))) (
  some (.inr s16.1))
def l5_b (g_c:SPr → (List Int) → (List Int) → Option (List Int)) (x0:SPr) (x2:Int) (r3:(List Int)) (s15:(List Int) × Int):Option (((List Int) × Int) ⊕ (List Int)) :=
 cond (decide (s15.2 < (r3.length:Int))) (
  (ixO r3 s15.2).bind fun v25 =>
  (loopO (l4_b g_c x0 x2 s15 v25) (s15.1,0)).bind fun r30 =>
  (rng (s15.2 + 1)).bind fun v31 =>
  some (.inl (r30,v31))) (
  some (.inr s15.1))
def b_b (g_c:SPr → (List Int) → (List Int) → Option (List Int)) (x0:SPr) (x1:List Int) (x2:Int):Option (List Int) :=
 (rng (x2 + 1)).bind fun v1 =>
 (sliceO x1 v1 x1.length).bind fun v2 =>
 (f_V v2).bind fun r3 =>
 (loopO (l1_b x2 r3) (x1,0)).bind fun r8 =>
 (ixO r8 x2).bind fun v9 =>
 (rng (v9 + 1)).bind fun v10 =>
 (ixO r8 x2).bind fun _ =>
 (ixO (r8.set x2.toNat v10) x2).bind fun v12 =>
 (ixO x0.Orders x2).bind fun v13 =>
 cond (v12 == v13) (
  (ixO (r8.set x2.toNat v10) x2).bind fun _ =>
  (ixO x0.Powers x2).bind fun v15 =>
  (g_c x0 ((r8.set x2.toNat v10).set x2.toNat 0) v15).bind fun r16 =>
  (loopO (l3_b g_c x0 x2 r3) (r16,0)).bind fun r24 =>
  some r24) (
  (loopO (l5_b g_c x0 x2 r3) (r8.set x2.toNat v10,0)).bind fun r32 =>
  some r32)
def l1_c (g_b:SPr → (List Int) → Int → Option (List Int)) (x0:SPr) (s5:(List Int) × Int) (v1:Int) (s6:(List Int) × Int):Option (((List Int) × Int) ⊕ (List Int)) :=
 cond (decide (s6.2 < v1)) (
  (g_b x0 s6.1 s5.2).bind fun r2 =>
  (rng (s6.2 + 1)).bind fun v3 =>
  some (.inl (r2,v3))) (
  some (.inr s6.1))
def l2_c (g_b:SPr → (List Int) → Int → Option (List Int)) (x0:SPr) (x2:List Int) (s5:(List Int) × Int):Option (((List Int) × Int) ⊕ (List Int)) :=
 cond (decide (s5.2 < (x2.length:Int))) (
  (ixO x2 s5.2).bind fun v1 =>
  (loopO (l1_c g_b x0 s5 v1) (s5.1,0)).bind fun r4 =>
  (rng (s5.2 + 1)).bind fun v5 =>
  some (.inl (r4,v5))) (
  some (.inr s5.1))
def b_c (g_b:SPr → (List Int) → Int → Option (List Int)) (x0:SPr) (x1:List Int) (x2:List Int):Option (List Int) :=
 (loopO (l2_c g_b x0 x2) (x1,0)).bind fun r6 =>
 some r6
mutual
def fN_b:Nat → SPr → (List Int) → Int → Option (List Int)
 | 0 => fun _ _ _ => none
 | n + 1 => b_b (fN_c n)
def fN_c:Nat → SPr → (List Int) → (List Int) → Option (List Int)
 | 0 => fun _ _ _ => none
 | n + 1 => b_c (fN_b n)
end
def f_b (x0:SPr) (x1:List Int) (x2:Int):Option (List Int):=fuelO fun n => fN_b n x0 x1 x2
def f_c (x0:SPr) (x1:List Int) (x2:List Int):Option (List Int):=fuelO fun n => fN_c n x0 x1 x2
def l1_at (x0:SPr) (x1:List Int) (x2:Int) (s1:(List Int) × Int):Option (((List Int) × Int) ⊕ (List Int)) :=
 cond (decide (s1.2 < x2)) (
  (f_c x0 s1.1 x1).bind fun r2 =>
  (rng (s1.2 + 1)).bind fun v3 =>
  some (.inl (r2,v3))) (
  some (.inr s1.1))
def f_at (x0:SPr) (x1:List Int) (x2:Int):Option (List Int) :=
 (lenOk (x1.length:Int)).bind fun m1 =>
 (loopO (l1_at x0 x1 x2) (List.replicate m1 (0:Int),0)).bind fun r4 =>
 some r4
def l1_F (x0:SPr) (v3:List Int) (v6:Int) (s6:(List Int) × Int):Option (((List Int) × Int) ⊕ (List Int)) :=
 cond (decide (s6.2 < v6)) (
  (f_c x0 s6.1 v3).bind fun r7 =>
  (rng (s6.2 + 1)).bind fun v8 =>
  some (.inl (r7,v8))) (
  some (.inr s6.1))
def l2_F (x0:SPr) (x1:Int) (x2:List Int) (v2:List (List Int)) (s5:(List Int) × Int):Option (((List Int) × Int) ⊕ (List Int)) :=
 cond (decide (s5.2 < (v2.length:Int))) (
  (ixO v2 s5.2).bind fun v3 =>
  (rng (x1 + 1)).bind fun v4 =>
  (rng (v4 + s5.2)).bind fun v5 =>
  (ixO x2 v5).bind fun v6 =>
  (loopO (l1_F x0 v3 v6) (s5.1,0)).bind fun r9 =>
  (rng (s5.2 + 1)).bind fun v10 =>
  some (.inl (r9,v10))) (
  some (.inr s5.1))
def f_F (x0:SPr) (x1:Int) (x2:List Int):Option (List Int) :=
 (lenOk (x2.length:Int)).bind fun m1 =>
 (ixO x0.Conjugates x1).bind fun v2 =>
 (loopO (l2_F x0 x1 x2 v2) (List.replicate m1 (0:Int),0)).bind fun r11 =>
 some r11
def l1_af (x0:List Int) (x1:List Int) (s1:Int):Option (Int ⊕ (Unit ⊕ Bool)) :=
 cond (decide (s1 < (x0.length:Int))) (
  (ixO x0 s1).bind fun v1 =>
  (ixO x1 s1).bind fun v2 =>
  cond (v1 != v2) (
   some (.inr (.inr false))) (
   (rng (s1 + 1)).bind fun v3 =>
   some (.inl v3))) (
  some (.inr (.inl ())))
def f_af (x0:List Int) (x1:List Int):Option Bool :=
 cond ((x0.length:Int) != (x1.length:Int)) (
  some false) (
  (loopO (l1_af x0 x1) 0).bind fun r4 =>
  match r4 with
  | (.inl _) =>
   some true
  | (.inr r4) =>
   some r4)
def l1_M (x0:SPr) (s5:(List Int) × (List Int) × Int) (s6:(List Int) × (List Int)):Option (((List Int) × (List Int)) ⊕ ((List Int) × (List Int))) :=
 (ixO s6.1 s5.2.2).bind fun v3 =>
 cond (v3 != 0) (
  (f_b x0 s6.1 s5.2.2).bind fun r4 =>
  (f_b x0 s6.2 s5.2.2).bind fun r5 =>
  some (.inl (r4,r5))) (
  some (.inr (s6.1,s6.2)))
def l2_M (x0:SPr) (r1:(List Int)) (s5:(List Int) × (List Int) × Int):Option (((List Int) × (List Int) × Int) ⊕ (List Int)) :=
 cond (decide (s5.2.2 < (r1.length:Int))) (
  (loopO (l1_M x0 s5) (s5.1,s5.2.1)).bind fun r6 =>
  (rng (s5.2.2 + 1)).bind fun v7 =>
  some (.inl (r6.1,r6.2,v7))) (
  some (.inr s5.2.1))
def f_M (x0:SPr) (x1:List Int):Option (List Int) :=
 (f_V x1).bind fun r1 =>
 (lenOk (x1.length:Int)).bind fun m2 =>
 (loopO (l2_M x0 r1) (r1,List.replicate m2 (0:Int),0)).bind fun r8 =>
 some r8
def f_aT (x0:SPr) (x1:List Int) (x2:List Int):Option (List Int) :=
 (f_V x1).bind fun r1 =>
 (f_c x0 r1 x2).bind fun r2 =>
 some r2
def f_aU (x0:SPr) (x1:List Int) (x2:List Int):Option (List Int) :=
 (f_M x0 x2).bind fun r1 =>
 (f_aT x0 x1 x2).bind fun r2 =>
 (f_aT x0 r1 r2).bind fun r3 =>
 some r3
def f_au (x0:Int) (x1:Int):Option (List Int) :=
 (lenOk x0).bind fun m1 =>
 (ixO (List.replicate m1 (0:Int)) x1).bind fun _ =>
 some ((List.replicate m1 (0:Int)).set x1.toNat 1)
def l1_n (x0:SPr) (x1:Int) (s1:Int):Option (Int ⊕ (Unit ⊕ SFault)) :=
 cond (decide (s1 < (x0.Orders.length:Int))) (
  (ixO x0.Conjugates x1).bind fun v2 =>
  (rng (s1 - x1)).bind fun v3 =>
  (rng (v3 - 1)).bind fun v4 =>
  (ixO v2 v4).bind fun v5 =>
  (ixO x0.Orders s1).bind fun v6 =>
  (f_at x0 v5 v6).bind fun r7 =>
  (ixO x0.Powers s1).bind fun v8 =>
  (f_F x0 x1 v8).bind fun r9 =>
  (f_af r7 r9).bind fun r10 =>
  cond (!r10) (
   some (.inr (.inr (SFault.mk 1 x1 s1 0)))) (
   (rng (s1 + 1)).bind fun v11 =>
   some (.inl v11))) (
  some (.inr (.inl ())))
def l2_n (x0:SPr) (x1:Int) (s7:Int) (s8:Int):Option (Int ⊕ (Unit ⊕ SFault)) :=
 cond (decide (s8 < (x0.Orders.length:Int))) (
  (ixO x0.Conjugates x1).bind fun v15 =>
  (rng (s8 - x1)).bind fun v16 =>
  (rng (v16 - 1)).bind fun v17 =>
  (ixO v15 v17).bind fun v18 =>
  (ixO x0.Conjugates x1).bind fun v19 =>
  (rng (s7 - x1)).bind fun v20 =>
  (rng (v20 - 1)).bind fun v21 =>
  (ixO v19 v21).bind fun v22 =>
  (f_aU x0 v18 v22).bind fun r23 =>
  (ixO x0.Conjugates s7).bind fun v24 =>
  (rng (s8 - s7)).bind fun v25 =>
  (rng (v25 - 1)).bind fun v26 =>
  (ixO v24 v26).bind fun v27 =>
  (f_F x0 x1 v27).bind fun r28 =>
  (f_af r23 r28).bind fun r29 =>
  cond (!r29) (
   some (.inr (.inr (SFault.mk 2 x1 s7 s8)))) (
   (rng (s8 + 1)).bind fun v30 =>
   some (.inl v30))) (
  some (.inr (.inl ())))
def l3_n (x0:SPr) (x1:Int) (s7:Int):Option (Int ⊕ (Unit ⊕ SFault)) :=
 cond (decide (s7 < (x0.Orders.length:Int))) (
  (rng (s7 + 1)).bind fun v14 =>
  (loopO (l2_n x0 x1 s7) v14).bind fun r31 =>
  match r31 with
  | (.inl _) =>
   (rng (s7 + 1)).bind fun v32 =>
   some (.inl v32)
  | (.inr r31) =>
   some (.inr (.inr r31))) (
  some (.inr (.inl ())))
def l4_n (x0:SPr) (x1:Int) (v39:Int) (s16:(List Int) × Int):Option (((List Int) × Int) ⊕ (List Int)) :=
 cond (decide (s16.2 < v39)) (
  (f_F x0 x1 s16.1).bind fun r40 =>
  (rng (s16.2 + 1)).bind fun v41 =>
  some (.inl (r40,v41))) (
  some (.inr s16.1))
def l5_n (x0:SPr) (x1:Int) (v34:List Int) (s15:Int):Option (Int ⊕ (Unit ⊕ SFault)) :=
 cond (decide (s15 < (x0.Orders.length:Int))) (
  (f_au (x0.Orders.length:Int) s15).bind fun r38 =>
  (ixO x0.Orders x1).bind fun v39 =>
  (loopO (l4_n x0 x1 v39) (r38,0)).bind fun r42 =>
  (f_au (x0.Orders.length:Int) s15).bind fun r43 =>
  (f_aU x0 r43 v34).bind fun r44 =>
  (f_af r42 r44).bind fun r45 =>
  cond (!r45) (
   some (.inr (.inr (SFault.mk 4 x1 s15 0)))) (
   (rng (s15 + 1)).bind fun v46 =>
   some (.inl v46))) (
  some (.inr (.inl ())))
def f_n (x0:SPr) (x1:Int):Option SFault :=
 (rng (x1 + 1)).bind fun v1 =>
 (loopO (l1_n x0 x1) v1).bind fun r12 =>
 match r12 with
 | (.inl _) =>
  (rng (x1 + 1)).bind fun v13 =>
  (loopO (l3_n x0 x1) v13).bind fun r33 =>
  match r33 with
  | (.inl _) =>
   (ixO x0.Powers x1).bind fun v34 =>
   (f_F x0 x1 v34).bind fun r35 =>
   (f_af r35 v34).bind fun r36 =>
   cond (!r36) (
    some (SFault.mk 3 x1 0 0)) (
    (rng (x1 + 1)).bind fun v37 =>
    (loopO (l5_n x0 x1 v34) v37).bind fun r47 =>
    match r47 with
    | (.inl _) =>
     some (SFault.mk 0 0 0 0)
    | (.inr r47) =>
     some r47)
  | (.inr r33) =>
   some r33
 | (.inr r12) =>
  some r12
def l1_aD (x0:SPr) (s1:Int):Option (Int ⊕ Int) :=
 cond (decide (s1 > 0)) (
  (rng (s1 - 1)).bind fun v1 =>
  (f_n x0 v1).bind fun r2 =>
  cond (r2.Kind == 0 && (r2.Level == 0 && (r2.First == 0 && r2.Second == 0))) (
   (rng (s1 - 1)).bind fun v3 =>
   some (.inl v3)) (
   some (.inr s1))) (
  some (.inr s1))
def f_aD (x0:SPr):Option Int :=
 (loopO (l1_aD x0) (x0.Orders.length:Int)).bind fun r4 =>
 some r4
def f_a0 (x0:SPr):Option Bool :=
 (f_s x0).bind fun r1 =>
 cond r1 (
  (f_aD x0).bind fun r2 =>
  some (r2 == 0)) (
  some false)
def l1_B (s5:(List Int) × Int) (v1:Int) (s6:(List Int) × Int):Option (((List Int) × Int) ⊕ (List Int)) :=
 cond (decide (s6.2 < v1)) (
  (rng (s5.2 + 1)).bind fun v2 =>
  (appO s6.1 [v2]).bind fun v3 =>
  (rng (s6.2 + 1)).bind fun v4 =>
  some (.inl (v3,v4))) (
  some (.inr s6.1))
def l2_B (x0:List Int) (s5:(List Int) × Int):Option (((List Int) × Int) ⊕ (List Int)) :=
 cond (decide (s5.2 < (x0.length:Int))) (
  (ixO x0 s5.2).bind fun v1 =>
  (loopO (l1_B s5 v1) (s5.1,0)).bind fun r5 =>
  (rng (s5.2 + 1)).bind fun v6 =>
  some (.inl (r5,v6))) (
  some (.inr s5.1))
def f_B (x0:List Int):Option (List Int) :=
 (loopO (l2_B x0) ([],0)).bind fun r7 =>
 some r7
def l1_C (x0:List Int) (s6:(List (List Int)) × Int):Option (((List (List Int)) × Int) ⊕ (List (List Int))) :=
 cond (decide (s6.2 < (x0.length:Int))) (
  (f_au (x0.length:Int) s6.2).bind fun r5 =>
  (appO s6.1 [r5]).bind fun v6 =>
  (rng (s6.2 + 1)).bind fun v7 =>
  some (.inl (v6,v7))) (
  some (.inr s6.1))
def l2_C (x0:List Int) (s5:(List (List Int)) × (List (List (List Int))) × Int):Option (((List (List Int)) × (List (List (List Int))) × Int) ⊕ ((List (List Int)) × (List (List (List Int))))) :=
 cond (decide (s5.2.2 < (x0.length:Int))) (
  (lenOk (x0.length:Int)).bind fun m2 =>
  (appO s5.1 [List.replicate m2 (0:Int)]).bind fun v3 =>
  (rng (s5.2.2 + 1)).bind fun v4 =>
  (loopO (l1_C x0) ([],v4)).bind fun r8 =>
  (appO s5.2.1 [r8]).bind fun v9 =>
  (rng (s5.2.2 + 1)).bind fun v10 =>
  some (.inl (v3,v9,v10))) (
  some (.inr (s5.1,s5.2.1)))
def f_C (x0:List Int):Option SPr :=
 (f_V x0).bind fun r1 =>
 (loopO (l2_C x0) ([],[],0)).bind fun r11 =>
 some (SPr.mk r1 r11.1 r11.2)
def l1_aO (x0:List Int) (s1:Int):Option (Int ⊕ (Unit ⊕ Bool)) :=
 cond (decide (s1 < (x0.length:Int))) (
  (ixO x0 s1).bind fun v1 =>
  cond (v1 != 0) (
   some (.inr (.inr false))) (
   (rng (s1 + 1)).bind fun v2 =>
   some (.inl v2))) (
  some (.inr (.inl ())))
def f_aO (x0:List Int):Option Bool :=
 (loopO (l1_aO x0) 0).bind fun r3 =>
 match r3 with
 | (.inl _) =>
  some true
 | (.inr r3) =>
  some r3
def l1_ao (x0:List (List Int)) (s1:(List (List Int)) × Int):Option (((List (List Int)) × Int) ⊕ (List (List Int))) :=
 cond (decide (s1.2 < (x0.length:Int))) (
  (ixO x0 s1.2).bind fun v1 =>
  (f_am v1).bind fun r2 =>
  (appO s1.1 [r2]).bind fun v3 =>
  (rng (s1.2 + 1)).bind fun v4 =>
  some (.inl (v3,v4))) (
  some (.inr s1.1))
def f_ao (x0:List (List Int)):Option (List (List Int)) :=
 (loopO (l1_ao x0) ([],0)).bind fun r5 =>
 some r5
end Go.Wk

namespace Go.Wk
open Go Go.Ab
def l1_I (x0:List Int) (s6:(List (List Int)) × Int):Option (((List (List Int)) × Int) ⊕ (List (List Int))) :=
 cond (decide (s6.2 < (x0.length:Int))) (
  (f_aM (x0.length:Int) s6.2).bind fun r5 =>
  (appO s6.1 [r5]).bind fun v6 =>
  (rng (s6.2 + 1)).bind fun v7 =>
  some (.inl (v6,v7))) (
  some (.inr s6.1))
def l2_I (x0:List Int) (s5:(List (List Int)) × (List (List (List Int))) × Int):Option (((List (List Int)) × (List (List (List Int))) × Int) ⊕ ((List (List Int)) × (List (List (List Int))))) :=
 cond (decide (s5.2.2 < (x0.length:Int))) (
  (lenOk (x0.length:Int)).bind fun m2 =>
  (appO s5.1 [List.replicate m2 (0:Int)]).bind fun v3 =>
  (rng (s5.2.2 + 1)).bind fun v4 =>
  (loopO (l1_I x0) ([],v4)).bind fun r8 =>
  (appO s5.2.1 [r8]).bind fun v9 =>
  (rng (s5.2.2 + 1)).bind fun v10 =>
  some (.inl (v3,v9,v10))) (
  some (.inr (s5.1,s5.2.1)))
def f_I (x0:List Int):Option SPr :=
 (f_am x0).bind fun r1 =>
 (loopO (l2_I x0) ([],[],0)).bind fun r11 =>
 some (SPr.mk r1 r11.1 r11.2)
def l1_O (x0:ByteArray) (x1:Int) (s1:(List ByteArray) × Int × Int):Option (((List ByteArray) × Int × Int) ⊕ ((List ByteArray) × Int)) :=
 cond (decide (s1.2.2 < (x0.size:Int))) (
  (sixO x0 s1.2.2).bind fun v1 =>
  cond (v1 == x1) (
   (sslO x0 s1.2.1 s1.2.2).bind fun v2 =>
   (appO s1.1 [v2]).bind fun v3 =>
   (rng (s1.2.2 + 1)).bind fun v4 =>
   (rng (s1.2.2 + 1)).bind fun v5 =>
   some (.inl (v3,v4,v5))) (
   (rng (s1.2.2 + 1)).bind fun v6 =>
   some (.inl (s1.1,s1.2.1,v6)))) (
  some (.inr (s1.1,s1.2.1)))
def f_O (x0:ByteArray) (x1:Int):Option (List ByteArray) :=
 (loopO (l1_O x0 x1) ([],0,0)).bind fun r7 =>
 (sslO x0 r7.2 (x0.size:Int)).bind fun v8 =>
 (appO r7.1 [v8]).bind fun v9 =>
 some v9
def l1_z (x0:ByteArray) (s1:Int × Int):Option ((Int × Int) ⊕ (Int ⊕ Int)) :=
 cond (decide (s1.2 < (x0.size:Int))) (
  (sixO x0 s1.2).bind fun v2 =>
  cond (decide (v2 < 48)) (
   some (.inr (.inr (-1)))) (
   (sixO x0 s1.2).bind fun v3 =>
   cond (decide (v3 > 57)) (
    some (.inr (.inr (-1)))) (
    (rng (10 * s1.1)).bind fun v4 =>
    (sixO x0 s1.2).bind fun v5 =>
    (rng (v4 + (IntKind.wrap .i64 (IntKind.wrap .u8 (v5 - 48))))).bind fun v6 =>
    (rng (s1.2 + 1)).bind fun v7 =>
    some (.inl (v6,v7))))) (
  some (.inr (.inl s1.1)))
def l2_z (x0:ByteArray) (s3:Int × Int):Option ((Int × Int) ⊕ (Int ⊕ Int)) :=
 cond (decide (s3.2 < (x0.size:Int))) (
  (sixO x0 s3.2).bind fun v9 =>
  cond (decide (v9 < 48)) (
   some (.inr (.inr (-1)))) (
   (sixO x0 s3.2).bind fun v10 =>
   cond (decide (v10 > 57)) (
    some (.inr (.inr (-1)))) (
    (rng (10 * s3.1)).bind fun v11 =>
    (sixO x0 s3.2).bind fun v12 =>
    (rng (v11 + (IntKind.wrap .i64 (IntKind.wrap .u8 (v12 - 48))))).bind fun v13 =>
    (rng (s3.2 + 1)).bind fun v14 =>
    some (.inl (v13,v14))))) (
  some (.inr (.inl s3.1)))
def f_z (x0:ByteArray):Option Int :=
 cond ((x0.size:Int) == 0) (
  some (-1)) (
  cond (decide ((x0.size:Int) > 6)) (
   some (-1)) (
   cond (decide ((x0.size:Int) > 1)) (
    (sixO x0 0).bind fun v1 =>
    cond (v1 == 48) (
     some (-1)) (
     (loopO (l1_z x0) (0,0)).bind fun r8 =>
     match r8 with
     | (.inl r8) =>
      some r8
     | (.inr r8) =>
      some r8)) (
    (loopO (l2_z x0) (0,0)).bind fun r15 =>
    match r15 with
    | (.inl r15) =>
     some r15
    | (.inr r15) =>
     some r15)))
def l1_Q (r1:(List ByteArray)) (s1:(List Int) × Int):Option (((List Int) × Int) ⊕ ((List Int) ⊕ ((List Int) × Bool))) :=
 cond (decide (s1.2 < (r1.length:Int))) (
  (ixO r1 s1.2).bind fun v2 =>
  (f_z v2).bind fun r3 =>
  (f_aZ r3).bind fun r4 =>
  cond (!r4) (
   some (.inr (.inr ([],false)))) (
   cond (decide (s1.2 ≥ 6)) (
    some (.inr (.inr ([],false)))) (
    (appO s1.1 [r3]).bind fun v5 =>
    (rng (s1.2 + 1)).bind fun v6 =>
    some (.inl (v5,v6))))) (
  some (.inr (.inl s1.1)))
def f_Q (x0:ByteArray):Option ((List Int) × Bool) :=
 cond (seqB x0 (ByteArray.mk #[49])) (
  some ([],true)) (
  (f_O x0 32).bind fun r1 =>
  (loopO (l1_Q r1) ([],0)).bind fun r7 =>
  match r7 with
  | (.inl r7) =>
   (f_al r7).bind fun r8 =>
   some (r7,decide (r8 ≤ 729))
  | (.inr r7) =>
   some r7)
def l1_R (x0:Int) (x1:ByteArray) (s1:(List Int) × Int):Option (((List Int) × Int) ⊕ ((List Int) ⊕ ((List Int) × Bool))) :=
 cond (decide (s1.2 < (x1.size:Int))) (
  (sixO x1 s1.2).bind fun v1 =>
  (rng ((IntKind.wrap .i64 v1) - 97)).bind fun v2 =>
  (rng (v2 + 1)).bind fun v3 =>
  (sixO x1 s1.2).bind fun v4 =>
  (rng ((IntKind.wrap .i64 v4) - 65)).bind fun v5 =>
  (rng (v5 + 1)).bind fun v6 =>
  (f_aR v3 1 x0).bind fun r7 =>
  cond r7 (
   (appO s1.1 [v3]).bind fun v8 =>
   (rng (s1.2 + 1)).bind fun v9 =>
   some (.inl (v8,v9))) (
   (f_aR v6 1 x0).bind fun r10 =>
   cond r10 (
    (rng (0 - v6)).bind fun v11 =>
    (appO s1.1 [v11]).bind fun v12 =>
    (rng (s1.2 + 1)).bind fun v13 =>
    some (.inl (v12,v13))) (
    some (.inr (.inr ([],false)))))) (
  some (.inr (.inl s1.1)))
def f_R (x0:Int) (x1:ByteArray):Option ((List Int) × Bool) :=
 cond (seqB x1 (ByteArray.mk #[49])) (
  some ([],true)) (
  (loopO (l1_R x0 x1) ([],0)).bind fun r14 =>
  match r14 with
  | (.inl r14) =>
   some (r14,decide ((r14.length:Int) > 0))
  | (.inr r14) =>
   some r14)
def l1_Y (x1:List Int) (s1:(List Int) × Int):Option (((List Int) × Int) ⊕ ((List Int) ⊕ ((List Int) × Bool))) :=
 cond (decide (s1.2 < (x1.length:Int))) (
  (ixO x1 s1.2).bind fun v2 =>
  cond (decide (v2 < 0)) (
   some (.inr (.inr ([],false)))) (
   (ixO x1 s1.2).bind fun v3 =>
   (rng (v3 - 1)).bind fun v4 =>
   (ixO x1 s1.2).bind fun v5 =>
   (rng (v5 - 1)).bind fun v6 =>
   (ixO s1.1 v6).bind fun v7 =>
   (rng (v7 + 1)).bind fun v8 =>
   (ixO s1.1 v4).bind fun _ =>
   (rng (s1.2 + 1)).bind fun v10 =>
   some (.inl (s1.1.set v4.toNat v8,v10)))) (
  some (.inr (.inl s1.1)))
def f_Y (x0:Int) (x1:List Int):Option ((List Int) × Bool) :=
 (lenOk x0).bind fun m1 =>
 (loopO (l1_Y x1) (List.replicate m1 (0:Int),0)).bind fun r11 =>
 match r11 with
 | (.inl r11) =>
  some (r11,true)
 | (.inr r11) =>
  some r11
def l1_ap (x0:SPr) (s1:(List (List (List Int))) × Int):Option (((List (List (List Int))) × Int) ⊕ (List (List (List Int)))) :=
 cond (decide (s1.2 < (x0.Conjugates.length:Int))) (
  (ixO x0.Conjugates s1.2).bind fun v3 =>
  (f_ao v3).bind fun r4 =>
  (appO s1.1 [r4]).bind fun v5 =>
  (rng (s1.2 + 1)).bind fun v6 =>
  some (.inl (v5,v6))) (
  some (.inr s1.1))
def f_ap (x0:SPr):Option SPr :=
 (f_am x0.Orders).bind fun r1 =>
 (f_ao x0.Powers).bind fun r2 =>
 (loopO (l1_ap x0) ([],0)).bind fun r7 =>
 some (SPr.mk r1 r2 r7)
def b_l (g_l:Int → Option ByteArray) (x0:Int):Option ByteArray :=
 cond (decide (x0 < 10)) (
  (rng (48 + x0)).bind fun v1 =>
  some (b2s [(IntKind.wrap .u8 v1)])) (
  (quoO x0 10).bind fun v2 =>
  (g_l v2).bind fun r3 =>
  (remO x0 10).bind fun v4 =>
  (rng (48 + v4)).bind fun v5 =>
  (scatO r3 (b2s [(IntKind.wrap .u8 v5)])).bind fun v6 =>
  some v6)
def fN_l:Nat → Int → Option ByteArray
 | 0 => fun _ => none
 | n + 1 => b_l (fN_l n)
def f_l (x0:Int):Option ByteArray:=fuelO fun n => fN_l n x0
def f_aQ (x0:SPr) (x1:ByteArray):Option (SPr × Bool) :=
 (f_O x1 61).bind fun r1 =>
 cond ((r1.length:Int) != 2) (
  some (x0,false)) (
  (ixO r1 0).bind fun v2 =>
  cond ((v2.size:Int) != 4) (
   some (x0,false)) (
   (ixO r1 0).bind fun v3 =>
   (sixO v3 0).bind fun v4 =>
   cond (v4 != 32) (
    some (x0,false)) (
    (ixO r1 0).bind fun v5 =>
    (sixO v5 2).bind fun v6 =>
    cond (v6 != 94) (
     some (x0,false)) (
     (ixO r1 1).bind fun v7 =>
     (f_R (x0.Orders.length:Int) v7).bind fun r8 =>
     cond (!r8.2) (
      some (x0,false)) (
      (f_Y (x0.Orders.length:Int) r8.1).bind fun r9 =>
      (ixO r1 0).bind fun v10 =>
      (sixO v10 1).bind fun v11 =>
      (rng ((IntKind.wrap .i64 v11) - 97)).bind fun v12 =>
      (ixO r1 0).bind fun v13 =>
      (sixO v13 3).bind fun v14 =>
      (rng ((IntKind.wrap .i64 v14) - 97)).bind fun v15 =>
      cond (!r9.2) (
       some (x0,false)) (
       cond (decide (v12 < 0)) (
        some (x0,false)) (
        cond (decide (v12 ≥ (x0.Orders.length:Int))) (
         some (x0,false)) (
         (f_ap x0).bind fun r16 =>
         (ixO r1 0).bind fun v17 =>
         (sslO v17 3 (v17.size:Int)).bind fun v18 =>
         (ixO x0.Orders v12).bind fun v19 =>
         (f_l v19).bind fun r20 =>
         cond (seqB v18 r20) (
          (ixO r16.Powers v12).bind fun _ =>
          some ((SPr.mk r16.Orders (r16.Powers.set v12.toNat r9.1) r16.Conjugates),true)) (
          cond (decide (v15 < 0)) (
           some (x0,false)) (
           cond (decide (v15 ≥ v12)) (
            some (x0,false)) (
            (ixO r16.Conjugates v15).bind fun v22 =>
            (rng (v12 - v15)).bind fun v23 =>
            (rng (v23 - 1)).bind fun v24 =>
            (ixO v22 v24).bind fun _ =>
            some ((SPr.mk r16.Orders r16.Powers (r16.Conjugates.set v15.toNat (v22.set v24.toNat r9.1))),true))))))))))))
def l1_W (x0:List Int) (s1:(List Int) × Int):Option (((List Int) × Int) ⊕ (List Int)) :=
 cond (decide (s1.2 < (x0.length:Int))) (
  (ixO x0 s1.2).bind fun v1 =>
  cond (decide (v1 > 0)) (
   (ixO x0 s1.2).bind fun v2 =>
   (rng (97 + v2)).bind fun v3 =>
   (rng (v3 - 1)).bind fun v4 =>
   (appO s1.1 [(IntKind.wrap .u8 v4)]).bind fun v5 =>
   (rng (s1.2 + 1)).bind fun v6 =>
   some (.inl (v5,v6))) (
   (ixO x0 s1.2).bind fun v7 =>
   (rng (65 - v7)).bind fun v8 =>
   (rng (v8 - 1)).bind fun v9 =>
   (appO s1.1 [(IntKind.wrap .u8 v9)]).bind fun v10 =>
   (rng (s1.2 + 1)).bind fun v11 =>
   some (.inl (v10,v11)))) (
  some (.inr s1.1))
def f_W (x0:List Int):Option ByteArray :=
 cond ((x0.length:Int) == 0) (
  some (ByteArray.mk #[49])) (
  (loopO (l1_W x0) ([],0)).bind fun r12 =>
  some (b2s r12))
def f_aP (x0:Int):Option ByteArray :=
 (rng (x0 + 1)).bind fun v1 =>
 (f_W [v1]).bind fun r2 =>
 some r2
def l1_G (x0:List Int) (s5:(List Int) × Int) (s6:(List Int) × Int):Option (((List Int) × Int) ⊕ (List Int)) :=
 (ixO x0 s5.2).bind fun v1 =>
 cond (decide (s6.2 < v1)) (
  (rng (s5.2 + 1)).bind fun v2 =>
  (appO s6.1 [v2]).bind fun v3 =>
  (rng (s6.2 + 1)).bind fun v4 =>
  some (.inl (v3,v4))) (
  some (.inr s6.1))
def l2_G (x0:List Int) (s5:(List Int) × Int):Option (((List Int) × Int) ⊕ (List Int)) :=
 cond (decide (s5.2 < (x0.length:Int))) (
  (loopO (l1_G x0 s5) (s5.1,0)).bind fun r5 =>
  (rng (s5.2 + 1)).bind fun v6 =>
  some (.inl (r5,v6))) (
  some (.inr s5.1))
def f_G (x0:List Int):Option (List Int) :=
 (loopO (l2_G x0) ([],0)).bind fun r7 =>
 some r7
def l1_p (x0:SPr) (s1:ByteArray × Int):Option ((ByteArray × Int) ⊕ ByteArray) :=
 cond (decide (s1.2 < (x0.Orders.length:Int))) (
  cond (decide (s1.2 > 0)) (
   (scatO s1.1 (ByteArray.mk #[32])).bind fun v1 =>
   (ixO x0.Orders s1.2).bind fun v2 =>
   (f_l v2).bind fun r3 =>
   (scatO v1 r3).bind fun v4 =>
   (rng (s1.2 + 1)).bind fun v5 =>
   some (.inl (v4,v5))) (
   (ixO x0.Orders s1.2).bind fun v6 =>
   (f_l v6).bind fun r7 =>
   (scatO s1.1 r7).bind fun v8 =>
   (rng (s1.2 + 1)).bind fun v9 =>
   some (.inl (v8,v9)))) (
  some (.inr s1.1))
def l2_p (x0:SPr) (s3:ByteArray × Int):Option ((ByteArray × Int) ⊕ ByteArray) :=
 cond (decide (s3.2 < (x0.Orders.length:Int))) (
  (ixO x0.Powers s3.2).bind fun v11 =>
  (f_aO v11).bind fun r12 =>
  cond (!r12) (
   (scatO s3.1 (ByteArray.mk #[59,32])).bind fun v13 =>
   (f_aP s3.2).bind fun r14 =>
   (scatO v13 r14).bind fun v15 =>
   (scatO v15 (ByteArray.mk #[94])).bind fun v16 =>
   (ixO x0.Orders s3.2).bind fun v17 =>
   (f_l v17).bind fun r18 =>
   (scatO v16 r18).bind fun v19 =>
   (scatO v19 (ByteArray.mk #[61])).bind fun v20 =>
   (ixO x0.Powers s3.2).bind fun v21 =>
   (f_G v21).bind fun r22 =>
   (f_W r22).bind fun r23 =>
   (scatO v20 r23).bind fun v24 =>
   (rng (s3.2 + 1)).bind fun v25 =>
   some (.inl (v24,v25))) (
   (rng (s3.2 + 1)).bind fun v26 =>
   some (.inl (s3.1,v26)))) (
  some (.inr s3.1))
def l3_p (x0:SPr) (s9:ByteArray × Int) (s10:ByteArray × Int):Option ((ByteArray × Int) ⊕ ByteArray) :=
 cond (decide (s10.2 < (x0.Orders.length:Int))) (
  (ixO x0.Conjugates s9.2).bind fun v29 =>
  (rng (s10.2 - s9.2)).bind fun v30 =>
  (rng (v30 - 1)).bind fun v31 =>
  (ixO v29 v31).bind fun v32 =>
  (f_aM (x0.Orders.length:Int) s10.2).bind fun r33 =>
  (f_an v32 r33).bind fun r34 =>
  cond (!r34) (
   (scatO s10.1 (ByteArray.mk #[59,32])).bind fun v35 =>
   (f_aP s10.2).bind fun r36 =>
   (scatO v35 r36).bind fun v37 =>
   (scatO v37 (ByteArray.mk #[94])).bind fun v38 =>
   (f_aP s9.2).bind fun r39 =>
   (scatO v38 r39).bind fun v40 =>
   (scatO v40 (ByteArray.mk #[61])).bind fun v41 =>
   (ixO x0.Conjugates s9.2).bind fun v42 =>
   (rng (s10.2 - s9.2)).bind fun v43 =>
   (rng (v43 - 1)).bind fun v44 =>
   (ixO v42 v44).bind fun v45 =>
   (f_G v45).bind fun r46 =>
   (f_W r46).bind fun r47 =>
   (scatO v41 r47).bind fun v48 =>
   (rng (s10.2 + 1)).bind fun v49 =>
   some (.inl (v48,v49))) (
   (rng (s10.2 + 1)).bind fun v50 =>
   some (.inl (s10.1,v50)))) (
  some (.inr s10.1))
def l4_p (x0:SPr) (s9:ByteArray × Int):Option ((ByteArray × Int) ⊕ ByteArray) :=
 cond (decide (s9.2 < (x0.Orders.length:Int))) (
  (rng (s9.2 + 1)).bind fun v28 =>
  (loopO (l3_p x0 s9) (s9.1,v28)).bind fun r51 =>
  (rng (s9.2 + 1)).bind fun v52 =>
  some (.inl (r51,v52))) (
  some (.inr s9.1))
def f_p (x0:SPr):Option ByteArray :=
 cond ((x0.Orders.length:Int) == 0) (
  some (ByteArray.mk #[49])) (
  (loopO (l1_p x0) ((ByteArray.mk #[]),0)).bind fun r10 =>
  (loopO (l2_p x0) (r10,0)).bind fun r27 =>
  (loopO (l4_p x0) (r27,0)).bind fun r53 =>
  some r53)
def l1_S (r1:(List ByteArray)) (s1:(List Int) × (List (List Int)) × (List (List (List Int))) × Int):Option (((List Int) × (List (List Int)) × (List (List (List Int))) × Int) ⊕ (((List Int) × (List (List Int)) × (List (List (List Int)))) ⊕ (SPr × Int))) :=
 cond (decide (s1.2.2.2 < (r1.length:Int))) (
  (ixO r1 s1.2.2.2).bind fun v5 =>
  (f_aQ (SPr.mk s1.1 s1.2.1 s1.2.2.1) v5).bind fun r6 =>
  cond (!r6.2) (
   some (.inr (.inr ((SPr.mk [] [] []),6)))) (
   (rng (s1.2.2.2 + 1)).bind fun v7 =>
   some (.inl (r6.1.Orders,r6.1.Powers,r6.1.Conjugates,v7)))) (
  some (.inr (.inl (s1.1,s1.2.1,s1.2.2.1))))
def f_S (x0:ByteArray):Option (SPr × Int) :=
 (f_O x0 59).bind fun r1 =>
 (ixO r1 0).bind fun v2 =>
 (f_Q v2).bind fun r3 =>
 cond (!r3.2) (
  some ((SPr.mk [] [] []),6)) (
  (f_I r3.1).bind fun r4 =>
  (loopO (l1_S r1) (r4.Orders,r4.Powers,r4.Conjugates,1)).bind fun r8 =>
  match r8 with
  | (.inl r8) =>
   (f_u (SPr.mk r8.1 r8.2.1 r8.2.2)).bind fun r9 =>
   cond (!r9) (
    some ((SPr.mk [] [] []),6)) (
    (f_p (SPr.mk r8.1 r8.2.1 r8.2.2)).bind fun r10 =>
    cond (!seqB r10 x0) (
     some ((SPr.mk [] [] []),6)) (
     some ((SPr.mk r8.1 r8.2.1 r8.2.2),0)))
  | (.inr r8) =>
   some r8)
structure Sl36Reader where
 text:ByteArray
 at_:Int
 failed:Bool
abbrev eSl36Reader (x:Sl36Reader):T:=.agg [Str x.text,I x.at_,B x.failed]
instance:Enc eSl36Reader:=.of fun _ => encA ⟨Enc.t (f:=Str) inferInstance _,Enc.t (f:=I) inferInstance _,Enc.t (f:=B) inferInstance _,trivial⟩
structure Sl30Row where
 order:Int
 name:ByteArray
 text:ByteArray
abbrev eSl30Row (x:Sl30Row):T:=.agg [I x.order,Str x.name,Str x.text]
instance:Enc eSl30Row:=.of fun _ => encA ⟨Enc.t (f:=I) inferInstance _,Enc.t (f:=Str) inferInstance _,Enc.t (f:=Str) inferInstance _,trivial⟩
structure SNode where
 Kind:Int
 Text:ByteArray
 Mark:ByteArray
abbrev eSNode (x:SNode):T:=.agg [I x.Kind,Str x.Text,Str x.Mark]
instance:Enc eSNode:=.of fun _ => encA ⟨Enc.t (f:=I) inferInstance _,Enc.t (f:=Str) inferInstance _,Enc.t (f:=Str) inferInstance _,trivial⟩
structure SexprReader where
 text:ByteArray
 at_:Int
abbrev eSexprReader (x:SexprReader):T:=.agg [Str x.text,I x.at_]
instance:Enc eSexprReader:=.of fun _ => encA ⟨Enc.t (f:=Str) inferInstance _,Enc.t (f:=I) inferInstance _,trivial⟩
structure SlibraryGroup where
 order:Int
 number:Int
 name:ByteArray
 text:ByteArray
abbrev eSlibraryGroup (x:SlibraryGroup):T:=.agg [I x.order,I x.number,Str x.name,Str x.text]
instance:Enc eSlibraryGroup:=.of fun _ => encA ⟨Enc.t (f:=I) inferInstance _,Enc.t (f:=I) inferInstance _,Enc.t (f:=Str) inferInstance _,Enc.t (f:=Str) inferInstance _,trivial⟩
def f_aF:Option (List SlibraryGroup):=some [SlibraryGroup.mk 1 0 (ByteArray.mk #[49]) (ByteArray.mk #[49]),
 SlibraryGroup.mk 2 0 (ByteArray.mk #[67,50]) (ByteArray.mk #[50]),
 SlibraryGroup.mk 3 0 (ByteArray.mk #[67,51]) (ByteArray.mk #[51]),
 SlibraryGroup.mk 4 0 (ByteArray.mk #[67,52]) (ByteArray.mk #[50,32,50,59,32,97,94,50,61,98]),
 SlibraryGroup.mk 4 1 (ByteArray.mk #[67,50,120,67,50]) (ByteArray.mk #[50,32,50]),
 SlibraryGroup.mk 5 0 (ByteArray.mk #[67,53]) (ByteArray.mk #[53]),
 SlibraryGroup.mk 6 0 (ByteArray.mk #[67,54]) (ByteArray.mk #[50,32,51]),
 SlibraryGroup.mk 6 1 (ByteArray.mk #[83,51]) (ByteArray.mk #[50,32,51,59,32,98,94,97,61,98,98]),
 SlibraryGroup.mk 7 0 (ByteArray.mk #[67,55]) (ByteArray.mk #[55]),
 SlibraryGroup.mk 8 0 (ByteArray.mk #[67,56]) (ByteArray.mk #[50,32,50,32,50,59,32,97,94,50,61,98,59,32,98,94,50,61,99]),
 SlibraryGroup.mk 8 1 (ByteArray.mk #[67,52,120,67,50]) (ByteArray.mk #[50,32,50,32,50,59,32,97,94,50,61,98]),
 SlibraryGroup.mk 8 2 (ByteArray.mk #[67,50,120,67,50,120,67,50]) (ByteArray.mk #[50,32,50,32,50]),
 SlibraryGroup.mk 8 3 (ByteArray.mk #[68,56]) (ByteArray.mk #[50,32,50,32,50,59,32,98,94,97,61,98,99]),
 SlibraryGroup.mk 8 4 (ByteArray.mk #[81,56]) (ByteArray.mk #[50,32,50,32,50,59,32,97,94,50,61,99,59,32,98,94,50,61,99,59,32,98,94,97,61,98,99]),
 SlibraryGroup.mk 9 0 (ByteArray.mk #[67,57]) (ByteArray.mk #[51,32,51,59,32,97,94,51,61,98]),
 SlibraryGroup.mk 9 1 (ByteArray.mk #[67,51,120,67,51]) (ByteArray.mk #[51,32,51]),
 SlibraryGroup.mk 10 0 (ByteArray.mk #[67,49,48]) (ByteArray.mk #[50,32,53]),
 SlibraryGroup.mk 10 1 (ByteArray.mk #[68,49,48]) (ByteArray.mk #[50,32,53,59,32,98,94,97,61,98,98,98,98]),
 SlibraryGroup.mk 12 0 (ByteArray.mk #[67,49,50]) (ByteArray.mk #[50,32,50,32,51,59,32,97,94,50,61,98]),
 SlibraryGroup.mk 12 1 (ByteArray.mk #[67,54,120,67,50]) (ByteArray.mk #[50,32,50,32,51]),
 SlibraryGroup.mk 12 2 (ByteArray.mk #[68,49,50]) (ByteArray.mk #[50,32,50,32,51,59,32,99,94,97,61,99,99]),
 SlibraryGroup.mk 12 3 (ByteArray.mk #[68,105,99,49,50]) (ByteArray.mk #[50,32,50,32,51,59,32,97,94,50,61,98,59,32,99,94,97,61,99,99]),
 SlibraryGroup.mk 12 4 (ByteArray.mk #[65,52]) (ByteArray.mk #[51,32,50,32,50,59,32,98,94,97,61,99,59,32,99,94,97,61,98,99]),
 SlibraryGroup.mk 14 0 (ByteArray.mk #[67,49,52]) (ByteArray.mk #[50,32,55]),
 SlibraryGroup.mk 14 1 (ByteArray.mk #[68,49,52]) (ByteArray.mk #[50,32,55,59,32,98,94,97,61,98,98,98,98,98,98]),
 SlibraryGroup.mk 15 0 (ByteArray.mk #[67,49,53]) (ByteArray.mk #[51,32,53]),
 SlibraryGroup.mk 16 0 (ByteArray.mk #[67,49,54]) (ByteArray.mk #[50,32,50,32,50,32,50,59,32,97,94,50,61,98,59,32,98,94,50,61,99,59,32,99,94,50,61,100]),
 SlibraryGroup.mk 16 1 (ByteArray.mk #[67,52,120,67,52]) (ByteArray.mk #[50,32,50,32,50,32,50,59,32,97,94,50,61,98,59,32,99,94,50,61,100]),
 SlibraryGroup.mk 16 2 (ByteArray.mk #[67,56,120,67,50]) (ByteArray.mk #[50,32,50,32,50,32,50,59,32,97,94,50,61,98,59,32,98,94,50,61,99]),
 SlibraryGroup.mk 16 3 (ByteArray.mk #[67,52,120,67,50,120,67,50]) (ByteArray.mk #[50,32,50,32,50,32,50,59,32,97,94,50,61,98]),
 SlibraryGroup.mk 16 4 (ByteArray.mk #[67,50,120,67,50,120,67,50,120,67,50]) (ByteArray.mk #[50,32,50,32,50,32,50]),
 SlibraryGroup.mk 16 5 (ByteArray.mk #[68,56,120,67,50]) (ByteArray.mk #[50,32,50,32,50,32,50,59,32,98,94,97,61,98,99]),
 SlibraryGroup.mk 16 6 (ByteArray.mk #[81,56,120,67,50]) (ByteArray.mk #[50,32,50,32,50,32,50,59,32,97,94,50,61,99,59,32,98,94,50,61,99,59,32,98,94,97,61,98,99]),
 SlibraryGroup.mk 16 7 (ByteArray.mk #[68,49,54]) (ByteArray.mk #[50,32,50,32,50,32,50,59,32,98,94,50,61,99,59,32,99,94,50,61,100,59,32,98,94,97,61,98,99,100,59,32,99,94,97,61,99,100]),
 SlibraryGroup.mk 16 8 (ByteArray.mk #[83,68,49,54]) (ByteArray.mk #[50,32,50,32,50,32,50,59,32,98,94,50,61,99,59,32,99,94,50,61,100,59,32,98,94,97,61,98,99,59,32,99,94,97,61,99,100]),
 SlibraryGroup.mk 16 9 (ByteArray.mk #[81,49,54]) (ByteArray.mk #[50,32,50,32,50,32,50,59,32,97,94,50,61,100,59,32,98,94,50,61,99,59,32,99,94,50,61,100,59,32,98,94,97,61,98,99,100,59,32,99,94,97,61,99,100]),
 SlibraryGroup.mk 16 10 (ByteArray.mk #[77,49,54]) (ByteArray.mk #[50,32,50,32,50,32,50,59,32,98,94,50,61,99,59,32,99,94,50,61,100,59,32,98,94,97,61,98,100]),
 SlibraryGroup.mk 16 11 (ByteArray.mk #[67,52,58,67,52]) (ByteArray.mk #[50,32,50,32,50,32,50,59,32,97,94,50,61,98,59,32,99,94,50,61,100,59,32,99,94,97,61,99,100]),
 SlibraryGroup.mk 16 12 (ByteArray.mk #[67,50,120,67,50,58,67,52]) (ByteArray.mk #[50,32,50,32,50,32,50,59,32,97,94,50,61,98,59,32,99,94,97,61,99,100]),
 SlibraryGroup.mk 16 13 (ByteArray.mk #[68,56,42,67,52]) (ByteArray.mk #[50,32,50,32,50,32,50,59,32,99,94,50,61,100,59,32,98,94,97,61,98,100]),
 SlibraryGroup.mk 18 0 (ByteArray.mk #[67,49,56]) (ByteArray.mk #[50,32,51,32,51,59,32,98,94,51,61,99]),
 SlibraryGroup.mk 18 1 (ByteArray.mk #[67,54,120,67,51]) (ByteArray.mk #[50,32,51,32,51]),
 SlibraryGroup.mk 18 2 (ByteArray.mk #[68,49,56]) (ByteArray.mk #[50,32,51,32,51,59,32,98,94,51,61,99,59,32,98,94,97,61,98,98,99,99,59,32,99,94,97,61,99,99]),
 SlibraryGroup.mk 18 3 (ByteArray.mk #[83,51,120,67,51]) (ByteArray.mk #[50,32,51,32,51,59,32,99,94,97,61,99,99]),
 SlibraryGroup.mk 18 4 (ByteArray.mk #[67,51,120,67,51,58,67,50]) (ByteArray.mk #[50,32,51,32,51,59,32,98,94,97,61,98,98,59,32,99,94,97,61,99,99]),
 SlibraryGroup.mk 20 0 (ByteArray.mk #[67,50,48]) (ByteArray.mk #[50,32,50,32,53,59,32,97,94,50,61,98]),
 SlibraryGroup.mk 20 1 (ByteArray.mk #[67,49,48,120,67,50]) (ByteArray.mk #[50,32,50,32,53]),
 SlibraryGroup.mk 20 2 (ByteArray.mk #[68,50,48]) (ByteArray.mk #[50,32,50,32,53,59,32,99,94,97,61,99,99,99,99]),
 SlibraryGroup.mk 20 3 (ByteArray.mk #[68,105,99,50,48]) (ByteArray.mk #[50,32,50,32,53,59,32,97,94,50,61,98,59,32,99,94,97,61,99,99,99,99]),
 SlibraryGroup.mk 20 4 (ByteArray.mk #[70,50,48]) (ByteArray.mk #[50,32,50,32,53,59,32,97,94,50,61,98,59,32,99,94,97,61,99,99,59,32,99,94,98,61,99,99,99,99]),
 SlibraryGroup.mk 21 0 (ByteArray.mk #[67,50,49]) (ByteArray.mk #[51,32,55]),
 SlibraryGroup.mk 21 1 (ByteArray.mk #[70,50,49]) (ByteArray.mk #[51,32,55,59,32,98,94,97,61,98,98]),
 SlibraryGroup.mk 24 0 (ByteArray.mk #[67,50,52]) (ByteArray.mk #[50,32,50,32,50,32,51,59,32,97,94,50,61,98,59,32,98,94,50,61,99]),
 SlibraryGroup.mk 24 1 (ByteArray.mk #[67,49,50,120,67,50]) (ByteArray.mk #[50,32,50,32,50,32,51,59,32,97,94,50,61,98]),
 SlibraryGroup.mk 24 2 (ByteArray.mk #[67,54,120,67,50,120,67,50]) (ByteArray.mk #[50,32,50,32,50,32,51]),
 SlibraryGroup.mk 24 3 (ByteArray.mk #[67,51,58,67,56]) (ByteArray.mk #[50,32,50,32,50,32,51,59,32,97,94,50,61,98,59,32,98,94,50,61,99,59,32,100,94,97,61,100,100]),
 SlibraryGroup.mk 24 4 (ByteArray.mk #[68,50,52]) (ByteArray.mk #[50,32,50,32,50,32,51,59,32,98,94,50,61,99,59,32,98,94,97,61,98,99,59,32,100,94,97,61,100,100]),
 SlibraryGroup.mk 24 5 (ByteArray.mk #[68,105,99,50,52]) (ByteArray.mk #[50,32,50,32,50,32,51,59,32,97,94,50,61,99,59,32,98,94,50,61,99,59,32,98,94,97,61,98,99,59,32,100,94,97,61,100,100]),
 SlibraryGroup.mk 24 6 (ByteArray.mk #[83,51,120,67,52]) (ByteArray.mk #[50,32,50,32,50,32,51,59,32,98,94,50,61,99,59,32,100,94,97,61,100,100]),
 SlibraryGroup.mk 24 7 (ByteArray.mk #[68,105,99,49,50,120,67,50]) (ByteArray.mk #[50,32,50,32,50,32,51,59,32,97,94,50,61,98,59,32,100,94,97,61,100,100]),
 SlibraryGroup.mk 24 8 (ByteArray.mk #[68,49,50,120,67,50]) (ByteArray.mk #[50,32,50,32,50,32,51,59,32,100,94,97,61,100,100]),
 SlibraryGroup.mk 24 9 (ByteArray.mk #[68,56,120,67,51]) (ByteArray.mk #[50,32,50,32,50,32,51,59,32,98,94,97,61,98,99]),
 SlibraryGroup.mk 24 10 (ByteArray.mk #[81,56,120,67,51]) (ByteArray.mk #[50,32,50,32,50,32,51,59,32,97,94,50,61,99,59,32,98,94,50,61,99,59,32,98,94,97,61,98,99]),
 SlibraryGroup.mk 24 11 (ByteArray.mk #[67,51,58,68,56]) (ByteArray.mk #[50,32,50,32,50,32,51,59,32,98,94,97,61,98,99,59,32,100,94,97,61,100,100]),
 SlibraryGroup.mk 24 12 (ByteArray.mk #[65,52,120,67,50]) (ByteArray.mk #[50,32,51,32,50,32,50,59,32,99,94,98,61,100,59,32,100,94,98,61,99,100]),
 SlibraryGroup.mk 24 13 (ByteArray.mk #[83,52]) (ByteArray.mk #[50,32,51,32,50,32,50,59,32,98,94,97,61,98,98,59,32,99,94,97,61,100,59,32,100,94,97,61,99,59,32,99,94,98,61,100,59,32,100,94,98,61,99,100]),
 SlibraryGroup.mk 24 14 (ByteArray.mk #[83,76,50,51]) (ByteArray.mk #[51,32,50,32,50,32,50,59,32,98,94,50,61,100,59,32,99,94,50,61,100,59,32,98,94,97,61,99,59,32,99,94,97,61,98,99,59,32,99,94,98,61,99,100]),
 SlibraryGroup.mk 25 0 (ByteArray.mk #[67,50,53]) (ByteArray.mk #[53,32,53,59,32,97,94,53,61,98]),
 SlibraryGroup.mk 25 1 (ByteArray.mk #[67,53,120,67,53]) (ByteArray.mk #[53,32,53]),
 SlibraryGroup.mk 27 0 (ByteArray.mk #[67,50,55]) (ByteArray.mk #[51,32,51,32,51,59,32,97,94,51,61,98,59,32,98,94,51,61,99]),
 SlibraryGroup.mk 27 1 (ByteArray.mk #[67,57,120,67,51]) (ByteArray.mk #[51,32,51,32,51,59,32,97,94,51,61,98]),
 SlibraryGroup.mk 27 2 (ByteArray.mk #[67,51,120,67,51,120,67,51]) (ByteArray.mk #[51,32,51,32,51]),
 SlibraryGroup.mk 27 3 (ByteArray.mk #[72,50,55]) (ByteArray.mk #[51,32,51,32,51,59,32,98,94,97,61,98,99]),
 SlibraryGroup.mk 27 4 (ByteArray.mk #[77,50,55]) (ByteArray.mk #[51,32,51,32,51,59,32,97,94,51,61,99,59,32,98,94,97,61,98,99]),
 SlibraryGroup.mk 28 0 (ByteArray.mk #[67,50,56]) (ByteArray.mk #[50,32,50,32,55,59,32,97,94,50,61,98]),
 SlibraryGroup.mk 28 1 (ByteArray.mk #[67,49,52,120,67,50]) (ByteArray.mk #[50,32,50,32,55]),
 SlibraryGroup.mk 28 2 (ByteArray.mk #[68,50,56]) (ByteArray.mk #[50,32,50,32,55,59,32,99,94,97,61,99,99,99,99,99,99]),
 SlibraryGroup.mk 28 3 (ByteArray.mk #[68,105,99,50,56]) (ByteArray.mk #[50,32,50,32,55,59,32,97,94,50,61,98,59,32,99,94,97,61,99,99,99,99,99,99]),
 SlibraryGroup.mk 30 0 (ByteArray.mk #[67,51,48]) (ByteArray.mk #[50,32,51,32,53]),
 SlibraryGroup.mk 30 1 (ByteArray.mk #[68,51,48]) (ByteArray.mk #[50,32,51,32,53,59,32,98,94,97,61,98,98,59,32,99,94,97,61,99,99,99,99]),
 SlibraryGroup.mk 30 2 (ByteArray.mk #[83,51,120,67,53]) (ByteArray.mk #[50,32,51,32,53,59,32,98,94,97,61,98,98]),
 SlibraryGroup.mk 30 3 (ByteArray.mk #[68,49,48,120,67,51]) (ByteArray.mk #[50,32,51,32,53,59,32,99,94,97,61,99,99,99,99])]
def l1_K (x0:Sl36Reader) (x1:Int) (s1:Int):Option (Int ⊕ Int) :=
 cond (decide (s1 < (x0.text.size:Int))) (
  (sixO x0.text s1).bind fun v2 =>
  cond (v2 != x1) (
   (rng (s1 + 1)).bind fun v3 =>
   some (.inl v3)) (
   some (.inr s1))) (
  some (.inr s1))
def f_K (x0:Sl36Reader) (x1:Int):Option (ByteArray × Sl36Reader) :=
 (rng (x0.at_ + 1)).bind fun v1 =>
 (loopO (l1_K x0 x1) v1).bind fun r4 =>
 cond (r4 == (x0.text.size:Int)) (
  some ((ByteArray.mk #[]),(Sl36Reader.mk x0.text x0.at_ true))) (
  (rng (x0.at_ + 1)).bind fun v5 =>
  (sslO x0.text v5 r4).bind fun v6 =>
  some (v6,x0))
def f_a1  : Option (List Sl30Row) :=
 some [(Sl30Row.mk 1 (ByteArray.mk #[49]) (ByteArray.mk #[49])),(Sl30Row.mk 2 (ByteArray.mk #[67,50]) (ByteArray.mk #[50])),(Sl30Row.mk 3 (ByteArray.mk #[67,51]) (ByteArray.mk #[51])),(Sl30Row.mk 4 (ByteArray.mk #[67,52]) (ByteArray.mk #[50,32,50,59,32,97,94,50,61,98])),(Sl30Row.mk 4 (ByteArray.mk #[67,50,120,67,50]) (ByteArray.mk #[50,32,50])),(Sl30Row.mk 5 (ByteArray.mk #[67,53]) (ByteArray.mk #[53])),(Sl30Row.mk 6 (ByteArray.mk #[67,54]) (ByteArray.mk #[50,32,51])),(Sl30Row.mk 6 (ByteArray.mk #[83,51]) (ByteArray.mk #[50,32,51,59,32,98,94,97,61,98,98])),(Sl30Row.mk 7 (ByteArray.mk #[67,55]) (ByteArray.mk #[55])),(Sl30Row.mk 8 (ByteArray.mk #[67,56]) (ByteArray.mk #[50,32,50,32,50,59,32,97,94,50,61,98,59,32,98,94,50,61,99])),(Sl30Row.mk 8 (ByteArray.mk #[67,52,120,67,50]) (ByteArray.mk #[50,32,50,32,50,59,32,97,94,50,61,98])),(Sl30Row.mk 8 (ByteArray.mk #[67,50,120,67,50,120,67,50]) (ByteArray.mk #[50,32,50,32,50])),(Sl30Row.mk 8 (ByteArray.mk #[68,56]) (ByteArray.mk #[50,32,50,32,50,59,32,98,94,97,61,98,99])),(Sl30Row.mk 8 (ByteArray.mk #[81,56]) (ByteArray.mk #[50,32,50,32,50,59,32,97,94,50,61,99,59,32,98,94,50,61,99,59,32,98,94,97,61,98,99])),(Sl30Row.mk 9 (ByteArray.mk #[67,57]) (ByteArray.mk #[51,32,51,59,32,97,94,51,61,98])),(Sl30Row.mk 9 (ByteArray.mk #[67,51,120,67,51]) (ByteArray.mk #[51,32,51])),(Sl30Row.mk 10 (ByteArray.mk #[67,49,48]) (ByteArray.mk #[50,32,53])),(Sl30Row.mk 10 (ByteArray.mk #[68,49,48]) (ByteArray.mk #[50,32,53,59,32,98,94,97,61,98,98,98,98])),(Sl30Row.mk 12 (ByteArray.mk #[67,49,50]) (ByteArray.mk #[50,32,50,32,51,59,32,97,94,50,61,98])),(Sl30Row.mk 12 (ByteArray.mk #[67,54,120,67,50]) (ByteArray.mk #[50,32,50,32,51])),(Sl30Row.mk 12 (ByteArray.mk #[68,49,50]) (ByteArray.mk #[50,32,50,32,51,59,32,99,94,97,61,99,99])),(Sl30Row.mk 12 (ByteArray.mk #[68,105,99,49,50]) (ByteArray.mk #[50,32,50,32,51,59,32,97,94,50,61,98,59,32,99,94,97,61,99,99])),(Sl30Row.mk 12 (ByteArray.mk #[65,52]) (ByteArray.mk #[51,32,50,32,50,59,32,98,94,97,61,99,59,32,99,94,97,61,98,99])),(Sl30Row.mk 14 (ByteArray.mk #[67,49,52]) (ByteArray.mk #[50,32,55])),(Sl30Row.mk 14 (ByteArray.mk #[68,49,52]) (ByteArray.mk #[50,32,55,59,32,98,94,97,61,98,98,98,98,98,98])),(Sl30Row.mk 15 (ByteArray.mk #[67,49,53]) (ByteArray.mk #[51,32,53])),(Sl30Row.mk 16 (ByteArray.mk #[67,49,54]) (ByteArray.mk #[50,32,50,32,50,32,50,59,32,97,94,50,61,98,59,32,98,94,50,61,99,59,32,99,94,50,61,100])),(Sl30Row.mk 16 (ByteArray.mk #[67,52,120,67,52]) (ByteArray.mk #[50,32,50,32,50,32,50,59,32,97,94,50,61,98,59,32,99,94,50,61,100])),(Sl30Row.mk 16 (ByteArray.mk #[67,56,120,67,50]) (ByteArray.mk #[50,32,50,32,50,32,50,59,32,97,94,50,61,98,59,32,98,94,50,61,99])),(Sl30Row.mk 16 (ByteArray.mk #[67,52,120,67,50,120,67,50]) (ByteArray.mk #[50,32,50,32,50,32,50,59,32,97,94,50,61,98])),(Sl30Row.mk 16 (ByteArray.mk #[67,50,120,67,50,120,67,50,120,67,50]) (ByteArray.mk #[50,32,50,32,50,32,50])),(Sl30Row.mk 16 (ByteArray.mk #[68,56,120,67,50]) (ByteArray.mk #[50,32,50,32,50,32,50,59,32,98,94,97,61,98,99])),(Sl30Row.mk 16 (ByteArray.mk #[81,56,120,67,50]) (ByteArray.mk #[50,32,50,32,50,32,50,59,32,97,94,50,61,99,59,32,98,94,50,61,99,59,32,98,94,97,61,98,99])),(Sl30Row.mk 16 (ByteArray.mk #[68,49,54]) (ByteArray.mk #[50,32,50,32,50,32,50,59,32,98,94,50,61,99,59,32,99,94,50,61,100,59,32,98,94,97,61,98,99,100,59,32,99,94,97,61,99,100])),(Sl30Row.mk 16 (ByteArray.mk #[83,68,49,54]) (ByteArray.mk #[50,32,50,32,50,32,50,59,32,98,94,50,61,99,59,32,99,94,50,61,100,59,32,98,94,97,61,98,99,59,32,99,94,97,61,99,100])),(Sl30Row.mk 16 (ByteArray.mk #[81,49,54]) (ByteArray.mk #[50,32,50,32,50,32,50,59,32,97,94,50,61,100,59,32,98,94,50,61,99,59,32,99,94,50,61,100,59,32,98,94,97,61,98,99,100,59,32,99,94,97,61,99,100])),(Sl30Row.mk 16 (ByteArray.mk #[77,49,54]) (ByteArray.mk #[50,32,50,32,50,32,50,59,32,98,94,50,61,99,59,32,99,94,50,61,100,59,32,98,94,97,61,98,100])),(Sl30Row.mk 16 (ByteArray.mk #[67,52,58,67,52]) (ByteArray.mk #[50,32,50,32,50,32,50,59,32,97,94,50,61,98,59,32,99,94,50,61,100,59,32,99,94,97,61,99,100])),(Sl30Row.mk 16 (ByteArray.mk #[67,50,120,67,50,58,67,52]) (ByteArray.mk #[50,32,50,32,50,32,50,59,32,97,94,50,61,98,59,32,99,94,97,61,99,100])),(Sl30Row.mk 16 (ByteArray.mk #[68,56,42,67,52]) (ByteArray.mk #[50,32,50,32,50,32,50,59,32,99,94,50,61,100,59,32,98,94,97,61,98,100])),(Sl30Row.mk 18 (ByteArray.mk #[67,49,56]) (ByteArray.mk #[50,32,51,32,51,59,32,98,94,51,61,99])),(Sl30Row.mk 18 (ByteArray.mk #[67,54,120,67,51]) (ByteArray.mk #[50,32,51,32,51])),(Sl30Row.mk 18 (ByteArray.mk #[68,49,56]) (ByteArray.mk #[50,32,51,32,51,59,32,98,94,51,61,99,59,32,98,94,97,61,98,98,99,99,59,32,99,94,97,61,99,99])),(Sl30Row.mk 18 (ByteArray.mk #[83,51,120,67,51]) (ByteArray.mk #[50,32,51,32,51,59,32,99,94,97,61,99,99])),(Sl30Row.mk 18 (ByteArray.mk #[67,51,120,67,51,58,67,50]) (ByteArray.mk #[50,32,51,32,51,59,32,98,94,97,61,98,98,59,32,99,94,97,61,99,99])),(Sl30Row.mk 20 (ByteArray.mk #[67,50,48]) (ByteArray.mk #[50,32,50,32,53,59,32,97,94,50,61,98])),(Sl30Row.mk 20 (ByteArray.mk #[67,49,48,120,67,50]) (ByteArray.mk #[50,32,50,32,53])),(Sl30Row.mk 20 (ByteArray.mk #[68,50,48]) (ByteArray.mk #[50,32,50,32,53,59,32,99,94,97,61,99,99,99,99])),(Sl30Row.mk 20 (ByteArray.mk #[68,105,99,50,48]) (ByteArray.mk #[50,32,50,32,53,59,32,97,94,50,61,98,59,32,99,94,97,61,99,99,99,99])),(Sl30Row.mk 20 (ByteArray.mk #[70,50,48]) (ByteArray.mk #[50,32,50,32,53,59,32,97,94,50,61,98,59,32,99,94,97,61,99,99,59,32,99,94,98,61,99,99,99,99])),(Sl30Row.mk 21 (ByteArray.mk #[67,50,49]) (ByteArray.mk #[51,32,55])),(Sl30Row.mk 21 (ByteArray.mk #[70,50,49]) (ByteArray.mk #[51,32,55,59,32,98,94,97,61,98,98])),(Sl30Row.mk 24 (ByteArray.mk #[67,50,52]) (ByteArray.mk #[50,32,50,32,50,32,51,59,32,97,94,50,61,98,59,32,98,94,50,61,99])),(Sl30Row.mk 24 (ByteArray.mk #[67,49,50,120,67,50]) (ByteArray.mk #[50,32,50,32,50,32,51,59,32,97,94,50,61,98])),(Sl30Row.mk 24 (ByteArray.mk #[67,54,120,67,50,120,67,50]) (ByteArray.mk #[50,32,50,32,50,32,51])),(Sl30Row.mk 24 (ByteArray.mk #[67,51,58,67,56]) (ByteArray.mk #[50,32,50,32,50,32,51,59,32,97,94,50,61,98,59,32,98,94,50,61,99,59,32,100,94,97,61,100,100])),(Sl30Row.mk 24 (ByteArray.mk #[68,50,52]) (ByteArray.mk #[50,32,50,32,50,32,51,59,32,98,94,50,61,99,59,32,98,94,97,61,98,99,59,32,100,94,97,61,100,100])),(Sl30Row.mk 24 (ByteArray.mk #[68,105,99,50,52]) (ByteArray.mk #[50,32,50,32,50,32,51,59,32,97,94,50,61,99,59,32,98,94,50,61,99,59,32,98,94,97,61,98,99,59,32,100,94,97,61,100,100])),(Sl30Row.mk 24 (ByteArray.mk #[83,51,120,67,52]) (ByteArray.mk #[50,32,50,32,50,32,51,59,32,98,94,50,61,99,59,32,100,94,97,61,100,100])),(Sl30Row.mk 24 (ByteArray.mk #[68,105,99,49,50,120,67,50]) (ByteArray.mk #[50,32,50,32,50,32,51,59,32,97,94,50,61,98,59,32,100,94,97,61,100,100])),(Sl30Row.mk 24 (ByteArray.mk #[68,49,50,120,67,50]) (ByteArray.mk #[50,32,50,32,50,32,51,59,32,100,94,97,61,100,100])),(Sl30Row.mk 24 (ByteArray.mk #[68,56,120,67,51]) (ByteArray.mk #[50,32,50,32,50,32,51,59,32,98,94,97,61,98,99])),(Sl30Row.mk 24 (ByteArray.mk #[81,56,120,67,51]) (ByteArray.mk #[50,32,50,32,50,32,51,59,32,97,94,50,61,99,59,32,98,94,50,61,99,59,32,98,94,97,61,98,99])),(Sl30Row.mk 24 (ByteArray.mk #[67,51,58,68,56]) (ByteArray.mk #[50,32,50,32,50,32,51,59,32,98,94,97,61,98,99,59,32,100,94,97,61,100,100])),(Sl30Row.mk 24 (ByteArray.mk #[65,52,120,67,50]) (ByteArray.mk #[50,32,51,32,50,32,50,59,32,99,94,98,61,100,59,32,100,94,98,61,99,100])),(Sl30Row.mk 24 (ByteArray.mk #[83,52]) (ByteArray.mk #[50,32,51,32,50,32,50,59,32,98,94,97,61,98,98,59,32,99,94,97,61,100,59,32,100,94,97,61,99,59,32,99,94,98,61,100,59,32,100,94,98,61,99,100])),(Sl30Row.mk 24 (ByteArray.mk #[83,76,50,51]) (ByteArray.mk #[51,32,50,32,50,32,50,59,32,98,94,50,61,100,59,32,99,94,50,61,100,59,32,98,94,97,61,99,59,32,99,94,97,61,98,99,59,32,99,94,98,61,99,100])),(Sl30Row.mk 25 (ByteArray.mk #[67,50,53]) (ByteArray.mk #[53,32,53,59,32,97,94,53,61,98])),(Sl30Row.mk 25 (ByteArray.mk #[67,53,120,67,53]) (ByteArray.mk #[53,32,53])),(Sl30Row.mk 27 (ByteArray.mk #[67,50,55]) (ByteArray.mk #[51,32,51,32,51,59,32,97,94,51,61,98,59,32,98,94,51,61,99])),(Sl30Row.mk 27 (ByteArray.mk #[67,57,120,67,51]) (ByteArray.mk #[51,32,51,32,51,59,32,97,94,51,61,98])),(Sl30Row.mk 27 (ByteArray.mk #[67,51,120,67,51,120,67,51]) (ByteArray.mk #[51,32,51,32,51])),(Sl30Row.mk 27 (ByteArray.mk #[72,50,55]) (ByteArray.mk #[51,32,51,32,51,59,32,98,94,97,61,98,99])),(Sl30Row.mk 27 (ByteArray.mk #[77,50,55]) (ByteArray.mk #[51,32,51,32,51,59,32,97,94,51,61,99,59,32,98,94,97,61,98,99])),(Sl30Row.mk 28 (ByteArray.mk #[67,50,56]) (ByteArray.mk #[50,32,50,32,55,59,32,97,94,50,61,98])),(Sl30Row.mk 28 (ByteArray.mk #[67,49,52,120,67,50]) (ByteArray.mk #[50,32,50,32,55])),(Sl30Row.mk 28 (ByteArray.mk #[68,50,56]) (ByteArray.mk #[50,32,50,32,55,59,32,99,94,97,61,99,99,99,99,99,99])),(Sl30Row.mk 28 (ByteArray.mk #[68,105,99,50,56]) (ByteArray.mk #[50,32,50,32,55,59,32,97,94,50,61,98,59,32,99,94,97,61,99,99,99,99,99,99])),(Sl30Row.mk 30 (ByteArray.mk #[67,51,48]) (ByteArray.mk #[50,32,51,32,53])),(Sl30Row.mk 30 (ByteArray.mk #[68,51,48]) (ByteArray.mk #[50,32,51,32,53,59,32,98,94,97,61,98,98,59,32,99,94,97,61,99,99,99,99])),(Sl30Row.mk 30 (ByteArray.mk #[83,51,120,67,53]) (ByteArray.mk #[50,32,51,32,53,59,32,98,94,97,61,98,98])),(Sl30Row.mk 30 (ByteArray.mk #[68,49,48,120,67,51]) (ByteArray.mk #[50,32,51,32,53,59,32,99,94,97,61,99,99,99,99]))]
def l1_aw (x0:ByteArray) (r1:(List Sl30Row)) (s1:Int × Int):Option ((Int × Int) ⊕ (Unit ⊕ (Int × Int × Int))) :=
 cond (decide (s1.2 < (r1.length:Int))) (
  cond (decide (s1.2 > 0)) (
   (ixO r1 s1.2).bind fun v2 =>
   (rng (s1.2 - 1)).bind fun v3 =>
   (ixO r1 v3).bind fun v4 =>
   cond (decide (v2.order > v4.order)) (
    (ixO r1 s1.2).bind fun v5 =>
    cond (seqB v5.name x0) (
     (ixO r1 s1.2).bind fun v6 =>
     some (.inr (.inr (v6.order,0,0)))) (
     (rng (0 + 1)).bind fun v7 =>
     (rng (s1.2 + 1)).bind fun v8 =>
     some (.inl (v7,v8)))) (
    (ixO r1 s1.2).bind fun v9 =>
    cond (seqB v9.name x0) (
     (ixO r1 s1.2).bind fun v10 =>
     some (.inr (.inr (v10.order,s1.1,0)))) (
     (rng (s1.1 + 1)).bind fun v11 =>
     (rng (s1.2 + 1)).bind fun v12 =>
     some (.inl (v11,v12))))) (
   (ixO r1 s1.2).bind fun v2 =>
   cond (seqB v2.name x0) (
    (ixO r1 s1.2).bind fun v3 =>
    some (.inr (.inr (v3.order,s1.1,0)))) (
    (rng (s1.1 + 1)).bind fun v4 =>
    (rng (s1.2 + 1)).bind fun v5 =>
    some (.inl (v4,v5))))) (
  some (.inr (.inl ())))
def f_aw (x0:ByteArray):Option (Int × Int × Int) :=
 (f_a1).bind fun r1 =>
 (loopO (l1_aw x0 r1) (0,0)).bind fun r6 =>
 match r6 with
 | (.inl _) =>
  some (0,0,4)
 | (.inr r6) =>
  some r6
def f_aW (x0:ByteArray):Option Bool :=
 (f_S x0).bind fun r1 =>
 cond (r1.2 == 0) (
  (f_aN r1.1).bind fun r2 =>
  some r2) (
  some false)
def f_ax (x0:ByteArray):Option Bool :=
 cond ((x0.size:Int) == 1) (
  (sixO x0 0).bind fun v1 =>
  cond (decide (v1 ≥ 97)) (
   (sixO x0 0).bind fun v2 =>
   some (decide (v2 ≤ 122))) (
   some false)) (
  some false)
def f_aI (x0:ByteArray):Option Bool :=
 cond (seqB x0 (ByteArray.mk #[90])) (
  some true) (
  cond (seqB x0 (ByteArray.mk #[68])) (
   some true) (
   some (seqB x0 (ByteArray.mk #[70]))))
def l1_D (x0:SNode) (_:Unit):Option (Unit ⊕ Bool) :=
 cond (x0.Kind == 4) (
  some (.inr (x0.Kind == 4))) (
  some (.inr (x0.Kind == 5)))
def f_D (x0:SNode):Option Int :=
 cond (x0.Kind == 0) (
  (f_aw x0.Text).bind fun r1 =>
  cond (r1.2.2 == 0) (
   cond (seqB x0.Mark (ByteArray.mk #[])) (
    some 0) (
    some (-1))) (
   some (-1))) (
  cond (x0.Kind == 1) (
   (f_aW x0.Text).bind fun r2 =>
   cond r2 (
    cond (seqB x0.Mark (ByteArray.mk #[])) (
     some 0) (
     some (-1))) (
    some (-1))) (
   cond (x0.Kind == 2) (
    (f_ax x0.Text).bind fun r3 =>
    cond r3 (
     cond (seqB x0.Mark (ByteArray.mk #[])) (
      some 0) (
      some (-1))) (
     some (-1))) (
    cond (x0.Kind == 3) (
     cond (seqB x0.Text (ByteArray.mk #[])) (
      cond (seqB x0.Mark (ByteArray.mk #[])) (
       some 2) (
       some (-1))) (
      some (-1))) (
     (loopO (l1_D x0) ()).bind fun r4 =>
     cond r4 (
      cond (seqB x0.Text (ByteArray.mk #[])) (
       (f_aI x0.Mark).bind fun r5 =>
       cond r5 (
        some 1) (
        some (-1))) (
       some (-1))) (
      some (-1))))))
def f_aJ (x0:Sl36Reader) (x1:Int):Option Bool :=
 cond (decide (x0.at_ < (x0.text.size:Int))) (
  (sixO x0.text x0.at_).bind fun v1 =>
  some (v1 == x1)) (
  some false)
def f_ak (x0:Sl36Reader) (x1:Int):Option Sl36Reader :=
 cond x0.failed (
  some x0) (
  (f_aJ x0 x1).bind fun r1 =>
  cond (!r1) (
   some (Sl36Reader.mk x0.text x0.at_ true)) (
   (rng (x0.at_ + 1)).bind fun v2 =>
   some (Sl36Reader.mk x0.text v2 x0.failed)))
def b_v (g_i:Sl36Reader → Option ((List SNode) × Sl36Reader)) (x0:Sl36Reader):Option ((List SNode) × Sl36Reader) :=
 cond x0.failed (
  some ([],(Sl36Reader.mk x0.text x0.at_ true))) (
  cond (decide (x0.at_ ≥ (x0.text.size:Int))) (
   some ([],(Sl36Reader.mk x0.text x0.at_ true))) (
   (rng (x0.at_ + 1)).bind fun v1 =>
   (sslO x0.text x0.at_ v1).bind fun v2 =>
   cond (seqB v2 (ByteArray.mk #[123])) (
    cond (seqB v2 (ByteArray.mk #[91])) (
     (f_K x0 93).bind fun r3 =>
     cond r3.2.failed (
      some ([],(Sl36Reader.mk r3.2.text r3.2.at_ true))) (
      (f_D (SNode.mk 1 r3.1 ByteArray.empty)).bind fun r4 =>
      cond (decide (r4 < 0)) (
       some ([],(Sl36Reader.mk r3.2.text r3.2.at_ true))) (
       (rng (r3.2.at_ + (r3.1.size:Int))).bind fun v5 =>
       (rng (v5 + 2)).bind fun v6 =>
       some ([(SNode.mk 1 r3.1 ByteArray.empty)],(Sl36Reader.mk r3.2.text v6 r3.2.failed))))) (
     (f_K x0 125).bind fun r7 =>
     cond r7.2.failed (
      some ([],(Sl36Reader.mk r7.2.text r7.2.at_ true))) (
      (f_D (SNode.mk 0 r7.1 ByteArray.empty)).bind fun r8 =>
      cond (decide (r8 < 0)) (
       some ([],(Sl36Reader.mk r7.2.text r7.2.at_ true))) (
       (rng (r7.2.at_ + (r7.1.size:Int))).bind fun v9 =>
       (rng (v9 + 2)).bind fun v10 =>
       some ([(SNode.mk 0 r7.1 ByteArray.empty)],(Sl36Reader.mk r7.2.text v10 r7.2.failed)))))) (
    cond (seqB v2 (ByteArray.mk #[91])) (
     cond (seqB v2 (ByteArray.mk #[91])) (
      (f_K x0 93).bind fun r11 =>
      cond r11.2.failed (
       some ([],(Sl36Reader.mk r11.2.text r11.2.at_ true))) (
       (f_D (SNode.mk 1 r11.1 ByteArray.empty)).bind fun r12 =>
       cond (decide (r12 < 0)) (
        some ([],(Sl36Reader.mk r11.2.text r11.2.at_ true))) (
        (rng (r11.2.at_ + (r11.1.size:Int))).bind fun v13 =>
        (rng (v13 + 2)).bind fun v14 =>
        some ([(SNode.mk 1 r11.1 ByteArray.empty)],(Sl36Reader.mk r11.2.text v14 r11.2.failed))))) (
      (f_K x0 125).bind fun r15 =>
      cond r15.2.failed (
       some ([],(Sl36Reader.mk r15.2.text r15.2.at_ true))) (
       (f_D (SNode.mk 0 r15.1 ByteArray.empty)).bind fun r16 =>
       cond (decide (r16 < 0)) (
        some ([],(Sl36Reader.mk r15.2.text r15.2.at_ true))) (
        (rng (r15.2.at_ + (r15.1.size:Int))).bind fun v17 =>
        (rng (v17 + 2)).bind fun v18 =>
        some ([(SNode.mk 0 r15.1 ByteArray.empty)],(Sl36Reader.mk r15.2.text v18 r15.2.failed)))))) (
     (f_ax v2).bind fun r19 =>
     cond r19 (
      (rng (x0.at_ + 1)).bind fun v20 =>
      some ([(SNode.mk 2 v2 ByteArray.empty)],(Sl36Reader.mk x0.text v20 x0.failed))) (
      cond (seqB v2 (ByteArray.mk #[40])) (
       (rng (x0.at_ + 1)).bind fun v21 =>
       (g_i (Sl36Reader.mk x0.text v21 x0.failed)).bind fun r22 =>
       (f_ak r22.2 41).bind fun r23 =>
       some (r22.1,r23)) (
       (f_aI v2).bind fun r24 =>
       cond r24 (
        (rng (x0.at_ + 1)).bind fun v25 =>
        (f_ak (Sl36Reader.mk x0.text v25 x0.failed) 40).bind fun r26 =>
        (g_i r26).bind fun r27 =>
        (f_ak r27.2 41).bind fun r28 =>
        (appO [(SNode.mk 5 ByteArray.empty v2)] r27.1).bind fun v29 =>
        some (v29,r28)) (
        some ([],(Sl36Reader.mk x0.text x0.at_ true)))))))))
def l1_i (g_h:Sl36Reader → Option ((List SNode) × Sl36Reader)) (s1:ByteArray × Int × Bool × (List SNode)):Option ((ByteArray × Int × Bool × (List SNode)) ⊕ (ByteArray × Int × Bool × (List SNode))) :=
 cond (!s1.2.2.1) (
  (f_aJ (Sl36Reader.mk s1.1 s1.2.1 s1.2.2.1) 43).bind fun r2 =>
  cond r2 (
   (rng (s1.2.1 + 1)).bind fun v3 =>
   (g_h (Sl36Reader.mk s1.1 v3 s1.2.2.1)).bind fun r4 =>
   (appO [(SNode.mk 3 ByteArray.empty ByteArray.empty)] s1.2.2.2).bind fun v5 =>
   (appO v5 r4.1).bind fun v6 =>
   some (.inl (r4.2.text,r4.2.at_,r4.2.failed,v6))) (
   some (.inr (s1.1,s1.2.1,s1.2.2.1,s1.2.2.2)))) (
  some (.inr (s1.1,s1.2.1,s1.2.2.1,s1.2.2.2)))
def b_i (g_h:Sl36Reader → Option ((List SNode) × Sl36Reader)) (x0:Sl36Reader):Option ((List SNode) × Sl36Reader) :=
 (g_h x0).bind fun r1 =>
 (loopO (l1_i g_h) (r1.2.text,r1.2.at_,r1.2.failed,r1.1)).bind fun r7 =>
 some (r7.2.2.2,(Sl36Reader.mk r7.1 r7.2.1 r7.2.2.1))
def l1_h (r1:(List SNode) × Sl36Reader) (s1:Int × (List SNode)):Option ((Int × (List SNode)) ⊕ ((Int × (List SNode)) ⊕ ((List SNode) × Sl36Reader))) :=
 cond (!r1.2.failed) (
  (f_aJ (Sl36Reader.mk r1.2.text s1.1 r1.2.failed) 47).bind fun r2 =>
  cond r2 (
   (rng (s1.1 + 1)).bind fun v3 =>
   cond (decide (v3 ≥ (r1.2.text.size:Int))) (
    some (.inr (.inr ([],(Sl36Reader.mk r1.2.text v3 true))))) (
    (rng (v3 + 1)).bind fun v4 =>
    (sslO r1.2.text v3 v4).bind fun v5 =>
    (f_aI v5).bind fun r6 =>
    cond (!r6) (
     some (.inr (.inr ([],(Sl36Reader.mk r1.2.text v3 true))))) (
     (rng (v3 + 1)).bind fun v7 =>
     (sslO r1.2.text v3 v7).bind fun v8 =>
     (appO [(SNode.mk 4 ByteArray.empty v8)] s1.2).bind fun v9 =>
     (rng (v3 + 1)).bind fun v10 =>
     some (.inl (v10,v9))))) (
   some (.inr (.inl (s1.1,s1.2))))) (
  some (.inr (.inl (s1.1,s1.2))))
def b_h (g_v:Sl36Reader → Option ((List SNode) × Sl36Reader)) (x0:Sl36Reader):Option ((List SNode) × Sl36Reader) :=
 (g_v x0).bind fun r1 =>
 (loopO (l1_h r1) (r1.2.at_,r1.1)).bind fun r11 =>
 match r11 with
 | (.inl r11) =>
  some (r11.2,(Sl36Reader.mk r1.2.text r11.1 r1.2.failed))
 | (.inr r11) =>
  some r11
mutual
def fN_v:Nat → Sl36Reader → Option ((List SNode) × Sl36Reader)
 | 0 => fun _ => none
 | n + 1 => b_v (fN_i n)
def fN_i:Nat → Sl36Reader → Option ((List SNode) × Sl36Reader)
 | 0 => fun _ => none
 | n + 1 => b_i (fN_h n)
def fN_h:Nat → Sl36Reader → Option ((List SNode) × Sl36Reader)
 | 0 => fun _ => none
 | n + 1 => b_h (fN_v n)
end
def f_i (x0:Sl36Reader):Option ((List SNode) × Sl36Reader):=fuelO fun n => fN_i n x0
def f_bb (x0:ByteArray):Option ((List SNode) × Int × Int) :=
 cond (decide ((x0.size:Int) > 300)) (
  some ([],0,3)) (
  (f_i (Sl36Reader.mk x0 0 false)).bind fun r1 =>
  cond r1.2.failed (
   some ([],r1.2.at_,6)) (
   cond (decide (r1.2.at_ < (x0.size:Int))) (
    some ([],r1.2.at_,6)) (
    cond (decide ((r1.1.length:Int) > 30)) (
     some ([],0,3)) (
     some (r1.1,0,0)))))
def f_aK (x0:SexprReader):Option Int :=
 cond (x0.at_ == (x0.text.size:Int)) (
  some 0) (
  (sixO x0.text x0.at_).bind fun v1 =>
  some v1)
def l1_H (x0:Int) (v1:List Int) (s1:(List Int) × Int):Option (((List Int) × Int) ⊕ ((List Int) ⊕ ((List Int) × Bool))) :=
 cond (decide (s1.2 < (v1.length:Int))) (
  (ixO v1 s1.2).bind fun v2 =>
  (rng ((IntKind.wrap .i64 v2) - 97)).bind fun v3 =>
  (rng (v3 + 1)).bind fun v4 =>
  cond (decide (v2 < 97)) (
   (rng (65 - (IntKind.wrap .i64 v2))).bind fun v5 =>
   (rng (v5 - 1)).bind fun v6 =>
   cond (decide (v2 < 65)) (
    some (.inr (.inr ([],false)))) (
    cond (v6 == 0) (
     some (.inr (.inr ([],false)))) (
     (rng (0 - x0)).bind fun v7 =>
     (f_ar v6 v7 x0).bind fun r8 =>
     cond (!r8) (
      some (.inr (.inr ([],false)))) (
      (appO s1.1 [v6]).bind fun v9 =>
      (rng (s1.2 + 1)).bind fun v10 =>
      some (.inl (v9,v10)))))) (
   cond (decide (v2 < 65)) (
    some (.inr (.inr ([],false)))) (
    cond (v4 == 0) (
     some (.inr (.inr ([],false)))) (
     (rng (0 - x0)).bind fun v11 =>
     (f_ar v4 v11 x0).bind fun r12 =>
     cond (!r12) (
      some (.inr (.inr ([],false)))) (
      (appO s1.1 [v4]).bind fun v13 =>
      (rng (s1.2 + 1)).bind fun v14 =>
      some (.inl (v13,v14))))))) (
  some (.inr (.inl s1.1)))
def f_H (x0:Int) (x1:ByteArray):Option ((List Int) × Bool) :=
 cond (seqB x1 (ByteArray.mk #[49])) (
  some ([],true)) (
  (s2bO x1).bind fun v1 =>
  (loopO (l1_H x0 v1) ([],0)).bind fun r15 =>
  match r15 with
  | (.inl r15) =>
   some (r15,(!seqB x1 (ByteArray.mk #[])))
  | (.inr r15) =>
   some r15)
def l1_J (r1:(List Int) × Bool) (s1:(List Int) × Int):Option (((List Int) × Int) ⊕ ((List Int) ⊕ ((List Int) × Bool))) :=
 cond (decide (s1.2 < (r1.1.length:Int))) (
  (ixO r1.1 s1.2).bind fun v3 =>
  cond (decide (v3 < 0)) (
   some (.inr (.inr ([],false)))) (
   (rng (v3 - 1)).bind fun v4 =>
   (ixO s1.1 v4).bind fun v5 =>
   (rng (v5 + 1)).bind fun v6 =>
   (ixO s1.1 v4).bind fun _ =>
   (rng (s1.2 + 1)).bind fun v8 =>
   some (.inl (s1.1.set v4.toNat v6,v8)))) (
  some (.inr (.inl s1.1)))
def f_J (x0:Int) (x1:ByteArray):Option ((List Int) × Bool) :=
 (f_H x0 x1).bind fun r1 =>
 (lenOk x0).bind fun m2 =>
 (loopO (l1_J r1) (List.replicate m2 (0:Int),0)).bind fun r9 =>
 match r9 with
 | (.inl r9) =>
  some (r9,r1.2)
 | (.inr r9) =>
  some r9
def f_X (x0:Int) (x1:ByteArray):Option (Int × Bool) :=
 cond ((x1.size:Int) != 1) (
  some (0,false)) (
  (sixO x1 0).bind fun v1 =>
  cond (decide (v1 < 97)) (
   some (0,false)) (
   (sixO x1 0).bind fun v2 =>
   cond (decide ((IntKind.wrap .i64 (IntKind.wrap .u8 (v2 - 97))) ≥ x0)) (
    some (0,false)) (
    (sixO x1 0).bind fun v3 =>
    some ((IntKind.wrap .i64 (IntKind.wrap .u8 (v3 - 97))),true))))
def f_ai (x0:Int):Option ByteArray :=
 (rng (97 + x0)).bind fun v1 =>
 some (r2s (IntKind.wrap .i32 v1))
def l1_P (x0:List Int) (s1:(List Int) × Int):Option (((List Int) × Int) ⊕ (List Int)) :=
 cond (decide (s1.2 < (x0.length:Int))) (
  (ixO x0 s1.2).bind fun v1 =>
  cond (decide (v1 > 0)) (
   (rng (97 + v1)).bind fun v2 =>
   (rng (v2 - 1)).bind fun v3 =>
   (appO s1.1 [(IntKind.wrap .u8 v3)]).bind fun v4 =>
   (rng (s1.2 + 1)).bind fun v5 =>
   some (.inl (v4,v5))) (
   (rng (65 - v1)).bind fun v6 =>
   (rng (v6 - 1)).bind fun v7 =>
   (appO s1.1 [(IntKind.wrap .u8 v7)]).bind fun v8 =>
   (rng (s1.2 + 1)).bind fun v9 =>
   some (.inl (v8,v9)))) (
  some (.inr s1.1))
def f_P (x0:List Int):Option ByteArray :=
 cond ((x0.length:Int) == 0) (
  some (ByteArray.mk #[49])) (
  (loopO (l1_P x0) ([],0)).bind fun r10 =>
  some (b2s r10))
def l1_g (x0:SPr) (s1:(List ByteArray) × Int):Option (((List ByteArray) × Int) ⊕ (List ByteArray)) :=
 cond (decide (s1.2 < (x0.Orders.length:Int))) (
  (ixO x0.Orders s1.2).bind fun v1 =>
  (f_aA v1 10).bind fun r2 =>
  (appO s1.1 [r2]).bind fun v3 =>
  (rng (s1.2 + 1)).bind fun v4 =>
  some (.inl (v3,v4))) (
  some (.inr s1.1))
def l2_g (x0:SPr) (s3:(List ByteArray) × Int):Option (((List ByteArray) × Int) ⊕ (List ByteArray)) :=
 cond (decide (s3.2 < (x0.Powers.length:Int))) (
  (ixO x0.Powers s3.2).bind fun v7 =>
  (f_ae v7).bind fun r8 =>
  cond (!r8) (
   (f_ai s3.2).bind fun r9 =>
   (scatO r9 (ByteArray.mk #[94])).bind fun v10 =>
   (ixO [(ByteArray.mk #[49])] s3.2).bind fun v11 =>
   (scatO v10 v11).bind fun v12 =>
   (scatO v12 (ByteArray.mk #[61])).bind fun v13 =>
   (f_B v7).bind fun r14 =>
   (f_P r14).bind fun r15 =>
   (scatO v13 r15).bind fun v16 =>
   (appO s3.1 [v16]).bind fun v17 =>
   (rng (s3.2 + 1)).bind fun v18 =>
   some (.inl (v17,v18))) (
   (rng (s3.2 + 1)).bind fun v19 =>
   some (.inl (s3.1,v19)))) (
  some (.inr s3.1))
def l3_g (s9:(List ByteArray) × Int) (v21:List (List Int)) (s10:(List ByteArray) × Int):Option (((List ByteArray) × Int) ⊕ (List ByteArray)) :=
 cond (decide (s10.2 < (v21.length:Int))) (
  (ixO v21 s10.2).bind fun v22 =>
  (rng (s9.2 + 1)).bind fun v23 =>
  (rng (v23 + s10.2)).bind fun v24 =>
  (f_au (v22.length:Int) v24).bind fun r25 =>
  (f_af v22 r25).bind fun r26 =>
  cond (!r26) (
   (f_ai v24).bind fun r27 =>
   (scatO r27 (ByteArray.mk #[94])).bind fun v28 =>
   (f_ai s9.2).bind fun r29 =>
   (scatO v28 r29).bind fun v30 =>
   (scatO v30 (ByteArray.mk #[61])).bind fun v31 =>
   (f_B v22).bind fun r32 =>
   (f_P r32).bind fun r33 =>
   (scatO v31 r33).bind fun v34 =>
   (appO s10.1 [v34]).bind fun v35 =>
   (rng (s10.2 + 1)).bind fun v36 =>
   some (.inl (v35,v36))) (
   (rng (s10.2 + 1)).bind fun v37 =>
   some (.inl (s10.1,v37)))) (
  some (.inr s10.1))
def l4_g (x0:SPr) (s9:(List ByteArray) × Int):Option (((List ByteArray) × Int) ⊕ (List ByteArray)) :=
 cond (decide (s9.2 < (x0.Orders.length:Int))) (
  (ixO x0.Conjugates s9.2).bind fun v21 =>
  (loopO (l3_g s9 v21) (s9.1,0)).bind fun r38 =>
  (rng (s9.2 + 1)).bind fun v39 =>
  some (.inl (r38,v39))) (
  some (.inr s9.1))
def l5_g (x0:SPr) (r5:(List ByteArray)) (s13:(List ByteArray) × Int):Option (((List ByteArray) × Int) ⊕ (List ByteArray)) :=
 cond (decide (s13.2 < (x0.Powers.length:Int))) (
  (ixO x0.Powers s13.2).bind fun v43 =>
  (f_ae v43).bind fun r44 =>
  cond (!r44) (
   (f_ai s13.2).bind fun r45 =>
   (scatO r45 (ByteArray.mk #[94])).bind fun v46 =>
   (ixO r5 s13.2).bind fun v47 =>
   (scatO v46 v47).bind fun v48 =>
   (scatO v48 (ByteArray.mk #[61])).bind fun v49 =>
   (f_B v43).bind fun r50 =>
   (f_P r50).bind fun r51 =>
   (scatO v49 r51).bind fun v52 =>
   (appO s13.1 [v52]).bind fun v53 =>
   (rng (s13.2 + 1)).bind fun v54 =>
   some (.inl (v53,v54))) (
   (rng (s13.2 + 1)).bind fun v55 =>
   some (.inl (s13.1,v55)))) (
  some (.inr s13.1))
def l6_g (s19:(List ByteArray) × Int) (v57:List (List Int)) (s20:(List ByteArray) × Int):Option (((List ByteArray) × Int) ⊕ (List ByteArray)) :=
 cond (decide (s20.2 < (v57.length:Int))) (
  (ixO v57 s20.2).bind fun v58 =>
  (rng (s19.2 + 1)).bind fun v59 =>
  (rng (v59 + s20.2)).bind fun v60 =>
  (f_au (v58.length:Int) v60).bind fun r61 =>
  (f_af v58 r61).bind fun r62 =>
  cond (!r62) (
   (f_ai v60).bind fun r63 =>
   (scatO r63 (ByteArray.mk #[94])).bind fun v64 =>
   (f_ai s19.2).bind fun r65 =>
   (scatO v64 r65).bind fun v66 =>
   (scatO v66 (ByteArray.mk #[61])).bind fun v67 =>
   (f_B v58).bind fun r68 =>
   (f_P r68).bind fun r69 =>
   (scatO v67 r69).bind fun v70 =>
   (appO s20.1 [v70]).bind fun v71 =>
   (rng (s20.2 + 1)).bind fun v72 =>
   some (.inl (v71,v72))) (
   (rng (s20.2 + 1)).bind fun v73 =>
   some (.inl (s20.1,v73)))) (
  some (.inr s20.1))
def l7_g (x0:SPr) (s19:(List ByteArray) × Int):Option (((List ByteArray) × Int) ⊕ (List ByteArray)) :=
 cond (decide (s19.2 < (x0.Orders.length:Int))) (
  (ixO x0.Conjugates s19.2).bind fun v57 =>
  (loopO (l6_g s19 v57) (s19.1,0)).bind fun r74 =>
  (rng (s19.2 + 1)).bind fun v75 =>
  some (.inl (r74,v75))) (
  some (.inr s19.1))
def f_g (x0:SPr):Option ByteArray :=
 (loopO (l1_g x0) ([],0)).bind fun r5 =>
 cond ((r5.length:Int) == 0) (
  (f_N [(ByteArray.mk #[49])] (ByteArray.mk #[32])).bind fun r6 =>
  (loopO (l2_g x0) ([r6],0)).bind fun r20 =>
  (loopO (l4_g x0) (r20,0)).bind fun r40 =>
  (f_N r40 (ByteArray.mk #[59,32])).bind fun r41 =>
  some r41) (
  (f_N r5 (ByteArray.mk #[32])).bind fun r42 =>
  (loopO (l5_g x0 r5) ([r42],0)).bind fun r56 =>
  (loopO (l7_g x0) (r56,0)).bind fun r76 =>
  (f_N r76 (ByteArray.mk #[59,32])).bind fun r77 =>
  some r77)
def l1_m (r4:(List ByteArray)) (s1:(List Int) × Int):Option (((List Int) × Int) ⊕ ((List Int) ⊕ (SPr × Bool))) :=
 cond (decide (s1.2 < (r4.length:Int))) (
  (ixO r4 s1.2).bind fun v5 =>
  (f_ad v5 10 64).bind fun r6 =>
  cond r6.2 (
   some (.inr (.inr ((SPr.mk [] [] []),false)))) (
   (appO s1.1 [r6.1]).bind fun v7 =>
   (rng (s1.2 + 1)).bind fun v8 =>
   some (.inl (v7,v8)))) (
  some (.inr (.inl s1.1)))
def l2_m (r9:(List Int)) (v11:List ByteArray) (s3:(List (List Int)) × (List (List (List Int))) × Int):Option (((List (List Int)) × (List (List (List Int))) × Int) ⊕ (((List (List Int)) × (List (List (List Int)))) ⊕ (SPr × Bool))) :=
 cond (decide (s3.2.2 < (v11.length:Int))) (
  (ixO v11 s3.2.2).bind fun v12 =>
  (f_E v12 (ByteArray.mk #[61])).bind fun r13 =>
  (f_E r13.1 (ByteArray.mk #[94])).bind fun r14 =>
  (f_J (r9.length:Int) r13.2.1).bind fun r15 =>
  (f_X (r9.length:Int) r14.1).bind fun r16 =>
  cond (!r15.2) (
   some (.inr (.inr ((SPr.mk [] [] []),false)))) (
   cond (!r16.2) (
    some (.inr (.inr ((SPr.mk [] [] []),false)))) (
    (f_X (r9.length:Int) r14.2.1).bind fun r17 =>
    cond (!r17.2) (
     (ixO s3.1 r16.1).bind fun _ =>
     (rng (s3.2.2 + 1)).bind fun v19 =>
     some (.inl (s3.1.set r16.1.toNat r15.1,s3.2.1,v19))) (
     cond (decide (r17.1 < r16.1)) (
      (ixO s3.2.1 r17.1).bind fun v20 =>
      (rng (r16.1 - r17.1)).bind fun v21 =>
      (rng (v21 - 1)).bind fun v22 =>
      (ixO v20 v22).bind fun _ =>
      (rng (s3.2.2 + 1)).bind fun v24 =>
      some (.inl (s3.1,s3.2.1.set r17.1.toNat (v20.set v22.toNat r15.1),v24))) (
      (rng (s3.2.2 + 1)).bind fun v25 =>
      some (.inl (s3.1,s3.2.1,v25))))))) (
  some (.inr (.inl (s3.1,s3.2.1))))
def l3_m (v30:List ByteArray) (s5:(List (List Int)) × (List (List (List Int))) × Int):Option (((List (List Int)) × (List (List (List Int))) × Int) ⊕ (((List (List Int)) × (List (List (List Int)))) ⊕ (SPr × Bool))) :=
 cond (decide (s5.2.2 < (v30.length:Int))) (
  (ixO v30 s5.2.2).bind fun v31 =>
  (f_E v31 (ByteArray.mk #[61])).bind fun r32 =>
  (f_E r32.1 (ByteArray.mk #[94])).bind fun r33 =>
  (f_J (([]:List Int).length:Int) r32.2.1).bind fun r34 =>
  (f_X (([]:List Int).length:Int) r33.1).bind fun r35 =>
  cond (!r34.2) (
   some (.inr (.inr ((SPr.mk [] [] []),false)))) (
   cond (!r35.2) (
    some (.inr (.inr ((SPr.mk [] [] []),false)))) (
    (f_X (([]:List Int).length:Int) r33.2.1).bind fun r36 =>
    cond (!r36.2) (
     (ixO s5.1 r35.1).bind fun _ =>
     (rng (s5.2.2 + 1)).bind fun v38 =>
     some (.inl (s5.1.set r35.1.toNat r34.1,s5.2.1,v38))) (
     cond (decide (r36.1 < r35.1)) (
      (ixO s5.2.1 r36.1).bind fun v39 =>
      (rng (r35.1 - r36.1)).bind fun v40 =>
      (rng (v40 - 1)).bind fun v41 =>
      (ixO v39 v41).bind fun _ =>
      (rng (s5.2.2 + 1)).bind fun v43 =>
      some (.inl (s5.1,s5.2.1.set r36.1.toNat (v39.set v41.toNat r34.1),v43))) (
      (rng (s5.2.2 + 1)).bind fun v44 =>
      some (.inl (s5.1,s5.2.1,v44))))))) (
  some (.inr (.inl (s5.1,s5.2.1))))
def f_m (x0:ByteArray):Option (SPr × Bool) :=
 (f_L x0 (ByteArray.mk #[59,32])).bind fun r1 =>
 (ixO r1 0).bind fun v2 =>
 cond (!seqB v2 (ByteArray.mk #[49])) (
  (ixO r1 0).bind fun v3 =>
  (f_L v3 (ByteArray.mk #[32])).bind fun r4 =>
  (loopO (l1_m r4) ([],0)).bind fun r9 =>
  match r9 with
  | (.inl r9) =>
   cond (decide ((r9.length:Int) > 6)) (
    some ((SPr.mk [] [] []),false)) (
    (f_C r9).bind fun r10 =>
    (sliceO r1 1 r1.length).bind fun v11 =>
    (loopO (l2_m r9 v11) (r10.Powers,r10.Conjugates,0)).bind fun r26 =>
    match r26 with
    | (.inl r26) =>
     (f_s (SPr.mk r10.Orders r26.1 r26.2)).bind fun r27 =>
     cond (!r27) (
      some ((SPr.mk [] [] []),false)) (
      (f_g (SPr.mk r10.Orders r26.1 r26.2)).bind fun r28 =>
      cond (!seqB r28 x0) (
       some ((SPr.mk [] [] []),false)) (
       some ((SPr.mk r10.Orders r26.1 r26.2),true)))
    | (.inr r26) =>
     some r26)
  | (.inr r9) =>
   some r9) (
  cond (decide ((([]:List Int).length:Int) > 6)) (
   some ((SPr.mk [] [] []),false)) (
   (f_C []).bind fun r29 =>
   (sliceO r1 1 r1.length).bind fun v30 =>
   (loopO (l3_m v30) (r29.Powers,r29.Conjugates,0)).bind fun r45 =>
   match r45 with
   | (.inl r45) =>
    (f_s (SPr.mk r29.Orders r45.1 r45.2)).bind fun r46 =>
    cond (!r46) (
     some ((SPr.mk [] [] []),false)) (
     (f_g (SPr.mk r29.Orders r45.1 r45.2)).bind fun r47 =>
     cond (!seqB r47 x0) (
      some ((SPr.mk [] [] []),false)) (
      some ((SPr.mk r29.Orders r45.1 r45.2),true)))
   | (.inr r45) =>
    some r45))
def f_a2 (x0:SlibraryGroup):Option SPr :=
 (f_m x0.text).bind fun r1 =>
 some r1.1
def l1_av (x0:ByteArray) (r1:(List SlibraryGroup)) (s1:Int):Option (Int ⊕ (Unit ⊕ (SPr × Int))) :=
 cond (decide (s1 < (r1.length:Int))) (
  (ixO r1 s1).bind fun v2 =>
  cond (seqB v2.name x0) (
   (f_a2 v2).bind fun r3 =>
   some (.inr (.inr (r3,0)))) (
   (rng (s1 + 1)).bind fun v4 =>
   some (.inl v4))) (
  some (.inr (.inl ())))
def f_av (x0:ByteArray):Option (SPr × Int) :=
 (f_aF).bind fun r1 =>
 (loopO (l1_av x0 r1) 0).bind fun r5 =>
 match r5 with
 | (.inl _) =>
  some ((SPr.mk [] [] []),4)
 | (.inr r5) =>
  some r5
def f_aV (x0:ByteArray):Option Bool :=
 (f_m x0).bind fun r1 =>
 cond r1.2 (
  (f_a0 r1.1).bind fun r2 =>
  some r2) (
  some false)
def f_aj (x0:ByteArray):Option Bool :=
 cond ((x0.size:Int) == 1) (
  (sixO x0 0).bind fun v1 =>
  cond (decide (v1 ≥ 97)) (
   (sixO x0 0).bind fun v2 =>
   some (decide (v2 ≤ 122))) (
   some false)) (
  some false)
def f_aG (x0:ByteArray):Option Bool :=
 cond (seqB x0 (ByteArray.mk #[90])) (
  some true) (
  cond (seqB x0 (ByteArray.mk #[68])) (
   some true) (
   some (seqB x0 (ByteArray.mk #[70]))))
def l1_q (x0:SNode) (r1:SPr × Int) (_:Unit):Option (Unit ⊕ Bool) :=
 cond (x0.Kind == 0) (
  cond (r1.2 == 0) (
   some (.inr (seqB x0.Mark (ByteArray.mk #[])))) (
   some (.inr false))) (
  some (.inr false))
def l2_q (x0:SNode) (_:Unit):Option (Unit ⊕ Bool) :=
 cond (x0.Kind == 1) (
  (f_aV x0.Text).bind fun r3 =>
  cond r3 (
   some (.inr (seqB x0.Mark (ByteArray.mk #[])))) (
   some (.inr false))) (
  some (.inr false))
def l3_q (x0:SNode) (_:Unit):Option (Unit ⊕ Bool) :=
 cond (x0.Kind == 2) (
  (f_aj x0.Text).bind fun r5 =>
  cond r5 (
   some (.inr (seqB x0.Mark (ByteArray.mk #[])))) (
   some (.inr false))) (
  some (.inr false))
def l4_q (x0:SNode) (_:Unit):Option (Unit ⊕ Bool) :=
 cond (x0.Kind == 3) (
  cond (seqB x0.Text (ByteArray.mk #[])) (
   some (.inr (seqB x0.Mark (ByteArray.mk #[])))) (
   some (.inr false))) (
  some (.inr false))
def f_q (x0:SNode):Option Int :=
 (f_av x0.Text).bind fun r1 =>
 (loopO (l1_q x0 r1) ()).bind fun r2 =>
 cond r2 (
  some 0) (
  (loopO (l2_q x0) ()).bind fun r4 =>
  cond r4 (
   some 0) (
   (loopO (l3_q x0) ()).bind fun r6 =>
   cond r6 (
    some 0) (
    (loopO (l4_q x0) ()).bind fun r7 =>
    cond r7 (
     some 2) (
     cond (x0.Kind == 4) (
      cond (seqB x0.Text (ByteArray.mk #[])) (
       (f_aG x0.Mark).bind fun r8 =>
       cond r8 (
        some 1) (
        some (-1))) (
       some (-1))) (
      cond (x0.Kind == 5) (
       cond (seqB x0.Text (ByteArray.mk #[])) (
        (f_aG x0.Mark).bind fun r9 =>
        cond r9 (
         some 1) (
         some (-1))) (
        some (-1))) (
       some (-1)))))))
def f_ay (x0:SexprReader) (x1:Int) (x2:Int):Option ((List SNode) × Bool × SexprReader) :=
 (sslO x0.text x0.at_ (x0.text.size:Int)).bind fun v1 =>
 (f_az v1 x1).bind fun r2 =>
 cond (decide (r2 < 0)) (
  some ([],false,x0)) (
  (rng (x0.at_ + 1)).bind fun v3 =>
  (rng (x0.at_ + r2)).bind fun v4 =>
  (sslO x0.text v3 v4).bind fun v5 =>
  (f_q (SNode.mk x2 v5 ByteArray.empty)).bind fun r6 =>
  cond (decide (r6 < 0)) (
   some ([],false,x0)) (
   (rng (r2 + 1)).bind fun v7 =>
   (rng (x0.at_ + v7)).bind fun v8 =>
   some ([(SNode.mk x2 v5 ByteArray.empty)],true,(SexprReader.mk x0.text v8))))
def f_aq (x0:SexprReader) (x1:Int):Option (Bool × SexprReader) :=
 cond (x0.at_ == (x0.text.size:Int)) (
  some (false,x0)) (
  (sixO x0.text x0.at_).bind fun v1 =>
  cond (v1 != x1) (
   some (false,x0)) (
   (rng (x0.at_ + 1)).bind fun v2 =>
   some (true,(SexprReader.mk x0.text v2))))
def f_ah (x0:SexprReader):Option (ByteArray × Bool × SexprReader) :=
 (f_aK x0).bind fun r1 =>
 (f_aG (b2s [r1])).bind fun r2 =>
 cond (!r2) (
  some ((ByteArray.mk #[]),false,x0)) (
  (rng (x0.at_ + 1)).bind fun v3 =>
  some ((b2s [r1]),true,(SexprReader.mk x0.text v3)))
def f_aL (x1:Int):Option (List SNode) :=
 cond (decide (x1 < 0)) (
  none) (
  (rng (0 - 0)).bind fun v1 =>
  (rng (x1 - v1)).bind fun v2 =>
  cond (decide (v2 > 0)) (
   (appzO [] v2 ((SNode.mk 0 ByteArray.empty ByteArray.empty):SNode)).bind fun v3 =>
   (sliceO v3 0 0).bind fun v4 =>
   some v4) (
   some []))
def l1_y (x0:List (List SNode)) (s1:Int × Int):Option ((Int × Int) ⊕ Int) :=
 cond (decide (s1.2 < (x0.length:Int))) (
  (ixO x0 s1.2).bind fun v1 =>
  (rng (s1.1 + (v1.length:Int))).bind fun v2 =>
  cond (decide (v2 < 0)) (
   none) (
   (rng (s1.2 + 1)).bind fun v3 =>
   some (.inl (v2,v3)))) (
  some (.inr s1.1))
def l2_y (x0:List (List SNode)) (s3:(List SNode) × Int):Option (((List SNode) × Int) ⊕ (List SNode)) :=
 cond (decide (s3.2 < (x0.length:Int))) (
  (ixO x0 s3.2).bind fun v6 =>
  (appO s3.1 v6).bind fun v7 =>
  (rng (s3.2 + 1)).bind fun v8 =>
  some (.inl (v7,v8))) (
  some (.inr s3.1))
def f_y (x0:List (List SNode)):Option (List SNode) :=
 (loopO (l1_y x0) (0,0)).bind fun r4 =>
 (f_aL r4).bind fun r5 =>
 (loopO (l2_y x0) (r5,0)).bind fun r9 =>
 some r9
def b_w (g_r:SexprReader → Option ((List SNode) × Bool × SexprReader)) (x0:SexprReader):Option ((List SNode) × Bool × SexprReader) :=
 (f_aK x0).bind fun r1 =>
 cond (r1 == 123) (
  (f_ay x0 125 0).bind fun r2 =>
  some (r2.1,r2.2.1,r2.2.2)) (
  cond (r1 == 91) (
   (f_ay x0 93 1).bind fun r3 =>
   some (r3.1,r3.2.1,r3.2.2)) (
   cond (decide (r1 ≥ 97)) (
    cond (decide (r1 ≤ 122)) (
     (rng (x0.at_ + 1)).bind fun v4 =>
     some ([(SNode.mk 2 (b2s [r1]) ByteArray.empty)],true,(SexprReader.mk x0.text v4))) (
     cond (r1 == 40) (
      (g_r x0).bind fun r5 =>
      some (r5.1,r5.2.1,r5.2.2)) (
      (f_ah x0).bind fun r6 =>
      cond (!r6.2.1) (
       some ([],false,r6.2.2)) (
       (g_r r6.2.2).bind fun r7 =>
       (f_y [[(SNode.mk 5 ByteArray.empty r6.1)],r7.1]).bind fun r8 =>
       some (r8,r7.2.1,r7.2.2))))) (
    cond (r1 == 40) (
     (g_r x0).bind fun r9 =>
     some (r9.1,r9.2.1,r9.2.2)) (
     (f_ah x0).bind fun r10 =>
     cond (!r10.2.1) (
      some ([],false,r10.2.2)) (
      (g_r r10.2.2).bind fun r11 =>
      (f_y [[(SNode.mk 5 ByteArray.empty r10.1)],r11.1]).bind fun r12 =>
      some (r12,r11.2.1,r11.2.2))))))
def b_r (g_j:SexprReader → Option ((List SNode) × Bool × SexprReader)) (x0:SexprReader):Option ((List SNode) × Bool × SexprReader) :=
 (f_aq x0 40).bind fun r1 =>
 cond (!r1.1) (
  some ([],false,r1.2)) (
  (g_j r1.2).bind fun r2 =>
  cond r2.2.1 (
   (f_aq r2.2.2 41).bind fun r3 =>
   some (r2.1,r3.1,r3.2)) (
   some (r2.1,false,r2.2.2)))
def l1_j (g_k:SexprReader → Option ((List SNode) × Bool × SexprReader)) (s1:ByteArray × Int × (List SNode) × Bool):Option ((ByteArray × Int × (List SNode) × Bool) ⊕ (ByteArray × Int × (List SNode) × Bool)) :=
 cond s1.2.2.2 (
  (f_aq (SexprReader.mk s1.1 s1.2.1) 43).bind fun r2 =>
  cond r2.1 (
   (g_k r2.2).bind fun r3 =>
   (f_y [[(SNode.mk 3 ByteArray.empty ByteArray.empty)],s1.2.2.1,r3.1]).bind fun r4 =>
   some (.inl (r3.2.2.text,r3.2.2.at_,r4,r3.2.1))) (
   some (.inr (r2.2.text,r2.2.at_,s1.2.2.1,s1.2.2.2)))) (
  some (.inr (s1.1,s1.2.1,s1.2.2.1,s1.2.2.2)))
def b_j (g_k:SexprReader → Option ((List SNode) × Bool × SexprReader)) (x0:SexprReader):Option ((List SNode) × Bool × SexprReader) :=
 (g_k x0).bind fun r1 =>
 (loopO (l1_j g_k) (r1.2.2.text,r1.2.2.at_,r1.1,r1.2.1)).bind fun r5 =>
 some (r5.2.2.1,r5.2.2.2,(SexprReader.mk r5.1 r5.2.1))
def l1_k  (s1:ByteArray × Int × (List SNode) × Bool):Option ((ByteArray × Int × (List SNode) × Bool) ⊕ (ByteArray × Int × (List SNode) × Bool)) :=
 cond s1.2.2.2 (
  (f_aq (SexprReader.mk s1.1 s1.2.1) 47).bind fun r2 =>
  cond r2.1 (
   (f_ah r2.2).bind fun r3 =>
   (f_y [[(SNode.mk 4 ByteArray.empty r3.1)],s1.2.2.1]).bind fun r4 =>
   some (.inl (r3.2.2.text,r3.2.2.at_,r4,r3.2.1))) (
   some (.inr (r2.2.text,r2.2.at_,s1.2.2.1,s1.2.2.2)))) (
  some (.inr (s1.1,s1.2.1,s1.2.2.1,s1.2.2.2)))
def b_k (g_w:SexprReader → Option ((List SNode) × Bool × SexprReader)) (x0:SexprReader):Option ((List SNode) × Bool × SexprReader) :=
 (g_w x0).bind fun r1 =>
 (loopO l1_k (r1.2.2.text,r1.2.2.at_,r1.1,r1.2.1)).bind fun r5 =>
 some (r5.2.2.1,r5.2.2.2,(SexprReader.mk r5.1 r5.2.1))
mutual
def fN_w:Nat → SexprReader → Option ((List SNode) × Bool × SexprReader)
 | 0 => fun _ => none
 | n + 1 => b_w (fN_r n)
def fN_r:Nat → SexprReader → Option ((List SNode) × Bool × SexprReader)
 | 0 => fun _ => none
 | n + 1 => b_r (fN_j n)
def fN_j:Nat → SexprReader → Option ((List SNode) × Bool × SexprReader)
 | 0 => fun _ => none
 | n + 1 => b_j (fN_k n)
def fN_k:Nat → SexprReader → Option ((List SNode) × Bool × SexprReader)
 | 0 => fun _ => none
 | n + 1 => b_k (fN_w n)
end
def f_j (x0:SexprReader):Option ((List SNode) × Bool × SexprReader):=fuelO fun n => fN_j n x0
def f_aX (x0:ByteArray):Option ((List SNode) × Int × Int) :=
 cond (decide ((x0.size:Int) > 300)) (
  some ([],0,3)) (
  (f_j (SexprReader.mk x0 0)).bind fun r1 =>
  cond r1.2.1 (
   cond (decide (r1.2.2.at_ < (x0.size:Int))) (
    some ([],r1.2.2.at_,6)) (
    cond (!r1.2.1) (
     some ([],r1.2.2.at_,6)) (
     cond (decide ((r1.1.length:Int) > 30)) (
      some ([],0,3)) (
      some (r1.1,0,0))))) (
   cond (!r1.2.1) (
    some ([],r1.2.2.at_,6)) (
    cond (decide ((r1.1.length:Int) > 30)) (
     some ([],0,3)) (
     some (r1.1,0,0)))))
def f_a5 (x0:SNode) (x1:SNode):Option Bool :=
 cond (x0.Kind != x1.Kind) (
  some false) (
  cond (!seqB x0.Text x1.Text) (
   some false) (
   cond (!seqB x0.Mark x1.Mark) (
    some false) (
    some true)))
def l1_A (x0:List SNode) (x1:List SNode) (s1:Int):Option (Int ⊕ (Unit ⊕ Bool)) :=
 cond (decide (s1 < (x0.length:Int))) (
  (ixO x0 s1).bind fun v1 =>
  (ixO x1 s1).bind fun v2 =>
  (f_a5 v1 v2).bind fun r3 =>
  cond (!r3) (
   some (.inr (.inr false))) (
   (rng (s1 + 1)).bind fun v4 =>
   some (.inl v4))) (
  some (.inr (.inl ())))
def f_A (x0:List SNode) (x1:List SNode):Option Bool :=
 cond ((x0.length:Int) != (x1.length:Int)) (
  some false) (
  (loopO (l1_A x0 x1) 0).bind fun r5 =>
  match r5 with
  | (.inl _) =>
   some true
  | (.inr r5) =>
   some r5)
def l1_T  (s1:Int × ByteArray):Option ((Int × ByteArray) ⊕ ByteArray) :=
 cond (decide (s1.1 > 0)) (
  (remO s1.1 10).bind fun v1 =>
  (rng (48 + v1)).bind fun v2 =>
  (scatO (b2s [(IntKind.wrap .u8 v2)]) s1.2).bind fun v3 =>
  (quoO s1.1 10).bind fun v4 =>
  some (.inl (v4,v3))) (
  some (.inr s1.2))
def f_T (x0:Int):Option ByteArray :=
 cond (decide (x0 ≤ 0)) (
  some (ByteArray.mk #[109,48])) (
  (loopO l1_T (x0,(ByteArray.mk #[]))).bind fun r5 =>
  (scatO (ByteArray.mk #[109]) r5).bind fun v6 =>
  some v6)
def l1_U  (s1:(List SNode) × Int × Int):Option (((List SNode) × Int × Int) ⊕ ((List SNode) × Int)) :=
 cond (decide (s1.2.2 < (s1.1.length:Int))) (
  (ixO s1.1 s1.2.2).bind fun v1 =>
  (rng (s1.2.1 + 1)).bind fun v2 =>
  (f_T v2).bind fun r3 =>
  (ixO (s1.1.set s1.2.2.toNat (SNode.mk s1.2.1 v1.Text v1.Mark)) s1.2.2).bind fun v4 =>
  (rng (v2 + 1)).bind fun v5 =>
  (f_T v5).bind fun r6 =>
  (ixO ((s1.1.set s1.2.2.toNat (SNode.mk s1.2.1 v1.Text v1.Mark)).set s1.2.2.toNat (SNode.mk v4.Kind r3 v4.Mark)) s1.2.2).bind fun v7 =>
  (rng (v5 + 1)).bind fun v8 =>
  (rng (s1.2.2 + 1)).bind fun v9 =>
  some (.inl (((s1.1.set s1.2.2.toNat (SNode.mk s1.2.1 v1.Text v1.Mark)).set s1.2.2.toNat (SNode.mk v4.Kind r3 v4.Mark)).set s1.2.2.toNat (SNode.mk v7.Kind v7.Text r6),v8,v9))) (
  some (.inr (s1.1,s1.2.1)))
def f_U (x0:List SNode) (x1:Int):Option (Int × (List SNode)) :=
 (loopO l1_U (x0,x1,0)).bind fun r10 =>
 some (r10.2,r10.1)
def l1_ag (x0:List SNode) (s1:Int × Int):Option ((Int × Int) ⊕ (Int ⊕ Int)) :=
 cond (decide (s1.2 < (x0.length:Int))) (
  (ixO x0 s1.2).bind fun v1 =>
  cond (v1.Kind != s1.1) (
   some (.inr (.inr (-1)))) (
   (rng (s1.1 + 1)).bind fun v2 =>
   (ixO x0 s1.2).bind fun v3 =>
   (f_T v2).bind fun r4 =>
   cond (!seqB v3.Text r4) (
    some (.inr (.inr (-1)))) (
    (rng (v2 + 1)).bind fun v5 =>
    (ixO x0 s1.2).bind fun v6 =>
    (f_T v5).bind fun r7 =>
    cond (!seqB v6.Mark r7) (
     some (.inr (.inr (-1)))) (
     (rng (v5 + 1)).bind fun v8 =>
     (rng (s1.2 + 1)).bind fun v9 =>
     some (.inl (v8,v9)))))) (
  some (.inr (.inl s1.1)))
def f_ag (x0:List SNode) (x1:Int):Option Int :=
 (loopO (l1_ag x0) (x1,0)).bind fun r10 =>
 match r10 with
 | (.inl r10) =>
  some r10
 | (.inr r10) =>
  some r10
def f_bc (x0:ByteArray):Option Bool :=
 cond (decide ((x0.size:Int) > 1048576)) (
  some true) (
  (f_bb x0).bind fun r1 =>
  (f_aX x0).bind fun r2 =>
  (f_A r2.1 r1.1).bind fun r3 =>
  cond (!r3) (
   some false) (
   cond (r2.2.1 != r1.2.1) (
    some false) (
    cond (r2.2.2 != r1.2.2) (
     some false) (
     (f_U r2.1 1).bind fun r4 =>
     (f_ag r4.2 1).bind fun r5 =>
     cond (decide (r5 < 0)) (
      some false) (
      cond (r5 != r4.1) (
       some false) (
       (f_aX x0).bind fun r6 =>
       (f_A r6.1 r1.1).bind fun r7 =>
       cond (!r7) (
        some false) (
        cond (r6.2.1 != r1.2.1) (
         some false) (
         cond (r6.2.2 != r1.2.2) (
          some false) (
          (f_ag r4.2 1).bind fun r8 =>
          cond (decide (r8 < 0)) (
           some false) (
           cond (r8 != r4.1) (
            some false) (
            some true)))))))))))
def f_a3 (x0:SNode) (x1:Int):Option Int :=
 (rng (x1 - (x0.Text.size:Int))).bind fun v1 =>
 cond (decide (v1 < 0)) (
  some (-1)) (
  (rng (v1 - (x0.Mark.size:Int))).bind fun v2 =>
  cond (decide (v2 < 0)) (
   some (-1)) (
   some v2))
def l1_aH (x0:List SNode) (s1:Int × Int):Option ((Int × Int) ⊕ (Int ⊕ Int)) :=
 cond (decide (s1.2 < (x0.length:Int))) (
  (ixO x0 s1.2).bind fun v2 =>
  (f_a3 v2 s1.1).bind fun r3 =>
  cond (decide (r3 < 0)) (
   some (.inr (.inr (-1)))) (
   (rng (s1.2 + 1)).bind fun v4 =>
   some (.inl (r3,v4)))) (
  some (.inr (.inl s1.1)))
def f_aH (x0:List SNode) (x1:Int):Option Int :=
 (rng (x1 - (x0.length:Int))).bind fun v1 =>
 cond (decide (v1 < 0)) (
  some (-1)) (
  (loopO (l1_aH x0) (v1,0)).bind fun r5 =>
  match r5 with
  | (.inl r5) =>
   some r5
  | (.inr r5) =>
   some r5)
def f_a4 (x0:SNode):Option SNode :=
 some x0
def l1_x (x0:List SNode) (s1:(List SNode) × Int):Option (((List SNode) × Int) ⊕ (List SNode)) :=
 cond (decide (s1.2 < (x0.length:Int))) (
  (ixO x0 s1.2).bind fun v2 =>
  (f_a4 v2).bind fun r3 =>
  (ixO s1.1 s1.2).bind fun _ =>
  (rng (s1.2 + 1)).bind fun v5 =>
  some (.inl (s1.1.set s1.2.toNat r3,v5))) (
  some (.inr s1.1))
def f_x (x0:List SNode):Option (List SNode) :=
 (lenOk (x0.length:Int)).bind fun m1 =>
 (loopO (l1_x x0) (List.replicate m1 ((SNode.mk 0 ByteArray.empty ByteArray.empty):SNode),0)).bind fun r6 =>
 some r6
def l1_Z (x0:List SNode) (s1:Int × Int):Option ((Int × Int) ⊕ (Int ⊕ Bool)) :=
 cond (decide (s1.2 < (x0.length:Int))) (
  (ixO x0 s1.2).bind fun v1 =>
  (f_D v1).bind fun r2 =>
  cond (decide (r2 < 0)) (
   some (.inr (.inr false))) (
   cond (s1.1 == 0) (
    some (.inr (.inr false))) (
    (rng (s1.1 - 1)).bind fun v3 =>
    (rng (v3 + r2)).bind fun v4 =>
    (rng (s1.2 + 1)).bind fun v5 =>
    some (.inl (v4,v5))))) (
  some (.inr (.inl s1.1)))
def f_Z (x0:List SNode):Option Bool :=
 cond (decide ((x0.length:Int) > 30)) (
  some false) (
  (loopO (l1_Z x0) (1,0)).bind fun r6 =>
  match r6 with
  | (.inl r6) =>
   some (r6 == 0)
  | (.inr r6) =>
   some r6)
def l1_aa (x0:List SNode) (s1:Int × Int):Option ((Int × Int) ⊕ (Int ⊕ Bool)) :=
 cond (decide (s1.2 < (x0.length:Int))) (
  (ixO x0 s1.2).bind fun v1 =>
  (f_q v1).bind fun r2 =>
  cond (s1.1 == 0) (
   some (.inr (.inr false))) (
   cond (decide (r2 < 0)) (
    some (.inr (.inr false))) (
    (rng (r2 - 1)).bind fun v3 =>
    (rng (s1.1 + v3)).bind fun v4 =>
    (rng (s1.2 + 1)).bind fun v5 =>
    some (.inl (v4,v5))))) (
  some (.inr (.inl s1.1)))
def f_aa (x0:List SNode):Option Bool :=
 cond (decide ((x0.length:Int) < 1)) (
  some false) (
  cond (decide ((x0.length:Int) > 30)) (
   some false) (
   (loopO (l1_aa x0) (1,0)).bind fun r6 =>
   match r6 with
   | (.inl r6) =>
    some (r6 == 0)
   | (.inr r6) =>
    some r6))
def f_bd (x0:List SNode):Option Bool :=
 (f_aa x0).bind fun r1 =>
 some r1
def f_a6 (x0:List SNode):Option Bool :=
 (f_aH x0 1048576).bind fun r1 =>
 cond (decide (r1 < 0)) (
  some true) (
  (f_x x0).bind fun r2 =>
  (f_Z r2).bind fun r3 =>
  (f_x x0).bind fun r4 =>
  (f_bd r4).bind fun r5 =>
  cond (r5 != r3) (
   some false) (
   (f_x x0).bind fun r6 =>
   (f_A r4 r6).bind fun r7 =>
   cond (!r7) (
    some false) (
    some true)))
def b_e (g_e:(List SNode) → Int → Option (ByteArray × Int)) (x0:List SNode) (x1:Int):Option (ByteArray × Int) :=
 (ixO x0 x1).bind fun v1 =>
 cond (v1.Kind == 0) (
  (scatO (ByteArray.mk #[123]) v1.Text).bind fun v2 =>
  (scatO v2 (ByteArray.mk #[125])).bind fun v3 =>
  (rng (x1 + 1)).bind fun v4 =>
  some (v3,v4)) (
  cond (v1.Kind == 1) (
   (scatO (ByteArray.mk #[91]) v1.Text).bind fun v5 =>
   (scatO v5 (ByteArray.mk #[93])).bind fun v6 =>
   (rng (x1 + 1)).bind fun v7 =>
   some (v6,v7)) (
   cond (v1.Kind == 2) (
    (rng (x1 + 1)).bind fun v8 =>
    some (v1.Text,v8)) (
    cond (v1.Kind == 3) (
     (rng (x1 + 1)).bind fun v9 =>
     (g_e x0 v9).bind fun r10 =>
     (g_e x0 r10.2).bind fun r11 =>
     (ixO x0 r10.2).bind fun v12 =>
     cond (v12.Kind == 3) (
      (scatO (ByteArray.mk #[40]) r11.1).bind fun v13 =>
      (scatO v13 (ByteArray.mk #[41])).bind fun v14 =>
      (scatO r10.1 (ByteArray.mk #[43])).bind fun v15 =>
      (scatO v15 v14).bind fun v16 =>
      some (v16,r11.2)) (
      (scatO r10.1 (ByteArray.mk #[43])).bind fun v17 =>
      (scatO v17 r11.1).bind fun v18 =>
      some (v18,r11.2))) (
     (rng (x1 + 1)).bind fun v19 =>
     (g_e x0 v19).bind fun r20 =>
     cond (v1.Kind == 5) (
      (scatO v1.Mark (ByteArray.mk #[40])).bind fun v21 =>
      (scatO v21 r20.1).bind fun v22 =>
      (scatO v22 (ByteArray.mk #[41])).bind fun v23 =>
      some (v23,r20.2)) (
      (rng (x1 + 1)).bind fun v24 =>
      (ixO x0 v24).bind fun v25 =>
      cond (v25.Kind == 3) (
       (scatO (ByteArray.mk #[40]) r20.1).bind fun v26 =>
       (scatO v26 (ByteArray.mk #[41])).bind fun v27 =>
       (scatO v27 (ByteArray.mk #[47])).bind fun v28 =>
       (scatO v28 v1.Mark).bind fun v29 =>
       some (v29,r20.2)) (
       (scatO r20.1 (ByteArray.mk #[47])).bind fun v30 =>
       (scatO v30 v1.Mark).bind fun v31 =>
       some (v31,r20.2)))))))
def fN_e:Nat → (List SNode) → Int → Option (ByteArray × Int)
 | 0 => fun _ _ => none
 | n + 1 => b_e (fN_e n)
def f_e (x0:List SNode) (x1:Int):Option (ByteArray × Int):=fuelO fun n => fN_e n x0 x1
def f_a8 (x0:List SNode):Option (ByteArray × Int) :=
 (f_Z x0).bind fun r1 =>
 cond (!r1) (
  some ((ByteArray.mk #[]),1)) (
  (f_e x0 0).bind fun r2 =>
  some (r2.1,0))
def b_d (g_d:(List SNode) → Option (ByteArray × (List SNode))) (g_t:(List SNode) → Option (ByteArray × (List SNode))) (x0:List SNode):Option (ByteArray × (List SNode)) :=
 (ixO x0 0).bind fun v1 =>
 (sliceO x0 1 x0.length).bind fun v2 =>
 cond (v1.Kind == 0) (
  (scatO (ByteArray.mk #[123]) v1.Text).bind fun v3 =>
  (scatO v3 (ByteArray.mk #[125])).bind fun v4 =>
  some (v4,v2)) (
  cond (v1.Kind == 1) (
   (scatO (ByteArray.mk #[91]) v1.Text).bind fun v5 =>
   (scatO v5 (ByteArray.mk #[93])).bind fun v6 =>
   some (v6,v2)) (
   cond (v1.Kind == 2) (
    some (v1.Text,v2)) (
    cond (v1.Kind == 3) (
     (g_d v2).bind fun r7 =>
     (g_t r7.2).bind fun r8 =>
     (scatO r7.1 (ByteArray.mk #[43])).bind fun v9 =>
     (scatO v9 r8.1).bind fun v10 =>
     some (v10,r8.2)) (
     cond (v1.Kind == 4) (
      (g_t v2).bind fun r11 =>
      (scatO r11.1 (ByteArray.mk #[47])).bind fun v12 =>
      (scatO v12 v1.Mark).bind fun v13 =>
      some (v13,r11.2)) (
      (g_d v2).bind fun r14 =>
      (scatO v1.Mark (ByteArray.mk #[40])).bind fun v15 =>
      (scatO v15 r14.1).bind fun v16 =>
      (scatO v16 (ByteArray.mk #[41])).bind fun v17 =>
      some (v17,r14.2))))))
def b_t (g_d:(List SNode) → Option (ByteArray × (List SNode))) (x0:List SNode):Option (ByteArray × (List SNode)) :=
 (g_d x0).bind fun r1 =>
 (ixO x0 0).bind fun v2 =>
 cond (v2.Kind == 3) (
  (scatO (ByteArray.mk #[40]) r1.1).bind fun v3 =>
  (scatO v3 (ByteArray.mk #[41])).bind fun v4 =>
  some (v4,r1.2)) (
  some (r1.1,r1.2))
mutual
def fN_d:Nat → (List SNode) → Option (ByteArray × (List SNode))
 | 0 => fun _ => none
 | n + 1 => b_d (fN_d n) (fN_t n)
def fN_t:Nat → (List SNode) → Option (ByteArray × (List SNode))
 | 0 => fun _ => none
 | n + 1 => b_t (fN_d n)
end
def f_d (x0:List SNode):Option (ByteArray × (List SNode)):=fuelO fun n => fN_d n x0
def f_a7 (x0:List SNode):Option (ByteArray × Int) :=
 (f_aa x0).bind fun r1 =>
 cond (!r1) (
  some ((ByteArray.mk #[]),1)) (
  (f_d x0).bind fun r2 =>
  some (r2.1,0))
def f_a9 (x0:List SNode):Option Bool :=
 (f_aH x0 1048576).bind fun r1 =>
 cond (decide (r1 < 0)) (
  some true) (
  (f_x x0).bind fun r2 =>
  (f_a8 r2).bind fun r3 =>
  (f_x x0).bind fun r4 =>
  (f_a7 r4).bind fun r5 =>
  cond (!seqB r5.1 r3.1) (
   some false) (
   cond (r5.2 != r3.2) (
    some false) (
    (f_x x0).bind fun r6 =>
    (f_A r4 r6).bind fun r7 =>
    cond (!r7) (
     some false) (
     some true))))
def l1_ac (x0:List SNode) (x1:ByteArray) (x2:List SNode) (s1:(List SNode) × Int):Option (((List SNode) × Int) ⊕ (List SNode)) :=
 cond (decide (s1.2 < (x0.length:Int))) (
  (ixO x0 s1.2).bind fun v4 =>
  cond (v4.Kind == 2) (
   (ixO x0 s1.2).bind fun v5 =>
   cond (seqB v5.Text x1) (
    (appO s1.1 x2).bind fun v6 =>
    (rng (s1.2 + 1)).bind fun v7 =>
    some (.inl (v6,v7))) (
    (ixO x0 s1.2).bind fun v8 =>
    (appO s1.1 [v8]).bind fun v9 =>
    (rng (s1.2 + 1)).bind fun v10 =>
    some (.inl (v9,v10)))) (
   (ixO x0 s1.2).bind fun v11 =>
   (appO s1.1 [v11]).bind fun v12 =>
   (rng (s1.2 + 1)).bind fun v13 =>
   some (.inl (v12,v13)))) (
  some (.inr s1.1))
def f_ac (x0:List SNode) (x1:ByteArray) (x2:List SNode):Option ((List SNode) × Int) :=
 (f_Z x0).bind fun r1 =>
 cond (!r1) (
  some ([],1)) (
  (f_Z x2).bind fun r2 =>
  cond (!r2) (
   some ([],1)) (
   (f_ax x1).bind fun r3 =>
   cond (!r3) (
    some ([],2)) (
    (loopO (l1_ac x0 x1 x2) ([],0)).bind fun r14 =>
    cond (decide ((r14.length:Int) > 30)) (
     some ([],3)) (
     some (r14,0)))))
def l1_ab (x0:List SNode) (x1:ByteArray) (x2:List SNode) (s1:(List SNode) × Int):Option (((List SNode) × Int) ⊕ (List SNode)) :=
 cond (decide (s1.2 < (x0.length:Int))) (
  (ixO x0 s1.2).bind fun v4 =>
  cond (v4.Kind == 2) (
   cond (seqB v4.Text x1) (
    (appO s1.1 x2).bind fun v5 =>
    (rng (s1.2 + 1)).bind fun v6 =>
    some (.inl (v5,v6))) (
    (appO s1.1 [v4]).bind fun v7 =>
    (rng (s1.2 + 1)).bind fun v8 =>
    some (.inl (v7,v8)))) (
   (appO s1.1 [v4]).bind fun v9 =>
   (rng (s1.2 + 1)).bind fun v10 =>
   some (.inl (v9,v10)))) (
  some (.inr s1.1))
def f_ab (x0:List SNode) (x1:ByteArray) (x2:List SNode):Option ((List SNode) × Int) :=
 (f_aa x0).bind fun r1 =>
 cond (!r1) (
  some ([],1)) (
  (f_aa x2).bind fun r2 =>
  cond (!r2) (
   some ([],1)) (
   (f_aj x1).bind fun r3 =>
   cond (!r3) (
    some ([],2)) (
    (loopO (l1_ab x0 x1 x2) ([],0)).bind fun r11 =>
    cond (decide ((r11.length:Int) > 30)) (
     some ([],3)) (
     some (r11,0)))))
def f_ba (x0:List SNode) (x1:ByteArray) (x2:List SNode):Option Bool :=
 cond (decide ((x1.size:Int) > 1048576)) (
  some true) (
  (f_aH x0 1048576).bind fun r1 =>
  cond (decide (r1 < 0)) (
   some true) (
   (f_aH x2 r1).bind fun r2 =>
   cond (decide (r2 < 0)) (
    some true) (
    (f_x x0).bind fun r3 =>
    (f_x x2).bind fun r4 =>
    (f_ac r3 x1 r4).bind fun r5 =>
    (f_x x0).bind fun r6 =>
    (f_x x2).bind fun r7 =>
    (f_ab r6 x1 r7).bind fun r8 =>
    (f_A r8.1 r5.1).bind fun r9 =>
    cond (!r9) (
     some false) (
     cond (r8.2 != r5.2) (
      some false) (
      (f_x x0).bind fun r10 =>
      (f_A r6 r10).bind fun r11 =>
      cond (!r11) (
       some false) (
       (f_x x2).bind fun r12 =>
       (f_A r7 r12).bind fun r13 =>
       cond (!r13) (
        some false) (
        (f_U r6 1).bind fun r14 =>
        (f_U r7 r14.1).bind fun r15 =>
        cond (decide (r15.1 < 0)) (
         some false) (
         (f_A r8.1 r5.1).bind fun r16 =>
         cond (!r16) (
          some false) (
          cond (r8.2 != r5.2) (
           some false) (
           (f_U r8.1 1).bind fun r17 =>
           (f_ag r17.2 1).bind fun r18 =>
           cond (decide (r18 < 0)) (
            some false) (
            cond (r18 != r17.1) (
             some false) (
             (f_x x0).bind fun r19 =>
             (f_x x2).bind fun r20 =>
             (f_ab r19 x1 r20).bind fun r21 =>
             (f_A r21.1 r5.1).bind fun r22 =>
             cond (!r22) (
              some false) (
              cond (r21.2 != r5.2) (
               some false) (
               (f_ag r17.2 1).bind fun r23 =>
               cond (decide (r23 < 0)) (
                some false) (
                cond (r23 != r17.1) (
                 some false) (
                 some true))))))))))))))))
end Go.Wk
