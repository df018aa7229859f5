/- The program and the reference return the same Baer sums of cocycles, for all arguments (FnExactBaerSum). This file is a part of the proof. -/
import Derived.Test.YtkifphhpbcgieaaGreatAbC
noncomputable section
namespace Go.Wk
open Go Go.Ab
structure SPr where
 Orders:List Int
 Powers:List (List Int)
 Conjugates:List (List (List Int))
abbrev eSPr (x:SPr):T:=.agg [(L 1 I) x.Orders,(L 1 (L 1 I)) x.Powers,(L 1 (L 1 (L 1 I))) x.Conjugates]
instance:Enc eSPr:=.of fun _ => encA ⟨Enc.t (f:=(L 1 I)) inferInstance _,Enc.t (f:=(L 1 (L 1 I))) inferInstance _,Enc.t (f:=(L 1 (L 1 (L 1 I)))) inferInstance _,trivial⟩
structure SModule where
 Prime:Int
 Dim:Int
 Actions:List (List (List Int))
abbrev eSModule (x:SModule):T:=.agg [I x.Prime,I x.Dim,(L 1 (L 1 (L 1 I))) x.Actions]
instance:Enc eSModule:=.of fun _ => encA ⟨Enc.t (f:=I) inferInstance _,Enc.t (f:=I) inferInstance _,Enc.t (f:=(L 1 (L 1 (L 1 I)))) inferInstance _,trivial⟩
structure SFault where
 Kind:Int
 Level:Int
 First:Int
 Second:Int
abbrev eSFault (x:SFault):T:=.agg [I x.Kind,I x.Level,I x.First,I x.Second]
instance:Enc eSFault:=.of fun _ => encA ⟨Enc.t (f:=I) inferInstance _,Enc.t (f:=I) inferInstance _,Enc.t (f:=I) inferInstance _,Enc.t (f:=I) inferInstance _,trivial⟩
structure SMatrix where
 Prime:Int
 Columns:Int
 Rows:List (List Int)
abbrev eSMatrix (x:SMatrix):T:=.agg [I x.Prime,I x.Columns,(L 1 (L 1 I)) x.Rows]
instance:Enc eSMatrix:=.of fun _ => encA ⟨Enc.t (f:=I) inferInstance _,Enc.t (f:=I) inferInstance _,Enc.t (f:=(L 1 (L 1 I))) inferInstance _,trivial⟩
structure Sl23Rules where
 p:SPr
 m:SModule
 tails:List (List Int)
structure Sl23Pair where
 x:List Int
 v:List Int
abbrev eSl23Pair (x:Sl23Pair):T:=.agg [(L 1 I) x.x,(L 1 I) x.v]
instance:Enc eSl23Pair:=.of fun _ => encA ⟨Enc.t (f:=(L 1 I)) inferInstance _,Enc.t (f:=(L 1 I)) inferInstance _,trivial⟩
def f_a5 (x0:List Int) (x1:Int):Option Int :=
 (rng (x1 - (x0.length:Int))).bind fun v1 =>
 cond (decide (v1 < 0)) (
  some (-1)) (
  some v1)
def l1_ag (x0:List (List Int)) (s1:Int × Int):Option ((Int × Int) ⊕ (Int ⊕ Int)) :=
 cond (decide (s1.2 < (x0.length:Int))) (
  (ixO x0 s1.2).bind fun v2 =>
  (f_a5 v2 s1.1).bind fun r3 =>
  cond (decide (r3 < 0)) (
   some (.inr (.inr (-1)))) (
   (rng (s1.2 + 1)).bind fun v4 =>
   some (.inl (r3,v4)))) (
  some (.inr (.inl s1.1)))
def f_ag (x0:List (List Int)) (x1:Int):Option Int :=
 (rng (x1 - (x0.length:Int))).bind fun v1 =>
 cond (decide (v1 < 0)) (
  some (-1)) (
  (loopO (l1_ag x0) (v1,0)).bind fun r5 =>
  match r5 with
  | (.inl r5) =>
   some r5
  | (.inr r5) =>
   some r5)
def l1_aZ (x0:List (List (List Int))) (s1:Int × Int):Option ((Int × Int) ⊕ (Int ⊕ Int)) :=
 cond (decide (s1.2 < (x0.length:Int))) (
  (ixO x0 s1.2).bind fun v2 =>
  (f_ag v2 s1.1).bind fun r3 =>
  cond (decide (r3 < 0)) (
   some (.inr (.inr (-1)))) (
   (rng (s1.2 + 1)).bind fun v4 =>
   some (.inl (r3,v4)))) (
  some (.inr (.inl s1.1)))
def f_aZ (x0:List (List (List Int))) (x1:Int):Option Int :=
 (rng (x1 - (x0.length:Int))).bind fun v1 =>
 cond (decide (v1 < 0)) (
  some (-1)) (
  (loopO (l1_aZ x0) (v1,0)).bind fun r5 =>
  match r5 with
  | (.inl r5) =>
   some r5
  | (.inr r5) =>
   some r5)
def f_a6 (x0:SPr) (x1:Int):Option Int :=
 (f_a5 x0.Orders x1).bind fun r1 =>
 cond (decide (r1 < 0)) (
  some (-1)) (
  (f_ag x0.Powers r1).bind fun r2 =>
  cond (decide (r2 < 0)) (
   some (-1)) (
   (f_aZ x0.Conjugates r2).bind fun r3 =>
   cond (decide (r3 < 0)) (
    some (-1)) (
    some r3)))
def f_a7 (x0:SModule) (x1:Int):Option Int :=
 (f_aZ x0.Actions x1).bind fun r1 =>
 cond (decide (r1 < 0)) (
  some (-1)) (
  some r1)
def l1_av (x0:List Int) (s1:(List Int) × Int):Option (((List Int) × Int) ⊕ (List Int)) :=
 cond (decide (s1.2 < (x0.length:Int))) (
  (ixO x0 s1.2).bind fun v2 =>
  (ixO s1.1 s1.2).bind fun _ =>
  (rng (s1.2 + 1)).bind fun v4 =>
  some (.inl (s1.1.set s1.2.toNat v2,v4))) (
  some (.inr s1.1))
def f_av (x0:List Int):Option (List Int) :=
 (lenOk (x0.length:Int)).bind fun m1 =>
 (loopO (l1_av x0) (List.replicate m1 (0:Int),0)).bind fun r5 =>
 some r5
def l1_q (x0:List (List Int)) (s1:(List (List Int)) × Int):Option (((List (List Int)) × Int) ⊕ (List (List Int))) :=
 cond (decide (s1.2 < (x0.length:Int))) (
  (ixO x0 s1.2).bind fun v2 =>
  (f_av v2).bind fun r3 =>
  (ixO s1.1 s1.2).bind fun _ =>
  (rng (s1.2 + 1)).bind fun v5 =>
  some (.inl (s1.1.set s1.2.toNat r3,v5))) (
  some (.inr s1.1))
def f_q (x0:List (List Int)):Option (List (List Int)) :=
 (lenOk (x0.length:Int)).bind fun m1 =>
 (loopO (l1_q x0) (List.replicate m1 ([]:List Int),0)).bind fun r6 =>
 some r6
def l1_aG (x0:List (List (List Int))) (s1:(List (List (List Int))) × Int):Option (((List (List (List Int))) × Int) ⊕ (List (List (List Int)))) :=
 cond (decide (s1.2 < (x0.length:Int))) (
  (ixO x0 s1.2).bind fun v2 =>
  (f_q v2).bind fun r3 =>
  (ixO s1.1 s1.2).bind fun _ =>
  (rng (s1.2 + 1)).bind fun v5 =>
  some (.inl (s1.1.set s1.2.toNat r3,v5))) (
  some (.inr s1.1))
def f_aG (x0:List (List (List Int))):Option (List (List (List Int))) :=
 (lenOk (x0.length:Int)).bind fun m1 =>
 (loopO (l1_aG x0) (List.replicate m1 ([]:List (List Int)),0)).bind fun r6 =>
 some r6
def f_aj (x0:SPr):Option SPr :=
 (f_av x0.Orders).bind fun r1 =>
 (f_q x0.Powers).bind fun r2 =>
 (f_aG x0.Conjugates).bind fun r3 =>
 some (SPr.mk r1 r2 r3)
def f_ak (x0:SModule):Option SModule :=
 (f_aG x0.Actions).bind fun r1 =>
 some (SModule.mk x0.Prime x0.Dim r1)
def f_bj (x0:Int):Option Bool :=
 cond (x0 == 2) (
  some true) (
  cond (x0 == 3) (
   some true) (
   cond (x0 == 5) (
    some true) (
    some (x0 == 7))))
def l1_ay (x0:List Int) (s1:Int × Int):Option ((Int × Int) ⊕ Int) :=
 cond (decide (s1.2 < (x0.length:Int))) (
  cond (decide (s1.1 ≤ 729)) (
   (ixO x0 s1.2).bind fun v1 =>
   (rng (s1.1 * v1)).bind fun v2 =>
   (rng (s1.2 + 1)).bind fun v3 =>
   some (.inl (v2,v3))) (
   (rng (s1.2 + 1)).bind fun v4 =>
   some (.inl (s1.1,v4)))) (
  some (.inr s1.1))
def f_ay (x0:List Int):Option Int :=
 (loopO (l1_ay x0) (1,0)).bind fun r5 =>
 some r5
def f_ba (x0:Int) (x1:Int) (x2:Int):Option Bool :=
 cond (decide (x0 ≥ x1)) (
  some (decide (x0 ≤ x2))) (
  some false)
def l1_ax (x0:List Int) (x1:List Int) (x2:Int) (s1:Int):Option (Int ⊕ (Unit ⊕ Bool)) :=
 cond (decide (s1 < (x1.length:Int))) (
  (ixO x1 s1).bind fun v1 =>
  (ixO x0 s1).bind fun v2 =>
  (rng (v2 - 1)).bind fun v3 =>
  (f_ba v1 0 v3).bind fun r4 =>
  cond (!r4) (
   some (.inr (.inr false))) (
   cond (decide (s1 ≤ x2)) (
    (ixO x1 s1).bind fun v5 =>
    cond (v5 != 0) (
     some (.inr (.inr false))) (
     (rng (s1 + 1)).bind fun v6 =>
     some (.inl v6))) (
    (rng (s1 + 1)).bind fun v5 =>
    some (.inl v5)))) (
  some (.inr (.inl ())))
def f_ax (x0:List Int) (x1:List Int) (x2:Int):Option Bool :=
 cond ((x1.length:Int) != (x0.length:Int)) (
  some false) (
  (loopO (l1_ax x0 x1 x2) 0).bind fun r6 =>
  match r6 with
  | (.inl r6) =>
   some true
  | (.inr r6) =>
   some r6)
def l1_u (x0:SPr) (s1:Int):Option (Int ⊕ (Unit ⊕ Bool)) :=
 cond (decide (s1 < (x0.Orders.length:Int))) (
  (ixO x0.Orders s1).bind fun v1 =>
  (f_bj v1).bind fun r2 =>
  cond (!r2) (
   some (.inr (.inr false))) (
   (rng (s1 + 1)).bind fun v3 =>
   some (.inl v3))) (
  some (.inr (.inl ())))
def l2_u (x0:SPr) (s7:Int) (s8:Int):Option (Int ⊕ (Unit ⊕ Bool)) :=
 (ixO x0.Conjugates s7).bind fun v11 =>
 cond (decide (s8 < (v11.length:Int))) (
  (ixO x0.Conjugates s7).bind fun v12 =>
  (ixO v12 s8).bind fun v13 =>
  (f_ax x0.Orders v13 s7).bind fun r14 =>
  cond (!r14) (
   some (.inr (.inr false))) (
   (rng (s8 + 1)).bind fun v15 =>
   some (.inl v15))) (
  some (.inr (.inl ())))
def l3_u (x0:SPr) (s7:Int):Option (Int ⊕ (Unit ⊕ Bool)) :=
 cond (decide (s7 < (x0.Orders.length:Int))) (
  (ixO x0.Powers s7).bind fun v6 =>
  (f_ax x0.Orders v6 s7).bind fun r7 =>
  cond (!r7) (
   some (.inr (.inr false))) (
   (ixO x0.Conjugates s7).bind fun v8 =>
   (rng ((x0.Orders.length:Int) - 1)).bind fun v9 =>
   (rng (v9 - s7)).bind fun v10 =>
   cond ((v8.length:Int) != v10) (
    some (.inr (.inr false))) (
    (loopO (l2_u x0 s7) 0).bind fun r16 =>
    match r16 with
    | (.inl r16) =>
     (rng (s7 + 1)).bind fun v17 =>
     some (.inl v17)
    | (.inr r16) =>
     some (.inr (.inr r16))))) (
  some (.inr (.inl ())))
def f_u (x0:SPr):Option Bool :=
 cond (decide ((x0.Orders.length:Int) > 6)) (
  some false) (
  cond ((x0.Powers.length:Int) != (x0.Orders.length:Int)) (
   some false) (
   cond ((x0.Conjugates.length:Int) != (x0.Orders.length:Int)) (
    some false) (
    (loopO (l1_u x0) 0).bind fun r4 =>
    match r4 with
    | (.inl r4) =>
     (f_ay x0.Orders).bind fun r5 =>
     cond (decide (r5 > 729)) (
      some false) (
      (loopO (l3_u x0) 0).bind fun r18 =>
      match r18 with
      | (.inl r18) =>
       some true
      | (.inr r18) =>
       some r18)
    | (.inr r4) =>
     some r4)))
def f_v (x0:List Int):Option (List Int) :=
 (appO [] x0).bind fun v1 =>
 some v1
def l1_c (g_a:SPr → Int → (List Int) → (List Int) → Option (List Int)) (x0:SPr) (x1:Int) (x2:List Int) (s5:(List Int) × Int) (s6:(List Int) × Int):Option (((List Int) × Int) ⊕ (List Int)) :=
 (ixO x2 s5.2).bind fun v3 =>
 cond (decide (s6.2 < v3)) (
  (rng (x1 + 1)).bind fun v4 =>
  (ixO x0.Conjugates x1).bind fun v5 =>
  (rng (s5.2 - x1)).bind fun v6 =>
  (rng (v6 - 1)).bind fun v7 =>
  (ixO v5 v7).bind fun v8 =>
  (g_a x0 v4 s6.1 v8).bind fun r9 =>
  (rng (s6.2 + 1)).bind fun v10 =>
  some (.inl (r9,v10))) (
  some (.inr s6.1))
def l2_c (g_a:SPr → Int → (List Int) → (List Int) → Option (List Int)) (x0:SPr) (x1:Int) (x2:List Int) (s5:(List Int) × Int):Option (((List Int) × Int) ⊕ (List Int)) :=
 cond (decide (s5.2 < (x0.Orders.length:Int))) (
  (loopO (l1_c g_a x0 x1 x2 s5) (s5.1,0)).bind fun r11 =>
  (rng (s5.2 + 1)).bind fun v12 =>
  some (.inl (r11,v12))) (
  some (.inr s5.1))
def b_c (g_a:SPr → Int → (List Int) → (List Int) → Option (List Int)) (x0:SPr) (x1:Int) (x2:List Int):Option (List Int) :=
 (lenOk (x0.Orders.length:Int)).bind fun m1 =>
 (rng (x1 + 1)).bind fun v2 =>
 (loopO (l2_c g_a x0 x1 x2) (List.replicate m1 (0:Int),v2)).bind fun r13 =>
 some r13
def l1_a (g_c:SPr → Int → (List Int) → Option (List Int)) (x0:SPr) (x1:Int) (x3:List Int) (s1:(List Int) × Int):Option (((List Int) × Int) ⊕ (List Int)) :=
 (ixO x3 x1).bind fun v6 =>
 cond (decide (s1.2 < v6)) (
  (g_c x0 x1 s1.1).bind fun r7 =>
  (rng (s1.2 + 1)).bind fun v8 =>
  some (.inl (r7,v8))) (
  some (.inr s1.1))
def b_a (g_c:SPr → Int → (List Int) → Option (List Int)) (g_a:SPr → Int → (List Int) → (List Int) → Option (List Int)) (x0:SPr) (x1:Int) (x2:List Int) (x3:List Int):Option (List Int) :=
 cond (decide (x1 ≥ (x0.Orders.length:Int))) (
  (lenOk (x0.Orders.length:Int)).bind fun m1 =>
  some (List.replicate m1 (0:Int))) (
  (f_v x2).bind fun r2 =>
  (f_v x3).bind fun r3 =>
  (ixO r2 x1).bind fun _ =>
  (ixO r3 x1).bind fun _ =>
  (loopO (l1_a g_c x0 x1 x3) (r2.set x1.toNat 0,0)).bind fun r9 =>
  (rng (x1 + 1)).bind fun v10 =>
  (g_a x0 v10 r9 (r3.set x1.toNat 0)).bind fun r11 =>
  (ixO x2 x1).bind fun v12 =>
  (ixO x3 x1).bind fun v13 =>
  (rng (v12 + v13)).bind fun v14 =>
  (ixO x0.Orders x1).bind fun v15 =>
  cond (decide (v14 ≥ v15)) (
   (ixO x0.Orders x1).bind fun v16 =>
   (rng (v14 - v16)).bind fun v17 =>
   (rng (x1 + 1)).bind fun v18 =>
   (ixO x0.Powers x1).bind fun v19 =>
   (g_a x0 v18 v19 r11).bind fun r20 =>
   (f_v r20).bind fun r21 =>
   (ixO r21 x1).bind fun _ =>
   some (r21.set x1.toNat v17)) (
   (f_v r11).bind fun r23 =>
   (ixO r23 x1).bind fun _ =>
   some (r23.set x1.toNat v14)))
mutual
def fN_c:Nat → SPr → Int → (List Int) → Option (List Int)
 | 0 => fun _ _ _ => none
 | n + 1 => b_c (fN_a n)
def fN_a:Nat → SPr → Int → (List Int) → (List Int) → Option (List Int)
 | 0 => fun _ _ _ _ => none
 | n + 1 => b_a (fN_c n) (fN_a n)
end
def f_c (x0:SPr) (x1:Int) (x2:List Int):Option (List Int):=fuelO fun n => fN_c n x0 x1 x2
def f_a (x0:SPr) (x1:Int) (x2:List Int) (x3:List Int):Option (List Int):=fuelO fun n => fN_a n x0 x1 x2 x3
def l1_aB (x0:SPr) (x1:Int) (s1:Int × (List Int) × (List Int)):Option ((Int × (List Int) × (List Int)) ⊕ (List Int)) :=
 cond (decide (s1.1 > 0)) (
  (remO s1.1 2).bind fun v2 =>
  cond (v2 == 1) (
   (f_a x0 x1 s1.2.1 s1.2.2).bind fun r3 =>
   (f_a x0 x1 s1.2.2 s1.2.2).bind fun r4 =>
   (quoO s1.1 2).bind fun v5 =>
   some (.inl (v5,r3,r4))) (
   (f_a x0 x1 s1.2.2 s1.2.2).bind fun r6 =>
   (quoO s1.1 2).bind fun v7 =>
   some (.inl (v7,s1.2.1,r6)))) (
  some (.inr s1.2.1))
def f_aB (x0:SPr) (x1:Int) (x2:List Int) (x3:Int):Option (List Int) :=
 (lenOk (x0.Orders.length:Int)).bind fun m1 =>
 (loopO (l1_aB x0 x1) (x3,List.replicate m1 (0:Int),x2)).bind fun r8 =>
 some r8
def l1_J (x0:List Int) (x1:List Int) (s1:Int):Option (Int ⊕ (Unit ⊕ Bool)) :=
 cond (decide (s1 < (x0.length:Int))) (
  (ixO x0 s1).bind fun v1 =>
  (ixO x1 s1).bind fun v2 =>
  cond (v1 != v2) (
   some (.inr (.inr false))) (
   (rng (s1 + 1)).bind fun v3 =>
   some (.inl v3))) (
  some (.inr (.inl ())))
def f_J (x0:List Int) (x1:List Int):Option Bool :=
 cond ((x0.length:Int) != (x1.length:Int)) (
  some false) (
  (loopO (l1_J x0 x1) 0).bind fun r4 =>
  match r4 with
  | (.inl r4) =>
   some true
  | (.inr r4) =>
   some r4)
def f_bk (x0:Int) (x1:Int):Option (List Int) :=
 (lenOk x0).bind fun m1 =>
 (ixO (List.replicate m1 (0:Int)) x1).bind fun _ =>
 some ((List.replicate m1 (0:Int)).set x1.toNat 1)
def l1_j (x0:SPr) (x1:Int) (s1:Int):Option (Int ⊕ (Unit ⊕ SFault)) :=
 cond (decide (s1 < (x0.Orders.length:Int))) (
  (rng (x1 + 1)).bind fun v2 =>
  (ixO x0.Conjugates x1).bind fun v3 =>
  (rng (s1 - x1)).bind fun v4 =>
  (rng (v4 - 1)).bind fun v5 =>
  (ixO v3 v5).bind fun v6 =>
  (ixO x0.Orders s1).bind fun v7 =>
  (f_aB x0 v2 v6 v7).bind fun r8 =>
  (ixO x0.Powers s1).bind fun v9 =>
  (f_c x0 x1 v9).bind fun r10 =>
  (f_J r8 r10).bind fun r11 =>
  cond (!r11) (
   some (.inr (.inr (SFault.mk 1 x1 s1 0)))) (
   (rng (s1 + 1)).bind fun v12 =>
   some (.inl v12))) (
  some (.inr (.inl ())))
def l2_j (x0:SPr) (x1:Int) (s7:Int) (s8:Int):Option (Int ⊕ (Unit ⊕ SFault)) :=
 cond (decide (s8 < (x0.Orders.length:Int))) (
  (ixO x0.Conjugates x1).bind fun v16 =>
  (rng (s7 - x1)).bind fun v17 =>
  (rng (v17 - 1)).bind fun v18 =>
  (ixO v16 v18).bind fun v19 =>
  (ixO x0.Conjugates x1).bind fun v20 =>
  (rng (s8 - x1)).bind fun v21 =>
  (rng (v21 - 1)).bind fun v22 =>
  (ixO v20 v22).bind fun v23 =>
  (ixO x0.Conjugates s7).bind fun v24 =>
  (rng (s8 - s7)).bind fun v25 =>
  (rng (v25 - 1)).bind fun v26 =>
  (ixO v24 v26).bind fun v27 =>
  (f_c x0 x1 v27).bind fun r28 =>
  (rng (x1 + 1)).bind fun v29 =>
  (f_a x0 v29 v23 v19).bind fun r30 =>
  (rng (x1 + 1)).bind fun v31 =>
  (f_a x0 v31 v19 r28).bind fun r32 =>
  (f_J r30 r32).bind fun r33 =>
  cond (!r33) (
   some (.inr (.inr (SFault.mk 2 x1 s7 s8)))) (
   (rng (s8 + 1)).bind fun v34 =>
   some (.inl v34))) (
  some (.inr (.inl ())))
def l3_j (x0:SPr) (x1:Int) (s7:Int):Option (Int ⊕ (Unit ⊕ SFault)) :=
 cond (decide (s7 < (x0.Orders.length:Int))) (
  (rng (s7 + 1)).bind fun v15 =>
  (loopO (l2_j x0 x1 s7) v15).bind fun r35 =>
  match r35 with
  | (.inl r35) =>
   (rng (s7 + 1)).bind fun v36 =>
   some (.inl v36)
  | (.inr r35) =>
   some (.inr (.inr r35))) (
  some (.inr (.inl ())))
def l4_j (x0:SPr) (x1:Int) (s16:(List Int) × Int):Option (((List Int) × Int) ⊕ (List Int)) :=
 (ixO x0.Orders x1).bind fun v43 =>
 cond (decide (s16.2 < v43)) (
  (f_c x0 x1 s16.1).bind fun r44 =>
  (rng (s16.2 + 1)).bind fun v45 =>
  some (.inl (r44,v45))) (
  some (.inr s16.1))
def l5_j (x0:SPr) (x1:Int) (v38:List Int) (s15:Int):Option (Int ⊕ (Unit ⊕ SFault)) :=
 cond (decide (s15 < (x0.Orders.length:Int))) (
  (f_bk (x0.Orders.length:Int) s15).bind fun r42 =>
  (loopO (l4_j x0 x1) (r42,0)).bind fun r46 =>
  (rng (x1 + 1)).bind fun v47 =>
  (f_a x0 v47 v38 r46).bind fun r48 =>
  (rng (x1 + 1)).bind fun v49 =>
  (f_a x0 v49 r42 v38).bind fun r50 =>
  (f_J r48 r50).bind fun r51 =>
  cond (!r51) (
   some (.inr (.inr (SFault.mk 4 x1 s15 0)))) (
   (rng (s15 + 1)).bind fun v52 =>
   some (.inl v52))) (
  some (.inr (.inl ())))
def f_j (x0:SPr) (x1:Int):Option SFault :=
 (rng (x1 + 1)).bind fun v1 =>
 (loopO (l1_j x0 x1) v1).bind fun r13 =>
 match r13 with
 | (.inl r13) =>
  (rng (x1 + 1)).bind fun v14 =>
  (loopO (l3_j x0 x1) v14).bind fun r37 =>
  match r37 with
  | (.inl r37) =>
   (ixO x0.Powers x1).bind fun v38 =>
   (f_c x0 x1 v38).bind fun r39 =>
   (f_J r39 v38).bind fun r40 =>
   cond (!r40) (
    some (SFault.mk 3 x1 0 0)) (
    (rng (x1 + 1)).bind fun v41 =>
    (loopO (l5_j x0 x1 v38) v41).bind fun r53 =>
    match r53 with
    | (.inl r53) =>
     some (SFault.mk 0 0 0 0)
    | (.inr r53) =>
     some r53)
  | (.inr r37) =>
   some r37
 | (.inr r13) =>
  some r13
def l1_aL (x0:SPr) (s1:Int):Option (Int ⊕ (Unit ⊕ SFault)) :=
 cond (decide (s1 ≥ 0)) (
  (f_j x0 s1).bind fun r2 =>
  cond (r2.Kind != 0) (
   some (.inr (.inr r2))) (
   (rng (s1 - 1)).bind fun v3 =>
   some (.inl v3))) (
  some (.inr (.inl ())))
def f_aL (x0:SPr):Option SFault :=
 (rng ((x0.Orders.length:Int) - 1)).bind fun v1 =>
 (loopO (l1_aL x0) v1).bind fun r4 =>
 match r4 with
 | (.inl r4) =>
  some (SFault.mk 0 0 0 0)
 | (.inr r4) =>
  some r4
def f_bv (x0:SPr):Option Bool :=
 (f_aL x0).bind fun r1 =>
 some (r1.Kind == 0)
def f_bl (x0:SPr):Option Bool :=
 (f_u x0).bind fun r1 =>
 cond r1 (
  (f_bv x0).bind fun r2 =>
  some r2) (
  some false)
def l1_aD (x0:Int) (x2:List Int) (s1:Int):Option (Int ⊕ (Unit ⊕ Bool)) :=
 cond (decide (s1 < (x2.length:Int))) (
  (ixO x2 s1).bind fun v1 =>
  (rng (x0 - 1)).bind fun v2 =>
  (f_ba v1 0 v2).bind fun r3 =>
  cond (!r3) (
   some (.inr (.inr false))) (
   (rng (s1 + 1)).bind fun v4 =>
   some (.inl v4))) (
  some (.inr (.inl ())))
def f_aD (x0:Int) (x1:Int) (x2:List Int):Option Bool :=
 cond ((x2.length:Int) != x1) (
  some false) (
  (loopO (l1_aD x0 x2) 0).bind fun r5 =>
  match r5 with
  | (.inl r5) =>
   some true
  | (.inr r5) =>
   some r5)
def l1_aN (x0:Int) (x1:Int) (x2:List (List Int)) (s1:Int):Option (Int ⊕ (Unit ⊕ Bool)) :=
 cond (decide (s1 < (x2.length:Int))) (
  (ixO x2 s1).bind fun v1 =>
  (f_aD x0 x1 v1).bind fun r2 =>
  cond (!r2) (
   some (.inr (.inr false))) (
   (rng (s1 + 1)).bind fun v3 =>
   some (.inl v3))) (
  some (.inr (.inl ())))
def f_aN (x0:Int) (x1:Int) (x2:List (List Int)):Option Bool :=
 cond ((x2.length:Int) != x1) (
  some false) (
  (loopO (l1_aN x0 x1 x2) 0).bind fun r4 =>
  match r4 with
  | (.inl r4) =>
   some true
  | (.inr r4) =>
   some r4)
def l1_am (x0:Int) (s1:(List (List Int)) × Int):Option (((List (List Int)) × Int) ⊕ (List (List Int))) :=
 cond (decide (s1.2 < x0)) (
  (lenOk x0).bind fun m1 =>
  (ixO (List.replicate m1 (0:Int)) s1.2).bind fun _ =>
  (appO s1.1 [(List.replicate m1 (0:Int)).set s1.2.toNat 1]).bind fun v3 =>
  (rng (s1.2 + 1)).bind fun v4 =>
  some (.inl (v3,v4))) (
  some (.inr s1.1))
def f_am (x0:Int):Option (List (List Int)) :=
 (loopO (l1_am x0) ([],0)).bind fun r5 =>
 some r5
def l1_E (x0:Int) (x1:List Int) (x2:List (List Int)) (s5:(List Int) × Int) (s6:(List Int) × Int):Option (((List Int) × Int) ⊕ (List Int)) :=
 cond (decide (s6.2 < (s6.1.length:Int))) (
  (ixO x2 s5.2).bind fun v2 =>
  cond (decide (s6.2 < (v2.length:Int))) (
   (ixO s6.1 s6.2).bind fun v3 =>
   (ixO x1 s5.2).bind fun v4 =>
   (ixO x2 s5.2).bind fun v5 =>
   (ixO v5 s6.2).bind fun v6 =>
   (rng (v4 * v6)).bind fun v7 =>
   (rng (v3 + v7)).bind fun v8 =>
   (remO v8 x0).bind fun v9 =>
   (ixO s6.1 s6.2).bind fun _ =>
   (rng (s6.2 + 1)).bind fun v11 =>
   some (.inl (s6.1.set s6.2.toNat v9,v11))) (
   some (.inr s6.1))) (
  some (.inr s6.1))
def l2_E (x0:Int) (x1:List Int) (x2:List (List Int)) (s5:(List Int) × Int):Option (((List Int) × Int) ⊕ (List Int)) :=
 cond (decide (s5.2 < (x1.length:Int))) (
  cond (decide (s5.2 < (x2.length:Int))) (
   (loopO (l1_E x0 x1 x2 s5) (s5.1,0)).bind fun r12 =>
   (rng (s5.2 + 1)).bind fun v13 =>
   some (.inl (r12,v13))) (
   some (.inr s5.1))) (
  some (.inr s5.1))
def f_E (x0:Int) (x1:List Int) (x2:List (List Int)) (x3:Int):Option (List Int) :=
 (lenOk x3).bind fun m1 =>
 (loopO (l2_E x0 x1 x2) (List.replicate m1 (0:Int),0)).bind fun r14 =>
 some r14
def l1_P (x0:Int) (x1:List (List Int)) (x2:List (List Int)) (x3:Int) (s1:(List (List Int)) × Int):Option (((List (List Int)) × Int) ⊕ (List (List Int))) :=
 cond (decide (s1.2 < (x1.length:Int))) (
  (ixO x1 s1.2).bind fun v1 =>
  (f_E x0 v1 x2 x3).bind fun r2 =>
  (appO s1.1 [r2]).bind fun v3 =>
  (rng (s1.2 + 1)).bind fun v4 =>
  some (.inl (v3,v4))) (
  some (.inr s1.1))
def f_P (x0:Int) (x1:List (List Int)) (x2:List (List Int)) (x3:Int):Option (List (List Int)) :=
 (loopO (l1_P x0 x1 x2 x3) ([],0)).bind fun r5 =>
 some r5
def l1_H (x0:SModule) (x1:List Int) (s5:(List (List Int)) × Int) (s6:(List (List Int)) × Int):Option (((List (List Int)) × Int) ⊕ (List (List Int))) :=
 (ixO x1 s5.2).bind fun v2 =>
 cond (decide (s6.2 < v2)) (
  (ixO x0.Actions s5.2).bind fun v3 =>
  (f_P x0.Prime s6.1 v3 x0.Dim).bind fun r4 =>
  (rng (s6.2 + 1)).bind fun v5 =>
  some (.inl (r4,v5))) (
  some (.inr s6.1))
def l2_H (x0:SModule) (x1:List Int) (s5:(List (List Int)) × Int):Option (((List (List Int)) × Int) ⊕ (List (List Int))) :=
 cond (decide (s5.2 < (x1.length:Int))) (
  (loopO (l1_H x0 x1 s5) (s5.1,0)).bind fun r6 =>
  (rng (s5.2 + 1)).bind fun v7 =>
  some (.inl (r6,v7))) (
  some (.inr s5.1))
def f_H (x0:SModule) (x1:List Int):Option (List (List Int)) :=
 (f_am x0.Dim).bind fun r1 =>
 (loopO (l2_H x0 x1) (r1,0)).bind fun r8 =>
 some r8
def l1_aT (x0:List (List Int)) (x1:List (List Int)) (s1:Int):Option (Int ⊕ (Unit ⊕ Bool)) :=
 cond (decide (s1 < (x0.length:Int))) (
  (ixO x0 s1).bind fun v1 =>
  (ixO x1 s1).bind fun v2 =>
  (f_J v1 v2).bind fun r3 =>
  cond (!r3) (
   some (.inr (.inr false))) (
   (rng (s1 + 1)).bind fun v4 =>
   some (.inl v4))) (
  some (.inr (.inl ())))
def f_aT (x0:List (List Int)) (x1:List (List Int)):Option Bool :=
 cond ((x0.length:Int) != (x1.length:Int)) (
  some false) (
  (loopO (l1_aT x0 x1) 0).bind fun r5 =>
  match r5 with
  | (.inl r5) =>
   some true
  | (.inr r5) =>
   some r5)
def l1_p (x0:SPr) (x1:SModule) (s1:Int):Option (Int ⊕ (Unit ⊕ Bool)) :=
 cond (decide (s1 < (x0.Orders.length:Int))) (
  (ixO x1.Actions s1).bind fun v3 =>
  (f_aN x1.Prime x1.Dim v3).bind fun r4 =>
  cond (!r4) (
   some (.inr (.inr false))) (
   (rng (s1 + 1)).bind fun v5 =>
   some (.inl v5))) (
  some (.inr (.inl ())))
def l2_p (x0:SPr) (x1:SModule) (s11:Int) (s12:(List (List Int)) × Int):Option (((List (List Int)) × Int) ⊕ (List (List Int))) :=
 (ixO x0.Orders s11).bind fun v8 =>
 cond (decide (s12.2 < v8)) (
  (ixO x1.Actions s11).bind fun v9 =>
  (f_P x1.Prime s12.1 v9 x1.Dim).bind fun r10 =>
  (rng (s12.2 + 1)).bind fun v11 =>
  some (.inl (r10,v11))) (
  some (.inr s12.1))
def l3_p (x0:SPr) (x1:SModule) (s11:Int) (s14:Int):Option (Int ⊕ (Unit ⊕ Bool)) :=
 cond (decide (s14 < (x0.Orders.length:Int))) (
  (ixO x1.Actions s14).bind fun v17 =>
  (ixO x1.Actions s11).bind fun v18 =>
  (f_P x1.Prime v17 v18 x1.Dim).bind fun r19 =>
  (ixO x1.Actions s11).bind fun v20 =>
  (ixO x0.Conjugates s11).bind fun v21 =>
  (rng (s14 - s11)).bind fun v22 =>
  (rng (v22 - 1)).bind fun v23 =>
  (ixO v21 v23).bind fun v24 =>
  (f_H x1 v24).bind fun r25 =>
  (f_P x1.Prime v20 r25 x1.Dim).bind fun r26 =>
  (f_aT r19 r26).bind fun r27 =>
  cond (!r27) (
   some (.inr (.inr false))) (
   (rng (s14 + 1)).bind fun v28 =>
   some (.inl v28))) (
  some (.inr (.inl ())))
def l4_p (x0:SPr) (x1:SModule) (s11:Int):Option (Int ⊕ (Unit ⊕ Bool)) :=
 cond (decide (s11 < (x0.Orders.length:Int))) (
  (f_am x1.Dim).bind fun r7 =>
  (loopO (l2_p x0 x1 s11) (r7,0)).bind fun r12 =>
  (ixO x0.Powers s11).bind fun v13 =>
  (f_H x1 v13).bind fun r14 =>
  (f_aT r12 r14).bind fun r15 =>
  cond (!r15) (
   some (.inr (.inr false))) (
   (rng (s11 + 1)).bind fun v16 =>
   (loopO (l3_p x0 x1 s11) v16).bind fun r29 =>
   match r29 with
   | (.inl r29) =>
    (rng (s11 + 1)).bind fun v30 =>
    some (.inl v30)
   | (.inr r29) =>
    some (.inr (.inr r29)))) (
  some (.inr (.inl ())))
def f_p (x0:SPr) (x1:SModule):Option Bool :=
 (f_bj x1.Prime).bind fun r1 =>
 cond (!r1) (
  some false) (
  (f_ba x1.Dim 1 3).bind fun r2 =>
  cond (!r2) (
   some false) (
   cond ((x1.Actions.length:Int) != (x0.Orders.length:Int)) (
    some false) (
    (loopO (l1_p x0 x1) 0).bind fun r6 =>
    match r6 with
    | (.inl r6) =>
     (loopO (l4_p x0 x1) 0).bind fun r31 =>
     match r31 with
     | (.inl r31) =>
      some true
     | (.inr r31) =>
      some r31
    | (.inr r6) =>
     some r6)))
def f_bm (x0:SPr) (x1:SModule):Option Bool :=
 (f_bl x0).bind fun r1 =>
 cond r1 (
  (f_p x0 x1).bind fun r2 =>
  some r2) (
  some false)
def f_aJ (x0:Int):Option Bool :=
 cond (x0 == 2) (
  some true) (
  cond (x0 == 3) (
   some true) (
   cond (x0 == 5) (
    some true) (
    some (x0 == 7))))
def f_aI (x0:Int) (x1:Int) (x2:Int):Option Bool :=
 cond (decide (x0 ≥ x1)) (
  some (decide (x0 ≤ x2))) (
  some false)
def l1_aK (x0:SPr) (x1:List Int) (s1:Int):Option (Int ⊕ (Unit ⊕ Bool)) :=
 cond (decide (s1 < (x1.length:Int))) (
  (ixO x1 s1).bind fun v1 =>
  (ixO x0.Orders s1).bind fun v2 =>
  (rng (v2 - 1)).bind fun v3 =>
  (f_aI v1 0 v3).bind fun r4 =>
  cond (!r4) (
   some (.inr (.inr false))) (
   (rng (s1 + 1)).bind fun v5 =>
   some (.inl v5))) (
  some (.inr (.inl ())))
def f_aK (x0:SPr) (x1:List Int):Option Bool :=
 cond ((x1.length:Int) != (x0.Orders.length:Int)) (
  some false) (
  (loopO (l1_aK x0 x1) 0).bind fun r6 =>
  match r6 with
  | (.inl r6) =>
   some true
  | (.inr r6) =>
   some r6)
def l1_al (x0:List Int) (s1:Int):Option (Int ⊕ (Unit ⊕ Bool)) :=
 cond (decide (s1 < (x0.length:Int))) (
  (ixO x0 s1).bind fun v1 =>
  cond (v1 != 0) (
   some (.inr (.inr false))) (
   (rng (s1 + 1)).bind fun v2 =>
   some (.inl v2))) (
  some (.inr (.inl ())))
def f_al (x0:List Int):Option Bool :=
 (loopO (l1_al x0) 0).bind fun r3 =>
 match r3 with
 | (.inl r3) =>
  some true
 | (.inr r3) =>
  some r3
def f_bb (x0:SPr) (x1:Int) (x2:List Int):Option Bool :=
 (f_aK x0 x2).bind fun r1 =>
 cond r1 (
  (rng (x1 + 1)).bind fun v2 =>
  (sliceO x2 0 v2).bind fun v3 =>
  (f_al v3).bind fun r4 =>
  some r4) (
  some false)
def l1_r (x0:SPr) (s1:Int × Int):Option ((Int × Int) ⊕ (Unit ⊕ Bool)) :=
 cond (decide (s1.2 < (x0.Orders.length:Int))) (
  (ixO x0.Orders s1.2).bind fun v1 =>
  (f_aJ v1).bind fun r2 =>
  cond (!r2) (
   some (.inr (.inr false))) (
   (rng (s1.1 * v1)).bind fun v3 =>
   cond (decide (v3 > 729)) (
    some (.inr (.inr false))) (
    (rng (s1.1 * v1)).bind fun v4 =>
    (rng (s1.2 + 1)).bind fun v5 =>
    some (.inl (v4,v5))))) (
  some (.inr (.inl ())))
def l2_r (x0:SPr) (s7:Int) (v12:List (List Int)) (s8:Int):Option (Int ⊕ (Unit ⊕ Bool)) :=
 cond (decide (s8 < (v12.length:Int))) (
  (ixO v12 s8).bind fun v13 =>
  (f_bb x0 s7 v13).bind fun r14 =>
  cond (!r14) (
   some (.inr (.inr false))) (
   (rng (s8 + 1)).bind fun v15 =>
   some (.inl v15))) (
  some (.inr (.inl ())))
def l3_r (x0:SPr) (s7:Int):Option (Int ⊕ (Unit ⊕ Bool)) :=
 cond (decide (s7 < (x0.Orders.length:Int))) (
  (ixO x0.Powers s7).bind fun v7 =>
  (f_bb x0 s7 v7).bind fun r8 =>
  cond (!r8) (
   some (.inr (.inr false))) (
   (ixO x0.Conjugates s7).bind fun v9 =>
   (rng ((x0.Orders.length:Int) - 1)).bind fun v10 =>
   (rng (v10 - s7)).bind fun v11 =>
   cond ((v9.length:Int) != v11) (
    some (.inr (.inr false))) (
    (ixO x0.Conjugates s7).bind fun v12 =>
    (loopO (l2_r x0 s7 v12) 0).bind fun r16 =>
    match r16 with
    | (.inl r16) =>
     (rng (s7 + 1)).bind fun v17 =>
     some (.inl v17)
    | (.inr r16) =>
     some (.inr (.inr r16))))) (
  some (.inr (.inl ())))
def f_r (x0:SPr):Option Bool :=
 cond (decide ((x0.Orders.length:Int) > 6)) (
  some false) (
  cond ((x0.Powers.length:Int) != (x0.Orders.length:Int)) (
   some false) (
   cond ((x0.Conjugates.length:Int) != (x0.Orders.length:Int)) (
    some false) (
    (loopO (l1_r x0) (1,0)).bind fun r6 =>
    match r6 with
    | (.inl r6) =>
     (loopO (l3_r x0) 0).bind fun r18 =>
     match r18 with
     | (.inl r18) =>
      some true
     | (.inr r18) =>
      some r18
    | (.inr r6) =>
     some r6)))
def f_w (x0:List Int):Option (List Int) :=
 (appO [] x0).bind fun v2 =>
 some v2
def l1_b (x2:Int) (r3:(List Int)) (s1:(List Int) × Int):Option (((List Int) × Int) ⊕ (List Int)) :=
 cond (decide (s1.2 < (r3.length:Int))) (
  (rng (x2 + 1)).bind fun v4 =>
  (rng (v4 + s1.2)).bind fun v5 =>
  (ixO s1.1 v5).bind fun _ =>
  (rng (s1.2 + 1)).bind fun v7 =>
  some (.inl (s1.1.set v5.toNat 0,v7))) (
  some (.inr s1.1))
def l2_b (g_d:SPr → (List Int) → (List Int) → Option (List Int)) (x0:SPr) (x2:Int) (s7:(List Int) × Int) (v17:Int) (s8:(List Int) × Int):Option (((List Int) × Int) ⊕ (List Int)) :=
 cond (decide (s8.2 < v17)) (
  (ixO x0.Conjugates x2).bind fun v18 =>
  (ixO v18 s7.2).bind fun v19 =>
  (g_d x0 s8.1 v19).bind fun r20 =>
  (rng (s8.2 + 1)).bind fun v21 =>
  some (.inl (r20,v21))) (
  some (.inr s8.1))
def l3_b (g_d:SPr → (List Int) → (List Int) → Option (List Int)) (x0:SPr) (x2:Int) (r3:(List Int)) (s7:(List Int) × Int):Option (((List Int) × Int) ⊕ (List Int)) :=
 cond (decide (s7.2 < (r3.length:Int))) (
  (ixO r3 s7.2).bind fun v17 =>
  (loopO (l2_b g_d x0 x2 s7 v17) (s7.1,0)).bind fun r22 =>
  (rng (s7.2 + 1)).bind fun v23 =>
  some (.inl (r22,v23))) (
  some (.inr s7.1))
def l4_b (g_d:SPr → (List Int) → (List Int) → Option (List Int)) (x0:SPr) (x2:Int) (s15:(List Int) × Int) (v25:Int) (s16:(List Int) × Int):Option (((List Int) × Int) ⊕ (List Int)) :=
 cond (decide (s16.2 < v25)) (
  (ixO x0.Conjugates x2).bind fun v26 =>
  (ixO v26 s15.2).bind fun v27 =>
  (g_d x0 s16.1 v27).bind fun r28 =>
  (rng (s16.2 + 1)).bind fun v29 =>
  some (.inl (r28,v29))) (
  some (.inr s16.1))
def l5_b (g_d:SPr → (List Int) → (List Int) → Option (List Int)) (x0:SPr) (x2:Int) (r3:(List Int)) (s15:(List Int) × Int):Option (((List Int) × Int) ⊕ (List Int)) :=
 cond (decide (s15.2 < (r3.length:Int))) (
  (ixO r3 s15.2).bind fun v25 =>
  (loopO (l4_b g_d x0 x2 s15 v25) (s15.1,0)).bind fun r30 =>
  (rng (s15.2 + 1)).bind fun v31 =>
  some (.inl (r30,v31))) (
  some (.inr s15.1))
def b_b (g_d:SPr → (List Int) → (List Int) → Option (List Int)) (x0:SPr) (x1:List Int) (x2:Int):Option (List Int) :=
 (rng (x2 + 1)).bind fun v1 =>
 (sliceO x1 v1 x1.length).bind fun v2 =>
 (f_w v2).bind fun r3 =>
 (loopO (l1_b x2 r3) (x1,0)).bind fun r8 =>
 (ixO r8 x2).bind fun v9 =>
 (rng (v9 + 1)).bind fun v10 =>
 (ixO r8 x2).bind fun _ =>
 (ixO (r8.set x2.toNat v10) x2).bind fun v12 =>
 (ixO x0.Orders x2).bind fun v13 =>
 cond (v12 == v13) (
  (ixO (r8.set x2.toNat v10) x2).bind fun _ =>
  (ixO x0.Powers x2).bind fun v15 =>
  (g_d x0 ((r8.set x2.toNat v10).set x2.toNat 0) v15).bind fun r16 =>
  (loopO (l3_b g_d x0 x2 r3) (r16,0)).bind fun r24 =>
  some r24) (
  (loopO (l5_b g_d x0 x2 r3) (r8.set x2.toNat v10,0)).bind fun r32 =>
  some r32)
def l1_d (g_b:SPr → (List Int) → Int → Option (List Int)) (x0:SPr) (s5:(List Int) × Int) (v1:Int) (s6:(List Int) × Int):Option (((List Int) × Int) ⊕ (List Int)) :=
 cond (decide (s6.2 < v1)) (
  (g_b x0 s6.1 s5.2).bind fun r2 =>
  (rng (s6.2 + 1)).bind fun v3 =>
  some (.inl (r2,v3))) (
  some (.inr s6.1))
def l2_d (g_b:SPr → (List Int) → Int → Option (List Int)) (x0:SPr) (x2:List Int) (s5:(List Int) × Int):Option (((List Int) × Int) ⊕ (List Int)) :=
 cond (decide (s5.2 < (x2.length:Int))) (
  (ixO x2 s5.2).bind fun v1 =>
  (loopO (l1_d g_b x0 s5 v1) (s5.1,0)).bind fun r4 =>
  (rng (s5.2 + 1)).bind fun v5 =>
  some (.inl (r4,v5))) (
  some (.inr s5.1))
def b_d (g_b:SPr → (List Int) → Int → Option (List Int)) (x0:SPr) (x1:List Int) (x2:List Int):Option (List Int) :=
 (loopO (l2_d g_b x0 x2) (x1,0)).bind fun r6 =>
 some r6
mutual
def fN_b:Nat → SPr → (List Int) → Int → Option (List Int)
 | 0 => fun _ _ _ => none
 | n + 1 => b_b (fN_d n)
def fN_d:Nat → SPr → (List Int) → (List Int) → Option (List Int)
 | 0 => fun _ _ _ => none
 | n + 1 => b_d (fN_b n)
end
def f_b (x0:SPr) (x1:List Int) (x2:Int):Option (List Int):=fuelO fun n => fN_b n x0 x1 x2
def f_d (x0:SPr) (x1:List Int) (x2:List Int):Option (List Int):=fuelO fun n => fN_d n x0 x1 x2
def l1_az (x0:SPr) (x1:List Int) (x2:Int) (s1:(List Int) × Int):Option (((List Int) × Int) ⊕ (List Int)) :=
 cond (decide (s1.2 < x2)) (
  (f_d x0 s1.1 x1).bind fun r2 =>
  (rng (s1.2 + 1)).bind fun v3 =>
  some (.inl (r2,v3))) (
  some (.inr s1.1))
def f_az (x0:SPr) (x1:List Int) (x2:Int):Option (List Int) :=
 (lenOk (x1.length:Int)).bind fun m1 =>
 (loopO (l1_az x0 x1 x2) (List.replicate m1 (0:Int),0)).bind fun r4 =>
 some r4
def l1_B (x0:SPr) (v3:List Int) (v6:Int) (s6:(List Int) × Int):Option (((List Int) × Int) ⊕ (List Int)) :=
 cond (decide (s6.2 < v6)) (
  (f_d x0 s6.1 v3).bind fun r7 =>
  (rng (s6.2 + 1)).bind fun v8 =>
  some (.inl (r7,v8))) (
  some (.inr s6.1))
def l2_B (x0:SPr) (x1:Int) (x2:List Int) (v2:List (List Int)) (s5:(List Int) × Int):Option (((List Int) × Int) ⊕ (List Int)) :=
 cond (decide (s5.2 < (v2.length:Int))) (
  (ixO v2 s5.2).bind fun v3 =>
  (rng (x1 + 1)).bind fun v4 =>
  (rng (v4 + s5.2)).bind fun v5 =>
  (ixO x2 v5).bind fun v6 =>
  (loopO (l1_B x0 v3 v6) (s5.1,0)).bind fun r9 =>
  (rng (s5.2 + 1)).bind fun v10 =>
  some (.inl (r9,v10))) (
  some (.inr s5.1))
def f_B (x0:SPr) (x1:Int) (x2:List Int):Option (List Int) :=
 (lenOk (x2.length:Int)).bind fun m1 =>
 (ixO x0.Conjugates x1).bind fun v2 =>
 (loopO (l2_B x0 x1 x2 v2) (List.replicate m1 (0:Int),0)).bind fun r11 =>
 some r11
def l1_O (x0:List Int) (x1:List Int) (s1:Int):Option (Int ⊕ (Unit ⊕ Bool)) :=
 cond (decide (s1 < (x0.length:Int))) (
  (ixO x0 s1).bind fun v1 =>
  (ixO x1 s1).bind fun v2 =>
  cond (v1 != v2) (
   some (.inr (.inr false))) (
   (rng (s1 + 1)).bind fun v3 =>
   some (.inl v3))) (
  some (.inr (.inl ())))
def f_O (x0:List Int) (x1:List Int):Option Bool :=
 cond ((x0.length:Int) != (x1.length:Int)) (
  some false) (
  (loopO (l1_O x0 x1) 0).bind fun r4 =>
  match r4 with
  | (.inl r4) =>
   some true
  | (.inr r4) =>
   some r4)
def l1_G (x0:SPr) (s5:(List Int) × (List Int) × Int) (s6:(List Int) × (List Int)):Option (((List Int) × (List Int)) ⊕ ((List Int) × (List Int))) :=
 (ixO s6.1 s5.2.2).bind fun v3 =>
 cond (v3 != 0) (
  (f_b x0 s6.1 s5.2.2).bind fun r4 =>
  (f_b x0 s6.2 s5.2.2).bind fun r5 =>
  some (.inl (r4,r5))) (
  some (.inr (s6.1,s6.2)))
def l2_G (x0:SPr) (r1:(List Int)) (s5:(List Int) × (List Int) × Int):Option (((List Int) × (List Int) × Int) ⊕ (List Int)) :=
 cond (decide (s5.2.2 < (r1.length:Int))) (
  (loopO (l1_G x0 s5) (s5.1,s5.2.1)).bind fun r6 =>
  (rng (s5.2.2 + 1)).bind fun v7 =>
  some (.inl (r6.1,r6.2,v7))) (
  some (.inr s5.2.1))
def f_G (x0:SPr) (x1:List Int):Option (List Int) :=
 (f_w x1).bind fun r1 =>
 (lenOk (x1.length:Int)).bind fun m2 =>
 (loopO (l2_G x0 r1) (r1,List.replicate m2 (0:Int),0)).bind fun r8 =>
 some r8
def f_bc (x0:SPr) (x1:List Int) (x2:List Int):Option (List Int) :=
 (f_w x1).bind fun r1 =>
 (f_d x0 r1 x2).bind fun r2 =>
 some r2
def f_bd (x0:SPr) (x1:List Int) (x2:List Int):Option (List Int) :=
 (f_G x0 x2).bind fun r1 =>
 (f_bc x0 x1 x2).bind fun r2 =>
 (f_bc x0 r1 r2).bind fun r3 =>
 some r3
def f_aA (x0:Int) (x1:Int):Option (List Int) :=
 (lenOk x0).bind fun m1 =>
 (ixO (List.replicate m1 (0:Int)) x1).bind fun _ =>
 some ((List.replicate m1 (0:Int)).set x1.toNat 1)
def l1_l (x0:SPr) (x1:Int) (s1:Int):Option (Int ⊕ (Unit ⊕ SFault)) :=
 cond (decide (s1 < (x0.Orders.length:Int))) (
  (ixO x0.Conjugates x1).bind fun v2 =>
  (rng (s1 - x1)).bind fun v3 =>
  (rng (v3 - 1)).bind fun v4 =>
  (ixO v2 v4).bind fun v5 =>
  (ixO x0.Orders s1).bind fun v6 =>
  (f_az x0 v5 v6).bind fun r7 =>
  (ixO x0.Powers s1).bind fun v8 =>
  (f_B x0 x1 v8).bind fun r9 =>
  (f_O r7 r9).bind fun r10 =>
  cond (!r10) (
   some (.inr (.inr (SFault.mk 1 x1 s1 0)))) (
   (rng (s1 + 1)).bind fun v11 =>
   some (.inl v11))) (
  some (.inr (.inl ())))
def l2_l (x0:SPr) (x1:Int) (s7:Int) (s8:Int):Option (Int ⊕ (Unit ⊕ SFault)) :=
 cond (decide (s8 < (x0.Orders.length:Int))) (
  (ixO x0.Conjugates x1).bind fun v15 =>
  (rng (s8 - x1)).bind fun v16 =>
  (rng (v16 - 1)).bind fun v17 =>
  (ixO v15 v17).bind fun v18 =>
  (ixO x0.Conjugates x1).bind fun v19 =>
  (rng (s7 - x1)).bind fun v20 =>
  (rng (v20 - 1)).bind fun v21 =>
  (ixO v19 v21).bind fun v22 =>
  (f_bd x0 v18 v22).bind fun r23 =>
  (ixO x0.Conjugates s7).bind fun v24 =>
  (rng (s8 - s7)).bind fun v25 =>
  (rng (v25 - 1)).bind fun v26 =>
  (ixO v24 v26).bind fun v27 =>
  (f_B x0 x1 v27).bind fun r28 =>
  (f_O r23 r28).bind fun r29 =>
  cond (!r29) (
   some (.inr (.inr (SFault.mk 2 x1 s7 s8)))) (
   (rng (s8 + 1)).bind fun v30 =>
   some (.inl v30))) (
  some (.inr (.inl ())))
def l3_l (x0:SPr) (x1:Int) (s7:Int):Option (Int ⊕ (Unit ⊕ SFault)) :=
 cond (decide (s7 < (x0.Orders.length:Int))) (
  (rng (s7 + 1)).bind fun v14 =>
  (loopO (l2_l x0 x1 s7) v14).bind fun r31 =>
  match r31 with
  | (.inl r31) =>
   (rng (s7 + 1)).bind fun v32 =>
   some (.inl v32)
  | (.inr r31) =>
   some (.inr (.inr r31))) (
  some (.inr (.inl ())))
def l4_l (x0:SPr) (x1:Int) (v39:Int) (s16:(List Int) × Int):Option (((List Int) × Int) ⊕ (List Int)) :=
 cond (decide (s16.2 < v39)) (
  (f_B x0 x1 s16.1).bind fun r40 =>
  (rng (s16.2 + 1)).bind fun v41 =>
  some (.inl (r40,v41))) (
  some (.inr s16.1))
def l5_l (x0:SPr) (x1:Int) (v34:List Int) (s15:Int):Option (Int ⊕ (Unit ⊕ SFault)) :=
 cond (decide (s15 < (x0.Orders.length:Int))) (
  (f_aA (x0.Orders.length:Int) s15).bind fun r38 =>
  (ixO x0.Orders x1).bind fun v39 =>
  (loopO (l4_l x0 x1 v39) (r38,0)).bind fun r42 =>
  (f_aA (x0.Orders.length:Int) s15).bind fun r43 =>
  (f_bd x0 r43 v34).bind fun r44 =>
  (f_O r42 r44).bind fun r45 =>
  cond (!r45) (
   some (.inr (.inr (SFault.mk 4 x1 s15 0)))) (
   (rng (s15 + 1)).bind fun v46 =>
   some (.inl v46))) (
  some (.inr (.inl ())))
def f_l (x0:SPr) (x1:Int):Option SFault :=
 (rng (x1 + 1)).bind fun v1 =>
 (loopO (l1_l x0 x1) v1).bind fun r12 =>
 match r12 with
 | (.inl r12) =>
  (rng (x1 + 1)).bind fun v13 =>
  (loopO (l3_l x0 x1) v13).bind fun r33 =>
  match r33 with
  | (.inl r33) =>
   (ixO x0.Powers x1).bind fun v34 =>
   (f_B x0 x1 v34).bind fun r35 =>
   (f_O r35 v34).bind fun r36 =>
   cond (!r36) (
    some (SFault.mk 3 x1 0 0)) (
    (rng (x1 + 1)).bind fun v37 =>
    (loopO (l5_l x0 x1 v34) v37).bind fun r47 =>
    match r47 with
    | (.inl r47) =>
     some (SFault.mk 0 0 0 0)
    | (.inr r47) =>
     some r47)
  | (.inr r33) =>
   some r33
 | (.inr r12) =>
  some r12
def l1_L (x0:SPr) (s1:Int):Option (Int ⊕ Int) :=
 cond (decide (s1 > 0)) (
  (rng (s1 - 1)).bind fun v1 =>
  (f_l x0 v1).bind fun r2 =>
  cond (r2.Kind == 0 && (r2.Level == 0 && (r2.First == 0 && r2.Second == 0))) (
   (rng (s1 - 1)).bind fun v3 =>
   some (.inl v3)) (
   some (.inr s1))) (
  some (.inr s1))
def f_L (x0:SPr):Option Int :=
 (loopO (l1_L x0) (x0.Orders.length:Int)).bind fun r4 =>
 some r4
def f_aR (x0:SPr):Option Bool :=
 (f_r x0).bind fun r1 =>
 cond r1 (
  (f_L x0).bind fun r2 =>
  some (r2 == 0)) (
  some false)
def f_aS (x0:SModule) (x1:Int):Option SMatrix :=
 (ixO x0.Actions x1).bind fun v1 =>
 some (SMatrix.mk x0.Prime x0.Dim v1)
def l1_aC (x0:List Int) (x1:Int) (s1:Int):Option (Int ⊕ (Unit ⊕ Bool)) :=
 cond (decide (s1 < (x0.length:Int))) (
  (ixO x0 s1).bind fun v1 =>
  (rng (x1 - 1)).bind fun v2 =>
  (f_aI v1 0 v2).bind fun r3 =>
  cond (!r3) (
   some (.inr (.inr false))) (
   (rng (s1 + 1)).bind fun v4 =>
   some (.inl v4))) (
  some (.inr (.inl ())))
def f_aC (x0:List Int) (x1:Int) (x2:Int):Option Bool :=
 cond ((x0.length:Int) != x2) (
  some false) (
  (loopO (l1_aC x0 x1) 0).bind fun r5 =>
  match r5 with
  | (.inl r5) =>
   some true
  | (.inr r5) =>
   some r5)
def l1_an (x0:SMatrix) (s1:Int):Option (Int ⊕ (Unit ⊕ Bool)) :=
 cond (decide (s1 < (x0.Rows.length:Int))) (
  (ixO x0.Rows s1).bind fun v3 =>
  (f_aC v3 x0.Prime x0.Columns).bind fun r4 =>
  cond (!r4) (
   some (.inr (.inr false))) (
   (rng (s1 + 1)).bind fun v5 =>
   some (.inl v5))) (
  some (.inr (.inl ())))
def f_an (x0:SMatrix):Option Bool :=
 (f_aJ x0.Prime).bind fun r1 =>
 cond (!r1) (
  some false) (
  (f_aI x0.Columns 0 8).bind fun r2 =>
  cond (!r2) (
   some false) (
   cond (decide ((x0.Rows.length:Int) > 8)) (
    some false) (
    (loopO (l1_an x0) 0).bind fun r6 =>
    match r6 with
    | (.inl r6) =>
     some true
    | (.inr r6) =>
     some r6)))
def f_by (x0:Int) (x1:Int):Option (Int × Int) :=
 some ((IntKind.wrap .u64 ((IntKind.wrap .u64 ((IntKind.wrap .u64 ((Int.fdiv x0 (2 ^ (min (32:Int).toNat (IntKind.bits .u64)))) * (Int.fdiv x1 (2 ^ (min (32:Int).toNat (IntKind.bits .u64)))))) + (Int.fdiv (IntKind.wrap .u64 ((IntKind.wrap .u64 ((Int.fdiv x0 (2 ^ (min (32:Int).toNat (IntKind.bits .u64)))) * (andU .u64 x1 4294967295))) + (Int.fdiv (IntKind.wrap .u64 ((andU .u64 x0 4294967295) * (andU .u64 x1 4294967295))) (2 ^ (min (32:Int).toNat (IntKind.bits .u64)))))) (2 ^ (min (32:Int).toNat (IntKind.bits .u64)))))) + (Int.fdiv (IntKind.wrap .u64 ((andU .u64 (IntKind.wrap .u64 ((IntKind.wrap .u64 ((Int.fdiv x0 (2 ^ (min (32:Int).toNat (IntKind.bits .u64)))) * (andU .u64 x1 4294967295))) + (Int.fdiv (IntKind.wrap .u64 ((andU .u64 x0 4294967295) * (andU .u64 x1 4294967295))) (2 ^ (min (32:Int).toNat (IntKind.bits .u64)))))) 4294967295) + (IntKind.wrap .u64 ((andU .u64 x0 4294967295) * (Int.fdiv x1 (2 ^ (min (32:Int).toNat (IntKind.bits .u64)))))))) (2 ^ (min (32:Int).toNat (IntKind.bits .u64)))))),(IntKind.wrap .u64 (x0 * x1)))
def f_be (x0:Int) (x1:Int):Option (Int × Int) :=
 (f_by x0 x1).bind fun r1 =>
 some (r1.1,r1.2)
def l1_i  (s1:(List Int) × Int):Option (((List Int) × Int) ⊕ (List Int)) :=
 cond (decide (s1.2 < (s1.1.length:Int))) (
  (sliceO s1.1 s1.2 s1.1.length).bind fun _ =>
  (sliceO s1.1 0 s1.2).bind fun v4 =>
  (rng (s1.2 + ((min v4.length (((s1.1.length:Int).toNat) - ((s1.2:Int).toNat)):Nat):Int))).bind fun v5 =>
  some (.inl (splice s1.1 ((s1.2:Int).toNat) (v4.take (((s1.1.length:Int).toNat) - ((s1.2:Int).toNat))),v5))) (
  some (.inr s1.1))
def f_i (x0:List Int) (x1:Int):Option (List Int) :=
 cond (decide (x1 < 0)) (
  none) (
  (f_be (IntKind.wrap .u64 (x0.length:Int)) (IntKind.wrap .u64 x1)).bind fun r1 =>
  cond (decide (r1.1 > 0)) (
   none) (
   cond (decide (r1.2 > 9223372036854775807)) (
    none) (
    (lenOk (IntKind.wrap .i64 r1.2)).bind fun m2 =>
    (loopO l1_i (splice (List.replicate m2 (0:Int)) 0 (x0.take (((List.replicate m2 (0:Int)).length) - 0)),((min x0.length (((List.replicate m2 (0:Int)).length) - 0):Nat):Int))).bind fun r6 =>
    some r6)))
def l1_I (s5:(List Int) × Int) (v1:Int) (s6:(List Int) × Int):Option (((List Int) × Int) ⊕ (List Int)) :=
 cond (decide (s6.2 < v1)) (
  (rng (s5.2 + 1)).bind fun v2 =>
  (appO s6.1 [v2]).bind fun v3 =>
  (rng (s6.2 + 1)).bind fun v4 =>
  some (.inl (v3,v4))) (
  some (.inr s6.1))
def l2_I (x0:List Int) (s5:(List Int) × Int):Option (((List Int) × Int) ⊕ (List Int)) :=
 cond (decide (s5.2 < (x0.length:Int))) (
  (ixO x0 s5.2).bind fun v1 =>
  (loopO (l1_I s5 v1) (s5.1,0)).bind fun r5 =>
  (rng (s5.2 + 1)).bind fun v6 =>
  some (.inl (r5,v6))) (
  some (.inr s5.1))
def f_I (x0:List Int):Option (List Int) :=
 (loopO (l2_I x0) ([],0)).bind fun r7 =>
 some r7
def l1_t (x0:SPr) (s1:(List ((List Int) × (List Int))) × Int):Option (((List ((List Int) × (List Int))) × Int) ⊕ (List ((List Int) × (List Int)))) :=
 cond (decide (s1.2 < (x0.Orders.length:Int))) (
  (ixO x0.Orders s1.2).bind fun v1 =>
  (rng (s1.2 + 1)).bind fun v2 =>
  (f_i [v2] v1).bind fun r3 =>
  (ixO x0.Powers s1.2).bind fun v4 =>
  (f_I v4).bind fun r5 =>
  (appO s1.1 [(r3,r5)]).bind fun v6 =>
  (rng (s1.2 + 1)).bind fun v7 =>
  some (.inl (v6,v7))) (
  some (.inr s1.1))
def l2_t (s7:(List ((List Int) × (List Int))) × Int) (v9:List (List Int)) (s8:(List ((List Int) × (List Int))) × Int):Option (((List ((List Int) × (List Int))) × Int) ⊕ (List ((List Int) × (List Int)))) :=
 cond (decide (s8.2 < (v9.length:Int))) (
  (ixO v9 s8.2).bind fun v10 =>
  (rng (s7.2 + 1)).bind fun v11 =>
  (rng (s7.2 + s8.2)).bind fun v12 =>
  (rng (v12 + 2)).bind fun v13 =>
  (f_I v10).bind fun r14 =>
  (appO [v11] r14).bind fun v15 =>
  (appO s8.1 [([v13,v11],v15)]).bind fun v16 =>
  (rng (s8.2 + 1)).bind fun v17 =>
  some (.inl (v16,v17))) (
  some (.inr s8.1))
def l3_t (x0:SPr) (s7:(List ((List Int) × (List Int))) × Int):Option (((List ((List Int) × (List Int))) × Int) ⊕ (List ((List Int) × (List Int)))) :=
 cond (decide (s7.2 < (x0.Orders.length:Int))) (
  (ixO x0.Conjugates s7.2).bind fun v9 =>
  (loopO (l2_t s7 v9) (s7.1,0)).bind fun r18 =>
  (rng (s7.2 + 1)).bind fun v19 =>
  some (.inl (r18,v19))) (
  some (.inr s7.1))
def f_t (x0:SPr):Option (List ((List Int) × (List Int))) :=
 (loopO (l1_t x0) ([],0)).bind fun r8 =>
 (loopO (l3_t x0) (r8,0)).bind fun r20 =>
 some r20
def l1_R (x1:Int) (s1:(List (List Int)) × Int):Option (((List (List Int)) × Int) ⊕ (List (List Int))) :=
 cond (decide (s1.2 < x1)) (
  (lenOk x1).bind fun m1 =>
  (ixO (List.replicate m1 (0:Int)) s1.2).bind fun _ =>
  (appO s1.1 [(List.replicate m1 (0:Int)).set s1.2.toNat 1]).bind fun v3 =>
  (rng (s1.2 + 1)).bind fun v4 =>
  some (.inl (v3,v4))) (
  some (.inr s1.1))
def f_R (x0:Int) (x1:Int):Option SMatrix :=
 (loopO (l1_R x1) ([],0)).bind fun r5 =>
 some (SMatrix.mk x0 x1 r5)
def f_aM (x0:Int) (x1:Int):Option Int :=
 (remO x0 x1).bind fun v1 =>
 (rng (v1 + x1)).bind fun v2 =>
 (remO v2 x1).bind fun v3 =>
 some v3
def l1_x (x0:List Int) (x1:List Int) (x2:Int) (x3:Int) (s1:(List Int) × Int):Option (((List Int) × Int) ⊕ (List Int)) :=
 cond (decide (s1.2 < (x0.length:Int))) (
  (ixO s1.1 s1.2).bind fun v1 =>
  (ixO x1 s1.2).bind fun v2 =>
  (rng (x2 * v2)).bind fun v3 =>
  (rng (v1 + v3)).bind fun v4 =>
  (f_aM v4 x3).bind fun r5 =>
  (ixO s1.1 s1.2).bind fun _ =>
  (rng (s1.2 + 1)).bind fun v7 =>
  some (.inl (s1.1.set s1.2.toNat r5,v7))) (
  some (.inr s1.1))
def f_x (x0:List Int) (x1:List Int) (x2:Int) (x3:Int):Option (List Int) :=
 (loopO (l1_x x0 x1 x2 x3) (x0,0)).bind fun r8 =>
 some r8
def l1_aa (x0:List Int) (x1:SMatrix) (s1:(List Int) × Int):Option (((List Int) × Int) ⊕ (List Int)) :=
 cond (decide (s1.2 < (x0.length:Int))) (
  (ixO x0 s1.2).bind fun v2 =>
  (ixO x1.Rows s1.2).bind fun v3 =>
  (f_x s1.1 v3 v2 x1.Prime).bind fun r4 =>
  (rng (s1.2 + 1)).bind fun v5 =>
  some (.inl (r4,v5))) (
  some (.inr s1.1))
def f_aa (x0:List Int) (x1:SMatrix):Option (List Int) :=
 (lenOk x1.Columns).bind fun m1 =>
 (loopO (l1_aa x0 x1) (List.replicate m1 (0:Int),0)).bind fun r6 =>
 some r6
def l1_Q (x0:SMatrix) (x1:SMatrix) (s1:(List (List Int)) × Int):Option (((List (List Int)) × Int) ⊕ (List (List Int))) :=
 cond (decide (s1.2 < (x0.Rows.length:Int))) (
  (ixO x0.Rows s1.2).bind fun v1 =>
  (f_aa v1 x1).bind fun r2 =>
  (appO s1.1 [r2]).bind fun v3 =>
  (rng (s1.2 + 1)).bind fun v4 =>
  some (.inl (v3,v4))) (
  some (.inr s1.1))
def f_Q (x0:SMatrix) (x1:SMatrix):Option SMatrix :=
 (loopO (l1_Q x0 x1) ([],0)).bind fun r5 =>
 some (SMatrix.mk x0.Prime x1.Columns r5)
def l1_S (x0:SModule) (x1:List Int) (s1:Int × Int × (List (List Int)) × Int):Option ((Int × Int × (List (List Int)) × Int) ⊕ (Int × Int × (List (List Int)))) :=
 cond (decide (s1.2.2.2 < (x1.length:Int))) (
  (ixO x1 s1.2.2.2).bind fun v2 =>
  (rng (v2 - 1)).bind fun v3 =>
  (f_aS x0 v3).bind fun r4 =>
  (f_Q (SMatrix.mk s1.1 s1.2.1 s1.2.2.1) r4).bind fun r5 =>
  (rng (s1.2.2.2 + 1)).bind fun v6 =>
  some (.inl (r5.Prime,r5.Columns,r5.Rows,v6))) (
  some (.inr (s1.1,s1.2.1,s1.2.2.1)))
def f_S (x0:SModule) (x1:List Int):Option SMatrix :=
 (f_R x0.Prime x0.Dim).bind fun r1 =>
 (loopO (l1_S x0 x1) (r1.Prime,r1.Columns,r1.Rows,0)).bind fun r7 =>
 some (SMatrix.mk r7.1 r7.2.1 r7.2.2)
def l1_a0 (x0:List (List Int)) (x1:List (List Int)) (s1:Int):Option (Int ⊕ (Unit ⊕ Bool)) :=
 cond (decide (s1 < (x0.length:Int))) (
  (ixO x0 s1).bind fun v1 =>
  (ixO x1 s1).bind fun v2 =>
  (f_O v1 v2).bind fun r3 =>
  cond (!r3) (
   some (.inr (.inr false))) (
   (rng (s1 + 1)).bind fun v4 =>
   some (.inl v4))) (
  some (.inr (.inl ())))
def f_a0 (x0:List (List Int)) (x1:List (List Int)):Option Bool :=
 cond ((x0.length:Int) != (x1.length:Int)) (
  some false) (
  (loopO (l1_a0 x0 x1) 0).bind fun r5 =>
  match r5 with
  | (.inl r5) =>
   some true
  | (.inr r5) =>
   some r5)
def f_bf (x0:List (List Int)) (x1:List (List Int)):Option Bool :=
 (f_a0 x0 x1).bind fun r1 =>
 some r1
def l1_C (x1:SModule) (s1:Int):Option (Int ⊕ (Unit ⊕ Bool)) :=
 cond (decide (s1 < (x1.Actions.length:Int))) (
  (ixO x1.Actions s1).bind fun v4 =>
  cond ((v4.length:Int) != x1.Dim) (
   some (.inr (.inr false))) (
   (f_aS x1 s1).bind fun r5 =>
   (f_an r5).bind fun r6 =>
   cond (!r6) (
    some (.inr (.inr false))) (
    (rng (s1 + 1)).bind fun v7 =>
    some (.inl v7)))) (
  some (.inr (.inl ())))
def l2_C (x1:SModule) (r9:(List ((List Int) × (List Int)))) (s3:Int):Option (Int ⊕ (Unit ⊕ Bool)) :=
 cond (decide (s3 < (r9.length:Int))) (
  (ixO r9 s3).bind fun v10 =>
  (f_S x1 v10.1).bind fun r11 =>
  (f_S x1 v10.2).bind fun r12 =>
  (f_bf r11.Rows r12.Rows).bind fun r13 =>
  cond (!r13) (
   some (.inr (.inr false))) (
   (rng (s3 + 1)).bind fun v14 =>
   some (.inl v14))) (
  some (.inr (.inl ())))
def f_C (x0:SPr) (x1:SModule):Option Bool :=
 (f_aR x0).bind fun r1 =>
 cond (!r1) (
  some false) (
  (f_aJ x1.Prime).bind fun r2 =>
  cond (!r2) (
   some false) (
   (f_aI x1.Dim 1 3).bind fun r3 =>
   cond (!r3) (
    some false) (
    cond ((x1.Actions.length:Int) != (x0.Orders.length:Int)) (
     some false) (
     (loopO (l1_C x1) 0).bind fun r8 =>
     match r8 with
     | (.inl r8) =>
      (f_t x0).bind fun r9 =>
      (loopO (l2_C x1 r9) 0).bind fun r15 =>
      match r15 with
      | (.inl r15) =>
       some true
      | (.inr r15) =>
       some r15
     | (.inr r8) =>
      some r8))))
def f_a1 (x1:Int):Option (List Int) :=
 cond (decide (x1 < 0)) (
  none) (
  (rng (0 - 0)).bind fun v1 =>
  (rng (x1 - v1)).bind fun v2 =>
  cond (decide (v2 > 0)) (
   (appzO [] v2 (0:Int)).bind fun v3 =>
   (sliceO v3 0 0).bind fun v4 =>
   some v4) (
   some []))
def l1_s (x0:List (List Int)) (s1:Int × Int):Option ((Int × Int) ⊕ Int) :=
 cond (decide (s1.2 < (x0.length:Int))) (
  (ixO x0 s1.2).bind fun v1 =>
  (rng (s1.1 + (v1.length:Int))).bind fun v2 =>
  cond (decide (v2 < 0)) (
   none) (
   (rng (s1.2 + 1)).bind fun v3 =>
   some (.inl (v2,v3)))) (
  some (.inr s1.1))
def l2_s (x0:List (List Int)) (s3:(List Int) × Int):Option (((List Int) × Int) ⊕ (List Int)) :=
 cond (decide (s3.2 < (x0.length:Int))) (
  (ixO x0 s3.2).bind fun v6 =>
  (appO s3.1 v6).bind fun v7 =>
  (rng (s3.2 + 1)).bind fun v8 =>
  some (.inl (v7,v8))) (
  some (.inr s3.1))
def f_s (x0:List (List Int)):Option (List Int) :=
 (loopO (l1_s x0) (0,0)).bind fun r4 =>
 (f_a1 r4).bind fun r5 =>
 (loopO (l2_s x0) (r5,0)).bind fun r9 =>
 some r9
def f_aU (x0:List Int) (x1:Int) (x2:Int):Option (List Int) :=
 (lenOk x1).bind fun m1 =>
 (lenOk x2).bind fun m2 =>
 (f_s [List.replicate m1 (0:Int),x0,List.replicate m2 (0:Int)]).bind fun r3 =>
 some r3
def l1_aH (x0:List Int) (x1:List Int) (s1:Int):Option (Int ⊕ (Unit ⊕ Bool)) :=
 cond (decide (s1 < (x0.length:Int))) (
  (ixO x0 s1).bind fun v1 =>
  (ixO x1 s1).bind fun v2 =>
  cond (v1 != v2) (
   some (.inr (.inr false))) (
   (rng (s1 + 1)).bind fun v3 =>
   some (.inl v3))) (
  some (.inr (.inl ())))
def f_aH (x0:List Int) (x1:List Int):Option Bool :=
 cond ((x0.length:Int) != (x1.length:Int)) (
  some false) (
  (loopO (l1_aH x0 x1) 0).bind fun r4 =>
  match r4 with
  | (.inl r4) =>
   some true
  | (.inr r4) =>
   some r4)
def l1_A (x0:List (List Int)) (x1:List (List Int)) (s1:Int):Option (Int ⊕ (Unit ⊕ Bool)) :=
 cond (decide (s1 < (x0.length:Int))) (
  (ixO x0 s1).bind fun v1 =>
  (ixO x1 s1).bind fun v2 =>
  (f_aH v1 v2).bind fun r3 =>
  cond (!r3) (
   some (.inr (.inr false))) (
   (rng (s1 + 1)).bind fun v4 =>
   some (.inl v4))) (
  some (.inr (.inl ())))
def f_A (x0:List (List Int)) (x1:List (List Int)):Option Bool :=
 cond ((x0.length:Int) != (x1.length:Int)) (
  some false) (
  (loopO (l1_A x0 x1) 0).bind fun r5 =>
  match r5 with
  | (.inl r5) =>
   some true
  | (.inr r5) =>
   some r5)
def l1_aP (x0:List (List (List Int))) (x1:List (List (List Int))) (s1:Int):Option (Int ⊕ (Unit ⊕ Bool)) :=
 cond (decide (s1 < (x0.length:Int))) (
  (ixO x0 s1).bind fun v1 =>
  (ixO x1 s1).bind fun v2 =>
  (f_A v1 v2).bind fun r3 =>
  cond (!r3) (
   some (.inr (.inr false))) (
   (rng (s1 + 1)).bind fun v4 =>
   some (.inl v4))) (
  some (.inr (.inl ())))
def f_aP (x0:List (List (List Int))) (x1:List (List (List Int))):Option Bool :=
 cond ((x0.length:Int) != (x1.length:Int)) (
  some false) (
  (loopO (l1_aP x0 x1) 0).bind fun r5 =>
  match r5 with
  | (.inl r5) =>
   some true
  | (.inr r5) =>
   some r5)
def f_a8 (x0:SModule) (x1:SModule):Option Bool :=
 cond (x0.Prime != x1.Prime) (
  some false) (
  cond (x0.Dim != x1.Dim) (
   some false) (
   (f_aP x0.Actions x1.Actions).bind fun r1 =>
   cond (!r1) (
    some false) (
    some true)))
def f_a9 (x0:SPr) (x1:SPr):Option Bool :=
 (f_aH x0.Orders x1.Orders).bind fun r1 =>
 cond (!r1) (
  some false) (
  (f_A x0.Powers x1.Powers).bind fun r2 =>
  cond (!r2) (
   some false) (
   (f_aP x0.Conjugates x1.Conjugates).bind fun r3 =>
   cond (!r3) (
    some false) (
    some true)))
def l1_Z  (s1:(List Int) × Int × Int):Option (((List Int) × Int × Int) ⊕ ((List Int) × Int)) :=
 cond (decide (s1.2.2 < (s1.1.length:Int))) (
  (ixO s1.1 s1.2.2).bind fun _ =>
  (rng (s1.2.1 + 1)).bind fun v2 =>
  (rng (s1.2.2 + 1)).bind fun v3 =>
  some (.inl (s1.1.set s1.2.2.toNat s1.2.1,v2,v3))) (
  some (.inr (s1.1,s1.2.1)))
def f_Z (x0:List Int) (x1:Int):Option (Int × (List Int)) :=
 (loopO l1_Z (x0,x1,0)).bind fun r4 =>
 some (r4.2,r4.1)
def l1_F  (s1:(List (List Int)) × Int × Int):Option (((List (List Int)) × Int × Int) ⊕ ((List (List Int)) × Int)) :=
 cond (decide (s1.2.2 < (s1.1.length:Int))) (
  (ixO s1.1 s1.2.2).bind fun v1 =>
  (f_Z v1 s1.2.1).bind fun r2 =>
  (rng (s1.2.2 + 1)).bind fun v3 =>
  some (.inl (s1.1.set s1.2.2.toNat r2.2,r2.1,v3))) (
  some (.inr (s1.1,s1.2.1)))
def f_F (x0:List (List Int)) (x1:Int):Option (Int × (List (List Int))) :=
 (loopO l1_F (x0,x1,0)).bind fun r4 =>
 some (r4.2,r4.1)
def l1_ah  (s1:(List (List (List Int))) × Int × Int):Option (((List (List (List Int))) × Int × Int) ⊕ ((List (List (List Int))) × Int)) :=
 cond (decide (s1.2.2 < (s1.1.length:Int))) (
  (ixO s1.1 s1.2.2).bind fun v1 =>
  (f_F v1 s1.2.1).bind fun r2 =>
  (rng (s1.2.2 + 1)).bind fun v3 =>
  some (.inl (s1.1.set s1.2.2.toNat r2.2,r2.1,v3))) (
  some (.inr (s1.1,s1.2.1)))
def f_ah (x0:List (List (List Int))) (x1:Int):Option (Int × (List (List (List Int)))) :=
 (loopO l1_ah (x0,x1,0)).bind fun r4 =>
 some (r4.2,r4.1)
def f_aW (x0:SPr) (x1:Int):Option (Int × SPr) :=
 (f_Z x0.Orders x1).bind fun r1 =>
 (f_F x0.Powers r1.1).bind fun r2 =>
 (f_ah x0.Conjugates r2.1).bind fun r3 =>
 some (r3.1,(SPr.mk r1.2 r2.2 r3.2))
def f_aQ (x0:SModule) (x1:Int):Option (Int × SModule) :=
 (f_ah x0.Actions x1).bind fun r1 =>
 some (r1.1,(SModule.mk x0.Prime x0.Dim r1.2))
def l1_ai (x0:List Int) (s1:Int × Int):Option ((Int × Int) ⊕ (Int ⊕ Int)) :=
 cond (decide (s1.2 < (x0.length:Int))) (
  (ixO x0 s1.2).bind fun v1 =>
  cond (v1 != s1.1) (
   some (.inr (.inr (-1)))) (
   (rng (s1.1 + 1)).bind fun v2 =>
   (rng (s1.2 + 1)).bind fun v3 =>
   some (.inl (v2,v3)))) (
  some (.inr (.inl s1.1)))
def f_ai (x0:List Int) (x1:Int):Option Int :=
 (loopO (l1_ai x0) (x1,0)).bind fun r4 =>
 match r4 with
 | (.inl r4) =>
  some r4
 | (.inr r4) =>
  some r4
def l1_aw (x0:List (List Int)) (s1:Int × Int):Option ((Int × Int) ⊕ (Int ⊕ Int)) :=
 cond (decide (s1.2 < (x0.length:Int))) (
  (ixO x0 s1.2).bind fun v1 =>
  (f_ai v1 s1.1).bind fun r2 =>
  cond (decide (r2 < 0)) (
   some (.inr (.inr (-1)))) (
   (rng (s1.2 + 1)).bind fun v3 =>
   some (.inl (r2,v3)))) (
  some (.inr (.inl s1.1)))
def f_aw (x0:List (List Int)) (x1:Int):Option Int :=
 (loopO (l1_aw x0) (x1,0)).bind fun r4 =>
 match r4 with
 | (.inl r4) =>
  some r4
 | (.inr r4) =>
  some r4
def l1_ao (x0:List (List Int)) (s1:(List (List Int)) × Int):Option (((List (List Int)) × Int) ⊕ (List (List Int))) :=
 cond (decide (s1.2 < (x0.length:Int))) (
  (ixO x0 s1.2).bind fun v1 =>
  (f_w v1).bind fun r2 =>
  (appO s1.1 [r2]).bind fun v3 =>
  (rng (s1.2 + 1)).bind fun v4 =>
  some (.inl (v3,v4))) (
  some (.inr s1.1))
def f_ao (x0:List (List Int)):Option (List (List Int)) :=
 (loopO (l1_ao x0) ([],0)).bind fun r5 =>
 some r5
def l1_M  (s1:Int × Int × Int × Int):Option ((Int × Int × Int × Int) ⊕ (Int × Int)) :=
 cond (s1.2.1 != 0) (
  (quoO s1.1 s1.2.1).bind fun v1 =>
  (rng (v1 * s1.2.1)).bind fun v2 =>
  (rng (s1.1 - v2)).bind fun v3 =>
  (rng (v1 * s1.2.2.2)).bind fun v4 =>
  (rng (s1.2.2.1 - v4)).bind fun v5 =>
  some (.inl (s1.2.1,v3,s1.2.2.2,v5))) (
  some (.inr (s1.1,s1.2.2.1)))
def f_M (x0:Int) (x1:Int):Option (Int × Bool) :=
 (loopO l1_M (x1,x0,0,1)).bind fun r6 =>
 (f_aM r6.2 x1).bind fun r7 =>
 some (r7,(r6.1 == 1))
def l1_g (s13:(List (List Int)) × Int × Int) (s14:Int):Option (Int ⊕ Int) :=
 cond (decide (s14 < (s13.1.length:Int))) (
  (ixO s13.1 s14).bind fun v3 =>
  (ixO v3 s13.2.2).bind fun v4 =>
  cond (v4 == 0) (
   (rng (s14 + 1)).bind fun v5 =>
   some (.inl v5)) (
   some (.inr s14))) (
  some (.inr s14))
def l2_g (x0:Int) (s13:(List (List Int)) × Int × Int) (r12:Int × Bool) (v13:List Int) (s16:(List (List Int)) × Int):Option (((List (List Int)) × Int) ⊕ (List (List Int))) :=
 cond (decide (s16.2 < (v13.length:Int))) (
  (ixO s16.1 s13.2.1).bind fun v14 =>
  (ixO s16.1 s13.2.1).bind fun v15 =>
  (ixO v15 s16.2).bind fun v16 =>
  (rng (v16 * r12.1)).bind fun v17 =>
  (remO v17 x0).bind fun v18 =>
  (ixO v14 s16.2).bind fun _ =>
  (rng (s16.2 + 1)).bind fun v20 =>
  some (.inl (s16.1.set s13.2.1.toNat (v14.set s16.2.toNat v18),v20))) (
  some (.inr s16.1))
def l3_g (x0:Int) (s13:(List (List Int)) × Int × Int) (r21:(List (List Int))) (s18:(List (List Int)) × Int):Option (((List (List Int)) × Int) ⊕ (List (List Int))) :=
 cond (decide (s18.2 < (r21.length:Int))) (
  cond (s18.2 != s13.2.1) (
   (ixO s18.1 s18.2).bind fun v22 =>
   (ixO s18.1 s13.2.1).bind fun v23 =>
   (ixO s18.1 s18.2).bind fun v24 =>
   (ixO v24 s13.2.2).bind fun v25 =>
   (rng (0 - v25)).bind fun v26 =>
   (f_x v22 v23 v26 x0).bind fun r27 =>
   (rng (s18.2 + 1)).bind fun v28 =>
   some (.inl (s18.1.set s18.2.toNat r27,v28))) (
   (rng (s18.2 + 1)).bind fun v29 =>
   some (.inl (s18.1,v29)))) (
  some (.inr s18.1))
def l4_g (x0:Int) (s13:(List (List Int)) × Int × Int):Option (((List (List Int)) × Int × Int) ⊕ ((List (List Int)) × Int)) :=
 cond (decide ((s13.1.length:Int) > 0)) (
  (ixO s13.1 0).bind fun v2 =>
  cond (decide (s13.2.2 < (v2.length:Int))) (
   cond (decide (s13.2.1 < (s13.1.length:Int))) (
    (loopO (l1_g s13) s13.2.1).bind fun r6 =>
    cond (r6 == (s13.1.length:Int)) (
     (rng (s13.2.2 + 1)).bind fun v7 =>
     some (.inl (s13.1,s13.2.1,v7))) (
     (ixO s13.1 r6).bind fun v8 =>
     (ixO s13.1 s13.2.1).bind fun v9 =>
     (ixO (swapL s13.1 s13.2.1 r6 v8 v9) s13.2.1).bind fun v10 =>
     (ixO v10 s13.2.2).bind fun v11 =>
     (f_M v11 x0).bind fun r12 =>
     (ixO (swapL s13.1 s13.2.1 r6 v8 v9) s13.2.1).bind fun v13 =>
     (loopO (l2_g x0 s13 r12 v13) (swapL s13.1 s13.2.1 r6 v8 v9,0)).bind fun r21 =>
     (loopO (l3_g x0 s13 r21) (r21,0)).bind fun r30 =>
     (rng (s13.2.1 + 1)).bind fun v31 =>
     (rng (s13.2.2 + 1)).bind fun v32 =>
     some (.inl (r30,v31,v32)))) (
    some (.inr (s13.1,s13.2.1)))) (
   some (.inr (s13.1,s13.2.1)))) (
  some (.inr (s13.1,s13.2.1)))
def f_g (x0:Int) (x1:List (List Int)):Option (List (List Int)) :=
 (f_ao x1).bind fun r1 =>
 (loopO (l4_g x0) (r1,0,0)).bind fun r33 =>
 (sliceO r33.1 0 r33.2).bind fun v34 =>
 some v34
def f_bg (x0:Int) (x1:Int):Option Int :=
 (remO x0 x1).bind fun v1 =>
 cond (decide (v1 < 0)) (
  (rng (v1 + x1)).bind fun v2 =>
  some v2) (
  some v1)
def l1_z (x0:List Int) (s1:Int):Option (Int ⊕ (Unit ⊕ Int)) :=
 cond (decide (s1 < (x0.length:Int))) (
  (ixO x0 s1).bind fun v1 =>
  cond (v1 != 0) (
   some (.inr (.inr s1))) (
   (rng (s1 + 1)).bind fun v2 =>
   some (.inl v2))) (
  some (.inr (.inl ())))
def f_z (x0:List Int):Option Int :=
 (loopO (l1_z x0) 0).bind fun r3 =>
 match r3 with
 | (.inl r3) =>
  some (x0.length:Int)
 | (.inr r3) =>
  some r3
def l1_m (x0:Int) (x2:Int) (x3:List Int) (s1:(List Int) × Int):Option (((List Int) × Int) ⊕ (List Int)) :=
 cond (decide (s1.2 < (s1.1.length:Int))) (
  cond (decide (s1.2 < (x3.length:Int))) (
   (ixO s1.1 s1.2).bind fun v2 =>
   (ixO x3 s1.2).bind fun v3 =>
   (rng (x2 * v3)).bind fun v4 =>
   (rng (v2 + v4)).bind fun v5 =>
   (f_bg v5 x0).bind fun r6 =>
   (ixO s1.1 s1.2).bind fun _ =>
   (rng (s1.2 + 1)).bind fun v8 =>
   some (.inl (s1.1.set s1.2.toNat r6,v8))) (
   some (.inr s1.1))) (
  some (.inr s1.1))
def f_m (x0:Int) (x1:List Int) (x2:Int) (x3:List Int):Option (List Int) :=
 (f_v x1).bind fun r1 =>
 (loopO (l1_m x0 x2 x3) (r1,0)).bind fun r9 =>
 some r9
def l1_ac (x0:Int) (x1:List (List Int)) (s1:(List Int) × Int):Option (((List Int) × Int) ⊕ (List Int)) :=
 cond (decide (s1.2 < (x1.length:Int))) (
  (ixO x1 s1.2).bind fun v2 =>
  (f_z v2).bind fun r3 =>
  cond (decide (r3 < (s1.1.length:Int))) (
   (ixO s1.1 r3).bind fun v4 =>
   cond (v4 != 0) (
    (ixO s1.1 r3).bind fun v5 =>
    (rng (x0 - v5)).bind fun v6 =>
    (ixO x1 s1.2).bind fun v7 =>
    (f_m x0 s1.1 v6 v7).bind fun r8 =>
    (rng (s1.2 + 1)).bind fun v9 =>
    some (.inl (r8,v9))) (
    (rng (s1.2 + 1)).bind fun v10 =>
    some (.inl (s1.1,v10)))) (
   (rng (s1.2 + 1)).bind fun v11 =>
   some (.inl (s1.1,v11)))) (
  some (.inr s1.1))
def f_ac (x0:Int) (x1:List (List Int)) (x2:List Int):Option (List Int) :=
 (f_v x2).bind fun r1 =>
 (loopO (l1_ac x0 x1) (r1,0)).bind fun r12 =>
 some r12
def l1_ap (x0:Int) (x1:Int) (s1:Int):Option (Int ⊕ (Unit ⊕ Int)) :=
 cond (decide (s1 < x1)) (
  (f_bg x0 x1).bind fun r1 =>
  (rng (r1 * s1)).bind fun v2 =>
  (remO v2 x1).bind fun v3 =>
  cond (v3 == 1) (
   some (.inr (.inr s1))) (
   (rng (s1 + 1)).bind fun v4 =>
   some (.inl v4))) (
  some (.inr (.inl ())))
def f_ap (x0:Int) (x1:Int):Option Int :=
 (loopO (l1_ap x0 x1) 1).bind fun r5 =>
 match r5 with
 | (.inl r5) =>
  some 0
 | (.inr r5) =>
  some r5
def f_bh (x0:Int) (x1:Int) (x2:List Int):Option (List Int) :=
 (lenOk (x2.length:Int)).bind fun m1 =>
 (f_m x0 (List.replicate m1 (0:Int)) x1 x2).bind fun r2 =>
 some r2
def l1_o (x0:Int) (s5:(List (List Int)) × Int) (r3:Int) (r7:(List Int)) (s6:(List (List Int)) × Bool × Int):Option (((List (List Int)) × Bool × Int) ⊕ ((List (List Int)) × Bool)) :=
 cond (decide (s6.2.2 < (s5.1.length:Int))) (
  cond (!s6.2.1) (
   (ixO s5.1 s6.2.2).bind fun v8 =>
   (f_z v8).bind fun r9 =>
   cond (decide (r9 > r3)) (
    (appO s6.1 [r7]).bind fun v10 =>
    (ixO s5.1 s6.2.2).bind fun v11 =>
    (ixO s5.1 s6.2.2).bind fun v12 =>
    (ixO v12 r3).bind fun v13 =>
    (rng (x0 - v13)).bind fun v14 =>
    (f_m x0 v11 v14 r7).bind fun r15 =>
    (appO v10 [r15]).bind fun v16 =>
    (rng (s6.2.2 + 1)).bind fun v17 =>
    some (.inl (v16,true,v17))) (
    (ixO s5.1 s6.2.2).bind fun v18 =>
    (ixO s5.1 s6.2.2).bind fun v19 =>
    (ixO v19 r3).bind fun v20 =>
    (rng (x0 - v20)).bind fun v21 =>
    (f_m x0 v18 v21 r7).bind fun r22 =>
    (appO s6.1 [r22]).bind fun v23 =>
    (rng (s6.2.2 + 1)).bind fun v24 =>
    some (.inl (v23,s6.2.1,v24)))) (
   (ixO s5.1 s6.2.2).bind fun v25 =>
   (ixO s5.1 s6.2.2).bind fun v26 =>
   (ixO v26 r3).bind fun v27 =>
   (rng (x0 - v27)).bind fun v28 =>
   (f_m x0 v25 v28 r7).bind fun r29 =>
   (appO s6.1 [r29]).bind fun v30 =>
   (rng (s6.2.2 + 1)).bind fun v31 =>
   some (.inl (v30,s6.2.1,v31)))) (
  some (.inr (s6.1,s6.2.1)))
def l2_o (x0:Int) (x1:List (List Int)) (s5:(List (List Int)) × Int):Option (((List (List Int)) × Int) ⊕ (List (List Int))) :=
 cond (decide (s5.2 < (x1.length:Int))) (
  (ixO x1 s5.2).bind fun v1 =>
  (f_ac x0 s5.1 v1).bind fun r2 =>
  (f_z r2).bind fun r3 =>
  cond (r3 == (r2.length:Int)) (
   (rng (s5.2 + 1)).bind fun v4 =>
   some (.inl (s5.1,v4))) (
   (ixO r2 r3).bind fun v5 =>
   (f_ap v5 x0).bind fun r6 =>
   (f_bh x0 r6 r2).bind fun r7 =>
   (loopO (l1_o x0 s5 r3 r7) ([],false,0)).bind fun r32 =>
   cond (!r32.2) (
    (appO r32.1 [r7]).bind fun v33 =>
    (rng (s5.2 + 1)).bind fun v34 =>
    some (.inl (v33,v34))) (
    (rng (s5.2 + 1)).bind fun v35 =>
    some (.inl (r32.1,v35))))) (
  some (.inr s5.1))
def f_o (x0:Int) (x1:List (List Int)):Option (List (List Int)) :=
 (loopO (l2_o x0 x1) ([],0)).bind fun r36 =>
 some r36
def f_bn (x0:SPr):Option Int :=
 (rng ((x0.Orders.length:Int) - 1)).bind fun v1 =>
 (rng ((x0.Orders.length:Int) * v1)).bind fun v2 =>
 (quoO v2 2).bind fun v3 =>
 (rng ((x0.Orders.length:Int) + v3)).bind fun v4 =>
 some v4
def f_bw (x0:Int) (x1:Int) (x2:Int):Option Int :=
 (rng (x1 * x0)).bind fun v1 =>
 (rng (x0 + v1)).bind fun v2 =>
 (rng (x1 + 1)).bind fun v3 =>
 (rng (x1 * v3)).bind fun v4 =>
 (quoO v4 2).bind fun v5 =>
 (rng (v2 - v5)).bind fun v6 =>
 (rng (v6 + x2)).bind fun v7 =>
 (rng (v7 - x1)).bind fun v8 =>
 (rng (v8 - 1)).bind fun v9 =>
 some v9
def f_bo (x0:SPr):Option Int :=
 (rng ((x0.Orders.length:Int) + 1)).bind fun v1 =>
 (rng ((x0.Orders.length:Int) * v1)).bind fun v2 =>
 (quoO v2 2).bind fun v3 =>
 some v3
def l1_X (x0:List Int) (x1:Int) (s1:(List (List Int)) × Int):Option (((List (List Int)) × Int) ⊕ (List (List Int))) :=
 cond (decide (s1.2 < (x0.length:Int))) (
  (rng (s1.2 + x1)).bind fun v1 =>
  (sliceO x0 s1.2 v1).bind fun v2 =>
  (f_w v2).bind fun r3 =>
  (appO s1.1 [r3]).bind fun v4 =>
  (rng (s1.2 + x1)).bind fun v5 =>
  some (.inl (v4,v5))) (
  some (.inr s1.1))
def f_X (x0:List Int) (x1:Int):Option (List (List Int)) :=
 (loopO (l1_X x0 x1) ([],0)).bind fun r6 =>
 some r6
def l1_y (x0:List Int) (s6:(List (List Int)) × Int):Option (((List (List Int)) × Int) ⊕ (List (List Int))) :=
 cond (decide (s6.2 < (x0.length:Int))) (
  (f_aA (x0.length:Int) s6.2).bind fun r5 =>
  (appO s6.1 [r5]).bind fun v6 =>
  (rng (s6.2 + 1)).bind fun v7 =>
  some (.inl (v6,v7))) (
  some (.inr s6.1))
def l2_y (x0:List Int) (s5:(List (List Int)) × (List (List (List Int))) × Int):Option (((List (List Int)) × (List (List (List Int))) × Int) ⊕ ((List (List Int)) × (List (List (List Int))))) :=
 cond (decide (s5.2.2 < (x0.length:Int))) (
  (lenOk (x0.length:Int)).bind fun m2 =>
  (appO s5.1 [List.replicate m2 (0:Int)]).bind fun v3 =>
  (rng (s5.2.2 + 1)).bind fun v4 =>
  (loopO (l1_y x0) ([],v4)).bind fun r8 =>
  (appO s5.2.1 [r8]).bind fun v9 =>
  (rng (s5.2.2 + 1)).bind fun v10 =>
  some (.inl (v3,v9,v10))) (
  some (.inr (s5.1,s5.2.1)))
def f_y (x0:List Int):Option SPr :=
 (f_w x0).bind fun r1 =>
 (loopO (l2_y x0) ([],[],0)).bind fun r11 =>
 some (SPr.mk r1 r11.1 r11.2)
def l1_k (x0:SPr) (x2:List (List Int)) (s1:(List (List Int)) × Int × Int):Option (((List (List Int)) × Int × Int) ⊕ ((List (List Int)) × Int)) :=
 cond (decide (s1.2.2 < (x0.Powers.length:Int))) (
  (ixO x0.Powers s1.2.2).bind fun v5 =>
  (ixO x2 s1.2.1).bind fun v6 =>
  (f_s [v5,v6]).bind fun r7 =>
  (ixO s1.1 s1.2.2).bind fun _ =>
  (rng (s1.2.1 + 1)).bind fun v9 =>
  (rng (s1.2.2 + 1)).bind fun v10 =>
  some (.inl (s1.1.set s1.2.2.toNat r7,v9,v10))) (
  some (.inr (s1.1,s1.2.1)))
def l2_k (x2:List (List Int)) (s11:(List (List (List Int))) × Int × Int) (v12:List (List Int)) (s12:(List (List (List Int))) × Int × Int):Option (((List (List (List Int))) × Int × Int) ⊕ ((List (List (List Int))) × Int)) :=
 cond (decide (s12.2.2 < (v12.length:Int))) (
  (ixO v12 s12.2.2).bind fun v13 =>
  (ixO s12.1 s11.2.2).bind fun v14 =>
  (ixO x2 s12.2.1).bind fun v15 =>
  (f_s [v13,v15]).bind fun r16 =>
  (ixO v14 s12.2.2).bind fun _ =>
  (rng (s12.2.1 + 1)).bind fun v18 =>
  (rng (s12.2.2 + 1)).bind fun v19 =>
  some (.inl (s12.1.set s11.2.2.toNat (v14.set s12.2.2.toNat r16),v18,v19))) (
  some (.inr (s12.1,s12.2.1)))
def l3_k (x0:SPr) (s11:(List (List (List Int))) × Int × Int) (v21:List (List Int)) (s14:(List (List (List Int))) × Int):Option (((List (List (List Int))) × Int) ⊕ (List (List (List Int)))) :=
 cond (decide (s14.2 < (v21.length:Int))) (
  (ixO v21 s14.2).bind fun v22 =>
  (ixO s14.1 s11.2.2).bind fun v23 =>
  (rng ((x0.Orders.length:Int) - 1)).bind fun v24 =>
  (rng (v24 - s11.2.2)).bind fun v25 =>
  (rng (v25 + s14.2)).bind fun v26 =>
  (f_aU v22 (x0.Orders.length:Int) 0).bind fun r27 =>
  (ixO v23 v26).bind fun _ =>
  (rng (s14.2 + 1)).bind fun v29 =>
  some (.inl (s14.1.set s11.2.2.toNat (v23.set v26.toNat r27),v29))) (
  some (.inr s14.1))
def l4_k (x0:SPr) (x1:SModule) (x2:List (List Int)) (s11:(List (List (List Int))) × Int × Int):Option (((List (List (List Int))) × Int × Int) ⊕ (List (List (List Int)))) :=
 cond (decide (s11.2.2 < (x0.Orders.length:Int))) (
  (ixO x0.Conjugates s11.2.2).bind fun v12 =>
  (loopO (l2_k x2 s11 v12) (s11.1,s11.2.1,0)).bind fun r20 =>
  (ixO x1.Actions s11.2.2).bind fun v21 =>
  (loopO (l3_k x0 s11 v21) (r20.1,0)).bind fun r30 =>
  (rng (s11.2.2 + 1)).bind fun v31 =>
  some (.inl (r30,r20.2,v31))) (
  some (.inr s11.1))
def f_k (x0:SPr) (x1:SModule) (x2:List (List Int)):Option SPr :=
 (f_w x0.Orders).bind fun r1 =>
 (f_i [x1.Prime] x1.Dim).bind fun r2 =>
 (appO r1 r2).bind fun v3 =>
 (f_y v3).bind fun r4 =>
 (loopO (l1_k x0 x2) (r4.Powers,0,0)).bind fun r11 =>
 (loopO (l4_k x0 x1 x2) (r4.Conjugates,r11.2,0)).bind fun r32 =>
 some (SPr.mk r4.Orders r11.1 r32)
def l1_aO (x0:SModule) (x1:List (List Int)) (s1:Int):Option (Int ⊕ (Unit ⊕ Bool)) :=
 cond (decide (s1 < (x1.length:Int))) (
  (ixO x1 s1).bind fun v1 =>
  (f_aD x0.Prime x0.Dim v1).bind fun r2 =>
  cond (!r2) (
   some (.inr (.inr false))) (
   (rng (s1 + 1)).bind fun v3 =>
   some (.inl v3))) (
  some (.inr (.inl ())))
def f_aO (x0:SModule) (x1:List (List Int)):Option Bool :=
 (loopO (l1_aO x0 x1) 0).bind fun r4 =>
 match r4 with
 | (.inl r4) =>
  some true
 | (.inr r4) =>
  some r4
def f_ab (x0:SModule) (x1:List (List Int)) (x2:List Int) (x3:Int):Option (List Int) :=
 (ixO x0.Actions x3).bind fun v1 =>
 (f_E x0.Prime x2 v1 x0.Dim).bind fun r2 =>
 (ixO x1 x3).bind fun v3 =>
 (f_m x0.Prime r2 1 v3).bind fun r4 =>
 some r4
def l1_D (x0:SModule) (x1:List (List Int)) (x3:List Int) (s5:(List Int) × Int) (s6:(List Int) × Int):Option (((List Int) × Int) ⊕ (List Int)) :=
 (ixO x3 s5.2).bind fun v1 =>
 cond (decide (s6.2 < v1)) (
  (f_ab x0 x1 s6.1 s5.2).bind fun r2 =>
  (rng (s6.2 + 1)).bind fun v3 =>
  some (.inl (r2,v3))) (
  some (.inr s6.1))
def l2_D (x0:SModule) (x1:List (List Int)) (x3:List Int) (s5:(List Int) × Int):Option (((List Int) × Int) ⊕ (List Int)) :=
 cond (decide (s5.2 < (x3.length:Int))) (
  (loopO (l1_D x0 x1 x3 s5) (s5.1,0)).bind fun r4 =>
  (rng (s5.2 + 1)).bind fun v5 =>
  some (.inl (r4,v5))) (
  some (.inr s5.1))
def f_D (x0:SModule) (x1:List (List Int)) (x2:List Int) (x3:List Int):Option (List Int) :=
 (loopO (l2_D x0 x1 x3) (x2,0)).bind fun r6 =>
 some r6
def l1_a3 (x0:List Int) (s1:Int):Option (Int ⊕ (Unit ⊕ Bool)) :=
 cond (decide (s1 < (x0.length:Int))) (
  (ixO x0 s1).bind fun v1 =>
  cond (v1 != 0) (
   some (.inr (.inr false))) (
   (rng (s1 + 1)).bind fun v2 =>
   some (.inl v2))) (
  some (.inr (.inl ())))
def f_a3 (x0:List Int):Option Bool :=
 (loopO (l1_a3 x0) 0).bind fun r3 =>
 match r3 with
 | (.inl r3) =>
  some true
 | (.inr r3) =>
  some r3
def l1_aV (x0:SModule) (x1:List (List Int)) (s1:Int):Option (Int ⊕ (Unit ⊕ Bool)) :=
 cond (decide (s1 < (x1.length:Int))) (
  (ixO x1 s1).bind fun v1 =>
  (f_aC v1 x0.Prime x0.Dim).bind fun r2 =>
  cond (!r2) (
   some (.inr (.inr false))) (
   (rng (s1 + 1)).bind fun v3 =>
   some (.inl v3))) (
  some (.inr (.inl ())))
def f_aV (x0:SModule) (x1:List (List Int)):Option Bool :=
 (loopO (l1_aV x0 x1) 0).bind fun r4 =>
 match r4 with
 | (.inl r4) =>
  some true
 | (.inr r4) =>
  some r4
def l1_T (x0:SModule) (x1:List (List Int)) (x2:List Int) (s1:(List Int) × Int):Option (((List Int) × Int) ⊕ (List Int)) :=
 cond (decide (s1.2 < (x2.length:Int))) (
  (ixO x2 s1.2).bind fun v2 =>
  (rng (v2 - 1)).bind fun v3 =>
  (f_aS x0 v3).bind fun r4 =>
  (f_aa s1.1 r4).bind fun r5 =>
  (rng (v2 - 1)).bind fun v6 =>
  (ixO x1 v6).bind fun v7 =>
  (f_x r5 v7 1 x0.Prime).bind fun r8 =>
  (rng (s1.2 + 1)).bind fun v9 =>
  some (.inl (r8,v9))) (
  some (.inr s1.1))
def f_T (x0:SModule) (x1:List (List Int)) (x2:List Int):Option (List Int) :=
 (lenOk x0.Dim).bind fun m1 =>
 (loopO (l1_T x0 x1 x2) (List.replicate m1 (0:Int),0)).bind fun r10 =>
 some r10
def l1_U (x1:SModule) (x2:List (List Int)) (r1:(List ((List Int) × (List Int)))) (s1:(List (List Int)) × Int):Option (((List (List Int)) × Int) ⊕ (List (List Int))) :=
 cond (decide (s1.2 < (r1.length:Int))) (
  (ixO r1 s1.2).bind fun v2 =>
  (f_T x1 x2 v2.1).bind fun r3 =>
  (f_T x1 x2 v2.2).bind fun r4 =>
  (f_x r3 r4 (-1) x1.Prime).bind fun r5 =>
  (appO s1.1 [r5]).bind fun v6 =>
  (rng (s1.2 + 1)).bind fun v7 =>
  some (.inl (v6,v7))) (
  some (.inr s1.1))
def f_U (x0:SPr) (x1:SModule) (x2:List (List Int)):Option (List (List Int)) :=
 (f_t x0).bind fun r1 =>
 (loopO (l1_U x1 x2 r1) ([],0)).bind fun r8 =>
 some r8
def f_bi (x0:SPr) (x1:SModule) (x2:List (List Int)):Option Bool :=
 (f_bn x0).bind fun r1 =>
 cond ((x2.length:Int) == r1) (
  (f_aO x1 x2).bind fun r2 =>
  some r2) (
  some false)
def f_at (x0:Sl23Rules):Option Sl23Pair :=
 cond (decide ((x0.tails.length:Int) > 0)) (
  (ixO x0.tails 0).bind fun v1 =>
  (lenOk (x0.p.Orders.length:Int)).bind fun m2 =>
  (lenOk (v1.length:Int)).bind fun m3 =>
  some (Sl23Pair.mk (List.replicate m2 (0:Int)) (List.replicate m3 (0:Int)))) (
  (lenOk (x0.p.Orders.length:Int)).bind fun m4 =>
  (lenOk 0).bind fun m5 =>
  some (Sl23Pair.mk (List.replicate m4 (0:Int)) (List.replicate m5 (0:Int))))
def f_N (x0:Sl23Rules) (x1:Int) (x2:Int):Option Sl23Pair :=
 (ixO x0.p.Conjugates x1).bind fun v1 =>
 (rng (x2 - x1)).bind fun v2 =>
 (rng (v2 - 1)).bind fun v3 =>
 (ixO v1 v3).bind fun v4 =>
 (f_bw (x0.p.Orders.length:Int) x1 x2).bind fun r5 =>
 (ixO x0.tails r5).bind fun v6 =>
 some (Sl23Pair.mk v4 v6)
def l1_ae (x0:SModule) (x1:List Int) (x2:Int) (s1:(List Int) × Int):Option (((List Int) × Int) ⊕ (List Int)) :=
 cond (decide (s1.2 < (x1.length:Int))) (
  (rng (s1.2 + x0.Dim)).bind fun v1 =>
  (sliceO x1 s1.2 v1).bind fun v2 =>
  (ixO x0.Actions x2).bind fun v3 =>
  (f_E x0.Prime v2 v3 x0.Dim).bind fun r4 =>
  (appO s1.1 r4).bind fun v5 =>
  (rng (s1.2 + x0.Dim)).bind fun v6 =>
  some (.inl (v5,v6))) (
  some (.inr s1.1))
def f_ae (x0:SModule) (x1:List Int) (x2:Int):Option (List Int) :=
 (loopO (l1_ae x0 x1 x2) ([],0)).bind fun r7 =>
 some r7
def f_aE (x0:Sl23Rules) (x1:Int):Option Sl23Pair :=
 (ixO x0.p.Powers x1).bind fun v1 =>
 (ixO x0.tails x1).bind fun v2 =>
 some (Sl23Pair.mk v1 v2)
def l1_f (g_e:Sl23Rules → Int → Sl23Pair → Sl23Pair → Option Sl23Pair) (x0:Sl23Rules) (x1:Int) (x2:Sl23Pair) (s5:(List Int) × (List Int) × Int) (s6:(List Int) × (List Int) × Int):Option (((List Int) × (List Int) × Int) ⊕ ((List Int) × (List Int))) :=
 (ixO x2.x s5.2.2).bind fun v3 =>
 cond (decide (s6.2.2 < v3)) (
  (rng (x1 + 1)).bind fun v4 =>
  (f_N x0 x1 s5.2.2).bind fun r5 =>
  (g_e x0 v4 (Sl23Pair.mk s6.1 s6.2.1) r5).bind fun r6 =>
  (rng (s6.2.2 + 1)).bind fun v7 =>
  some (.inl (r6.x,r6.v,v7))) (
  some (.inr (s6.1,s6.2.1)))
def l2_f (g_e:Sl23Rules → Int → Sl23Pair → Sl23Pair → Option Sl23Pair) (x0:Sl23Rules) (x1:Int) (x2:Sl23Pair) (s5:(List Int) × (List Int) × Int):Option (((List Int) × (List Int) × Int) ⊕ ((List Int) × (List Int))) :=
 cond (decide (s5.2.2 < (x2.x.length:Int))) (
  (loopO (l1_f g_e x0 x1 x2 s5) (s5.1,s5.2.1,0)).bind fun r8 =>
  (rng (s5.2.2 + 1)).bind fun v9 =>
  some (.inl (r8.1,r8.2,v9))) (
  some (.inr (s5.1,s5.2.1)))
def b_f (g_e:Sl23Rules → Int → Sl23Pair → Sl23Pair → Option Sl23Pair) (x0:Sl23Rules) (x1:Int) (x2:Sl23Pair):Option Sl23Pair :=
 (f_at x0).bind fun r1 =>
 (rng (x1 + 1)).bind fun v2 =>
 (loopO (l2_f g_e x0 x1 x2) (r1.x,r1.v,v2)).bind fun r10 =>
 (f_ae x0.m x2.v x1).bind fun r11 =>
 (f_m x0.m.Prime r10.2 1 r11).bind fun r12 =>
 some (Sl23Pair.mk r10.1 r12)
def l1_e (g_f:Sl23Rules → Int → Sl23Pair → Option Sl23Pair) (x0:Sl23Rules) (x1:Int) (x3:Sl23Pair) (s1:(List Int) × (List Int) × Int):Option (((List Int) × (List Int) × Int) ⊕ ((List Int) × (List Int))) :=
 (ixO x3.x x1).bind fun v7 =>
 cond (decide (s1.2.2 < v7)) (
  (g_f x0 x1 (Sl23Pair.mk s1.1 s1.2.1)).bind fun r8 =>
  (rng (s1.2.2 + 1)).bind fun v9 =>
  some (.inl (r8.x,r8.v,v9))) (
  some (.inr (s1.1,s1.2.1)))
def b_e (g_f:Sl23Rules → Int → Sl23Pair → Option Sl23Pair) (g_e:Sl23Rules → Int → Sl23Pair → Sl23Pair → Option Sl23Pair) (x0:Sl23Rules) (x1:Int) (x2:Sl23Pair) (x3:Sl23Pair):Option Sl23Pair :=
 cond (decide (x1 ≥ (x0.p.Orders.length:Int))) (
  (lenOk (x0.p.Orders.length:Int)).bind fun m1 =>
  (f_m x0.m.Prime x2.v 1 x3.v).bind fun r2 =>
  some (Sl23Pair.mk (List.replicate m1 (0:Int)) r2)) (
  (f_v x2.x).bind fun r3 =>
  (f_v x3.x).bind fun r4 =>
  (ixO r3 x1).bind fun _ =>
  (ixO r4 x1).bind fun _ =>
  (loopO (l1_e g_f x0 x1 x3) (r3.set x1.toNat 0,x2.v,0)).bind fun r10 =>
  (rng (x1 + 1)).bind fun v11 =>
  (g_e x0 v11 (Sl23Pair.mk r10.1 r10.2) (Sl23Pair.mk (r4.set x1.toNat 0) x3.v)).bind fun r12 =>
  (ixO x2.x x1).bind fun v13 =>
  (ixO x3.x x1).bind fun v14 =>
  (rng (v13 + v14)).bind fun v15 =>
  (ixO x0.p.Orders x1).bind fun v16 =>
  cond (decide (v15 ≥ v16)) (
   (ixO x0.p.Orders x1).bind fun v17 =>
   (rng (v15 - v17)).bind fun v18 =>
   (rng (x1 + 1)).bind fun v19 =>
   (f_aE x0 x1).bind fun r20 =>
   (g_e x0 v19 r20 r12).bind fun r21 =>
   (f_v r21.x).bind fun r22 =>
   (ixO r22 x1).bind fun _ =>
   some (Sl23Pair.mk (r22.set x1.toNat v18) r21.v)) (
   (f_v r12.x).bind fun r24 =>
   (ixO r24 x1).bind fun _ =>
   some (Sl23Pair.mk (r24.set x1.toNat v15) r12.v)))
mutual
def fN_f:Nat → Sl23Rules → Int → Sl23Pair → Option Sl23Pair
 | 0 => fun _ _ _ => none
 | n + 1 => b_f (fN_e n)
def fN_e:Nat → Sl23Rules → Int → Sl23Pair → Sl23Pair → Option Sl23Pair
 | 0 => fun _ _ _ _ => none
 | n + 1 => b_e (fN_f n) (fN_e n)
end
def f_f (x0:Sl23Rules) (x1:Int) (x2:Sl23Pair):Option Sl23Pair:=fuelO fun n => fN_f n x0 x1 x2
def f_e (x0:Sl23Rules) (x1:Int) (x2:Sl23Pair) (x3:Sl23Pair):Option Sl23Pair:=fuelO fun n => fN_e n x0 x1 x2 x3
def f_af (x0:Sl23Rules) (x1:Sl23Pair) (x2:Sl23Pair):Option (List Int) :=
 (rng (x0.m.Prime - 1)).bind fun v1 =>
 (f_m x0.m.Prime x1.v v1 x2.v).bind fun r2 =>
 some r2
def l1_h (x0:Sl23Rules) (x1:Int) (s9:(List (List Int)) × Int) (s10:(List Int) × (List Int) × Int):Option (((List Int) × (List Int) × Int) ⊕ ((List Int) × (List Int))) :=
 (ixO x0.p.Orders s9.2).bind fun v3 =>
 cond (decide (s10.2.2 < v3)) (
  (rng (x1 + 1)).bind fun v4 =>
  (f_N x0 x1 s9.2).bind fun r5 =>
  (f_e x0 v4 (Sl23Pair.mk s10.1 s10.2.1) r5).bind fun r6 =>
  (rng (s10.2.2 + 1)).bind fun v7 =>
  some (.inl (r6.x,r6.v,v7))) (
  some (.inr (s10.1,s10.2.1)))
def l2_h (x0:Sl23Rules) (x1:Int) (s9:(List (List Int)) × Int) (s12:(List (List Int)) × Int):Option (((List (List Int)) × Int) ⊕ (List (List Int))) :=
 cond (decide (s12.2 < (x0.p.Orders.length:Int))) (
  (f_N x0 x1 s9.2).bind fun r14 =>
  (f_N x0 x1 s12.2).bind fun r15 =>
  (f_N x0 s9.2 s12.2).bind fun r16 =>
  (f_f x0 x1 r16).bind fun r17 =>
  (rng (x1 + 1)).bind fun v18 =>
  (f_e x0 v18 r15 r14).bind fun r19 =>
  (rng (x1 + 1)).bind fun v20 =>
  (f_e x0 v20 r14 r17).bind fun r21 =>
  (f_af x0 r19 r21).bind fun r22 =>
  (appO s12.1 [r22]).bind fun v23 =>
  (rng (s12.2 + 1)).bind fun v24 =>
  some (.inl (v23,v24))) (
  some (.inr s12.1))
def l3_h (x0:Sl23Rules) (x1:Int) (s9:(List (List Int)) × Int):Option (((List (List Int)) × Int) ⊕ (List (List Int))) :=
 cond (decide (s9.2 < (x0.p.Orders.length:Int))) (
  (f_at x0).bind fun r2 =>
  (loopO (l1_h x0 x1 s9) (r2.x,r2.v,0)).bind fun r8 =>
  (f_aE x0 s9.2).bind fun r9 =>
  (f_f x0 x1 r9).bind fun r10 =>
  (f_af x0 (Sl23Pair.mk r8.1 r8.2) r10).bind fun r11 =>
  (appO s9.1 [r11]).bind fun v12 =>
  (rng (s9.2 + 1)).bind fun v13 =>
  (loopO (l2_h x0 x1 s9) (v12,v13)).bind fun r25 =>
  (rng (s9.2 + 1)).bind fun v26 =>
  some (.inl (r25,v26))) (
  some (.inr s9.1))
def l4_h (x0:Sl23Rules) (x1:Int) (s20:(List Int) × (List Int) × Int):Option (((List Int) × (List Int) × Int) ⊕ ((List Int) × (List Int))) :=
 (ixO x0.p.Orders x1).bind fun v35 =>
 cond (decide (s20.2.2 < v35)) (
  (f_f x0 x1 (Sl23Pair.mk s20.1 s20.2.1)).bind fun r36 =>
  (rng (s20.2.2 + 1)).bind fun v37 =>
  some (.inl (r36.x,r36.v,v37))) (
  some (.inr (s20.1,s20.2.1)))
def l5_h (x0:Sl23Rules) (x1:Int) (r28:Sl23Pair) (s19:(List (List Int)) × Int):Option (((List (List Int)) × Int) ⊕ (List (List Int))) :=
 cond (decide (s19.2 < (x0.p.Orders.length:Int))) (
  (f_at x0).bind fun r33 =>
  (ixO r33.x s19.2).bind fun _ =>
  (loopO (l4_h x0 x1) (r33.x.set s19.2.toNat 1,r33.v,0)).bind fun r38 =>
  (rng (x1 + 1)).bind fun v39 =>
  (f_e x0 v39 r28 (Sl23Pair.mk r38.1 r38.2)).bind fun r40 =>
  (rng (x1 + 1)).bind fun v41 =>
  (f_e x0 v41 (Sl23Pair.mk (r33.x.set s19.2.toNat 1) r33.v) r28).bind fun r42 =>
  (f_af x0 r40 r42).bind fun r43 =>
  (appO s19.1 [r43]).bind fun v44 =>
  (rng (s19.2 + 1)).bind fun v45 =>
  some (.inl (v44,v45))) (
  some (.inr s19.1))
def f_h (x0:Sl23Rules) (x1:Int):Option (List (List Int)) :=
 (rng (x1 + 1)).bind fun v1 =>
 (loopO (l3_h x0 x1) ([],v1)).bind fun r27 =>
 (f_aE x0 x1).bind fun r28 =>
 (f_f x0 x1 r28).bind fun r29 =>
 (f_af x0 r29 r28).bind fun r30 =>
 (appO r27 [r30]).bind fun v31 =>
 (rng (x1 + 1)).bind fun v32 =>
 (loopO (l5_h x0 x1 r28) (v31,v32)).bind fun r46 =>
 some r46
def l1_aF (x0:Sl23Rules) (s1:(List (List Int)) × Int):Option (((List (List Int)) × Int) ⊕ (List (List Int))) :=
 cond (decide (s1.2 < (x0.p.Orders.length:Int))) (
  (f_h x0 s1.2).bind fun r1 =>
  (appO s1.1 r1).bind fun v2 =>
  (rng (s1.2 + 1)).bind fun v3 =>
  some (.inl (v2,v3))) (
  some (.inr s1.1))
def f_aF (x0:Sl23Rules):Option (List (List Int)) :=
 (loopO (l1_aF x0) ([],0)).bind fun r4 =>
 some r4
def l1_au (r1:(List (List Int))) (s1:Int):Option (Int ⊕ (Unit ⊕ Bool)) :=
 cond (decide (s1 < (r1.length:Int))) (
  (ixO r1 s1).bind fun v2 =>
  (f_a3 v2).bind fun r3 =>
  cond (!r3) (
   some (.inr (.inr false))) (
   (rng (s1 + 1)).bind fun v4 =>
   some (.inl v4))) (
  some (.inr (.inl ())))
def f_au (x0:SPr) (x1:SModule) (x2:List (List Int)):Option Bool :=
 (f_aF (Sl23Rules.mk x0 x1 x2)).bind fun r1 =>
 (loopO (l1_au r1) 0).bind fun r5 =>
 match r5 with
 | (.inl r5) =>
  some true
 | (.inr r5) =>
  some r5
def f_bq (x0:SPr) (x1:SModule) (x2:List (List Int)):Option Bool :=
 (f_bo x0).bind fun r1 =>
 cond ((x2.length:Int) == r1) (
  (f_aV x1 x2).bind fun r2 =>
  some r2) (
  some false)
def f_br (x0:SPr) (x1:SModule) (x2:List (List Int)):Option Bool :=
 (f_k x0 x1 x2).bind fun r1 =>
 (f_L r1).bind fun r2 =>
 some (r2 == 0)
def f_bx (x0:Int) (x1:Int) (x2:List (List Int)):Option SMatrix :=
 (f_g x0 x2).bind fun r1 =>
 some (SMatrix.mk x0 x1 r1)
def f_bp (x0:Int):Option Bool :=
 some (x0 != 0)
def l1_ad (x0:List Int) (s1:Int):Option (Int ⊕ (Unit ⊕ Int)) :=
 cond (decide (s1 < (x0.length:Int))) (
  (ixO x0 s1).bind fun v1 =>
  (f_bp v1).bind fun r2 =>
  cond r2 (
   some (.inr (.inr s1))) (
   (rng (s1 + 1)).bind fun v3 =>
   some (.inl v3))) (
  some (.inr (.inl ())))
def f_ad (x0:List Int):Option Int :=
 (loopO (l1_ad x0) 0).bind fun r4 =>
 match r4 with
 | (.inl r4) =>
  some (-1)
 | (.inr r4) =>
  some r4
def l1_W (x0:List (List Int)) (s1:(List Int) × Int):Option (((List Int) × Int) ⊕ (List Int)) :=
 cond (decide (s1.2 < (x0.length:Int))) (
  (ixO x0 s1.2).bind fun v1 =>
  (f_ad v1).bind fun r2 =>
  (appO s1.1 [r2]).bind fun v3 =>
  (rng (s1.2 + 1)).bind fun v4 =>
  some (.inl (v3,v4))) (
  some (.inr s1.1))
def f_W (x0:List (List Int)):Option (List Int) :=
 (loopO (l1_W x0) ([],0)).bind fun r5 =>
 some r5
def l1_aq (x0:SMatrix) (r2:(List Int)) (s1:(List Int) × Int):Option (((List Int) × Int) ⊕ (List Int)) :=
 cond (decide (s1.2 < (r2.length:Int))) (
  (ixO r2 s1.2).bind fun v3 =>
  (ixO x0.Rows s1.2).bind fun v4 =>
  (ixO s1.1 v3).bind fun v5 =>
  (rng (0 - v5)).bind fun v6 =>
  (f_x s1.1 v4 v6 x0.Prime).bind fun r7 =>
  (rng (s1.2 + 1)).bind fun v8 =>
  some (.inl (r7,v8))) (
  some (.inr s1.1))
def f_aq (x0:SMatrix) (x1:List Int):Option (List Int) :=
 (f_w x1).bind fun r1 =>
 (f_W x0.Rows).bind fun r2 =>
 (loopO (l1_aq x0 r2) (r1,0)).bind fun r9 =>
 some r9
def l1_V (x0:List (List Int)) (s1:(List Int) × Int):Option (((List Int) × Int) ⊕ (List Int)) :=
 cond (decide (s1.2 < (x0.length:Int))) (
  (ixO x0 s1.2).bind fun v1 =>
  (appO s1.1 v1).bind fun v2 =>
  (rng (s1.2 + 1)).bind fun v3 =>
  some (.inl (v2,v3))) (
  some (.inr s1.1))
def f_V (x0:List (List Int)):Option (List Int) :=
 (loopO (l1_V x0) ([],0)).bind fun r4 =>
 some r4
def l1_Y (x0:List Int) (x1:Int) (s1:(List (List Int)) × Int):Option (((List (List Int)) × Int) ⊕ (List (List Int))) :=
 (rng (s1.2 + x1)).bind fun v1 =>
 cond (decide (v1 ≤ (x0.length:Int))) (
  (rng (s1.2 + x1)).bind fun v2 =>
  (sliceO x0 s1.2 v2).bind fun v3 =>
  (f_v v3).bind fun r4 =>
  (appO s1.1 [r4]).bind fun v5 =>
  (rng (s1.2 + x1)).bind fun v6 =>
  some (.inl (v5,v6))) (
  some (.inr s1.1))
def f_Y (x0:List Int) (x1:Int):Option (List (List Int)) :=
 (loopO (l1_Y x0 x1) ([],0)).bind fun r7 =>
 some r7
def l1_n (x0:SPr) (x1:SModule) (x2:List (List Int)) (s5:(List (List Int)) × Int) (s6:(List Int) × Int):Option (((List Int) × Int) ⊕ (List Int)) :=
 (ixO x0.Orders s5.2).bind fun v2 =>
 cond (decide (s6.2 < v2)) (
  (f_ab x1 x2 s6.1 s5.2).bind fun r3 =>
  (rng (s6.2 + 1)).bind fun v4 =>
  some (.inl (r3,v4))) (
  some (.inr s6.1))
def l2_n (x0:SPr) (x1:SModule) (x2:List (List Int)) (m1:Nat) (s5:(List (List Int)) × Int):Option (((List (List Int)) × Int) ⊕ (List (List Int))) :=
 cond (decide (s5.2 < (x0.Orders.length:Int))) (
  (loopO (l1_n x0 x1 x2 s5) (List.replicate m1 (0:Int),0)).bind fun r5 =>
  (rng (x1.Prime - 1)).bind fun v6 =>
  (ixO x0.Powers s5.2).bind fun v7 =>
  (f_D x1 x2 (List.replicate m1 (0:Int)) v7).bind fun r8 =>
  (f_m x1.Prime r5 v6 r8).bind fun r9 =>
  (appO s5.1 [r9]).bind fun v10 =>
  (rng (s5.2 + 1)).bind fun v11 =>
  some (.inl (v10,v11))) (
  some (.inr s5.1))
def l3_n (x0:SPr) (x1:SModule) (x2:List (List Int)) (m1:Nat) (s13:(List (List Int)) × Int) (s14:(List (List Int)) × Int):Option (((List (List Int)) × Int) ⊕ (List (List Int))) :=
 cond (decide (s14.2 < (x0.Orders.length:Int))) (
  (f_ab x1 x2 (List.replicate m1 (0:Int)) s14.2).bind fun r14 =>
  (f_ab x1 x2 r14 s13.2).bind fun r15 =>
  (f_ab x1 x2 (List.replicate m1 (0:Int)) s13.2).bind fun r16 =>
  (ixO x0.Conjugates s13.2).bind fun v17 =>
  (rng (s14.2 - s13.2)).bind fun v18 =>
  (rng (v18 - 1)).bind fun v19 =>
  (ixO v17 v19).bind fun v20 =>
  (f_D x1 x2 r16 v20).bind fun r21 =>
  (rng (x1.Prime - 1)).bind fun v22 =>
  (f_m x1.Prime r15 v22 r21).bind fun r23 =>
  (appO s14.1 [r23]).bind fun v24 =>
  (rng (s14.2 + 1)).bind fun v25 =>
  some (.inl (v24,v25))) (
  some (.inr s14.1))
def l4_n (x0:SPr) (x1:SModule) (x2:List (List Int)) (m1:Nat) (s13:(List (List Int)) × Int):Option (((List (List Int)) × Int) ⊕ (List (List Int))) :=
 cond (decide (s13.2 < (x0.Orders.length:Int))) (
  (rng (s13.2 + 1)).bind fun v13 =>
  (loopO (l3_n x0 x1 x2 m1 s13) (s13.1,v13)).bind fun r26 =>
  (rng (s13.2 + 1)).bind fun v27 =>
  some (.inl (r26,v27))) (
  some (.inr s13.1))
def f_n (x0:SPr) (x1:SModule) (x2:List (List Int)):Option (List (List Int)) :=
 (lenOk x1.Dim).bind fun m1 =>
 (loopO (l2_n x0 x1 x2 m1) ([],0)).bind fun r12 =>
 (loopO (l4_n x0 x1 x2 m1) (r12,0)).bind fun r28 =>
 some r28
def l1_as (x0:SPr) (x1:SModule) (v1:Int) (s1:(List (List Int)) × Int):Option (((List (List Int)) × Int) ⊕ (List (List Int))) :=
 cond (decide (s1.2 < v1)) (
  (lenOk v1).bind fun m2 =>
  (ixO (List.replicate m2 (0:Int)) s1.2).bind fun _ =>
  (f_Y ((List.replicate m2 (0:Int)).set s1.2.toNat 1) x1.Dim).bind fun r4 =>
  (f_n x0 x1 r4).bind fun r5 =>
  (f_V r5).bind fun r6 =>
  (appO s1.1 [r6]).bind fun v7 =>
  (rng (s1.2 + 1)).bind fun v8 =>
  some (.inl (v7,v8))) (
  some (.inr s1.1))
def f_as (x0:SPr) (x1:SModule):Option (List (List Int)) :=
 (rng ((x0.Orders.length:Int) * x1.Dim)).bind fun v1 =>
 (loopO (l1_as x0 x1 v1) ([],0)).bind fun r9 =>
 some r9
def f_a2 (x0:SPr) (x1:SModule):Option (List (List Int)) :=
 (f_as x0 x1).bind fun r1 =>
 (f_o x1.Prime r1).bind fun r2 =>
 some r2
def l1_ar (x0:SPr) (x1:SModule) (v1:Int) (s1:(List (List Int)) × Int):Option (((List (List Int)) × Int) ⊕ (List (List Int))) :=
 cond (decide (s1.2 < v1)) (
  (f_aA v1 s1.2).bind fun r2 =>
  (f_X r2 x1.Dim).bind fun r3 =>
  (f_U x0 x1 r3).bind fun r4 =>
  (f_s r4).bind fun r5 =>
  (appO s1.1 [r5]).bind fun v6 =>
  (rng (s1.2 + 1)).bind fun v7 =>
  some (.inl (v6,v7))) (
  some (.inr s1.1))
def f_ar (x0:SPr) (x1:SModule):Option (List (List Int)) :=
 (rng ((x0.Orders.length:Int) * x1.Dim)).bind fun v1 =>
 (loopO (l1_ar x0 x1 v1) ([],0)).bind fun r8 =>
 some r8
def f_bs (x0:SPr) (x1:SModule) (x2:List (List Int)) (x3:List (List Int)):Option Int :=
 (f_bm x0 x1).bind fun r1 =>
 cond (!r1) (
  some 1) (
  (f_bi x0 x1 x2).bind fun r2 =>
  cond (!r2) (
   some 1) (
   (f_bi x0 x1 x3).bind fun r3 =>
   cond (!r3) (
    some 1) (
    (f_au x0 x1 x2).bind fun r4 =>
    cond (!r4) (
     some 5) (
     (f_au x0 x1 x3).bind fun r5 =>
     cond (!r5) (
      some 5) (
      some 0)))))
def l1_K (x0:SPr) (x1:SModule) (x2:List (List (List Int))) (s1:Int):Option (Int ⊕ (Unit ⊕ Int)) :=
 cond (decide (s1 < (x2.length:Int))) (
  (ixO x2 s1).bind fun v2 =>
  (f_bq x0 x1 v2).bind fun r3 =>
  cond (!r3) (
   some (.inr (.inr 1))) (
   (rng (s1 + 1)).bind fun v4 =>
   some (.inl v4))) (
  some (.inr (.inl ())))
def l2_K (x0:SPr) (x1:SModule) (x2:List (List (List Int))) (s3:Int):Option (Int ⊕ (Unit ⊕ Int)) :=
 cond (decide (s3 < (x2.length:Int))) (
  (ixO x2 s3).bind fun v6 =>
  (f_br x0 x1 v6).bind fun r7 =>
  cond (!r7) (
   some (.inr (.inr 5))) (
   (rng (s3 + 1)).bind fun v8 =>
   some (.inl v8))) (
  some (.inr (.inl ())))
def f_K (x0:SPr) (x1:SModule) (x2:List (List (List Int))):Option Int :=
 (f_C x0 x1).bind fun r1 =>
 cond (!r1) (
  some 1) (
  (loopO (l1_K x0 x1 x2) 0).bind fun r5 =>
  match r5 with
  | (.inl r5) =>
   (loopO (l2_K x0 x1 x2) 0).bind fun r9 =>
   match r9 with
   | (.inl r9) =>
    some 0
   | (.inr r9) =>
    some r9
  | (.inr r5) =>
   some r5)
def f_bt (x0:SPr) (x1:SModule) (x2:List Int):Option (List (List Int)) :=
 (f_a2 x0 x1).bind fun r1 =>
 (f_ac x1.Prime r1 x2).bind fun r2 =>
 (f_Y r2 x1.Dim).bind fun r3 =>
 some r3
def f_bu (x0:SPr) (x1:SModule) (x2:List Int):Option (List (List Int)) :=
 (f_ar x0 x1).bind fun r1 =>
 (f_bx x1.Prime x1.Dim r1).bind fun r2 =>
 (f_aq r2 x2).bind fun r3 =>
 (f_X r3 x1.Dim).bind fun r4 =>
 some r4
def f_a4 (x0:SPr) (x1:SModule) (x2:List (List Int)) (x3:List (List Int)):Option ((List (List Int)) × Int) :=
 (f_bs x0 x1 x2 x3).bind fun r1 =>
 cond (r1 != 0) (
  some ([],r1)) (
  (f_V x2).bind fun r2 =>
  (f_V x3).bind fun r3 =>
  (f_m x1.Prime r2 1 r3).bind fun r4 =>
  (f_bt x0 x1 r4).bind fun r5 =>
  some (r5,0))
def f_aX (x0:SPr) (x1:SModule) (x2:List (List Int)) (x3:List (List Int)):Option ((List (List Int)) × Int) :=
 (f_K x0 x1 [x2,x3]).bind fun r1 =>
 cond (r1 != 0) (
  some ([],r1)) (
  (f_s x2).bind fun r2 =>
  (f_s x3).bind fun r3 =>
  (f_x r2 r3 1 x1.Prime).bind fun r4 =>
  (f_bu x0 x1 r4).bind fun r5 =>
  some (r5,0))
def f_aY (x0:SPr) (x1:SModule) (x2:List (List Int)) (x3:List (List Int)):Option Bool :=
 (f_a6 x0 1048576).bind fun r1 =>
 cond (decide (r1 < 0)) (
  some true) (
  (f_a7 x1 r1).bind fun r2 =>
  cond (decide (r2 < 0)) (
   some true) (
   (f_ag x2 r2).bind fun r3 =>
   cond (decide (r3 < 0)) (
    some true) (
    (f_ag x3 r3).bind fun r4 =>
    cond (decide (r4 < 0)) (
     some true) (
     (f_aj x0).bind fun r5 =>
     (f_ak x1).bind fun r6 =>
     (f_q x2).bind fun r7 =>
     (f_q x3).bind fun r8 =>
     (f_a4 r5 r6 r7 r8).bind fun r9 =>
     (f_aj x0).bind fun r10 =>
     (f_ak x1).bind fun r11 =>
     (f_q x2).bind fun r12 =>
     (f_q x3).bind fun r13 =>
     (f_aX r10 r11 r12 r13).bind fun r14 =>
     (f_A r14.1 r9.1).bind fun r15 =>
     cond (!r15) (
      some false) (
      cond (r14.2 != r9.2) (
       some false) (
       (f_aj x0).bind fun r16 =>
       (f_a9 r10 r16).bind fun r17 =>
       cond (!r17) (
        some false) (
        (f_ak x1).bind fun r18 =>
        (f_a8 r11 r18).bind fun r19 =>
        cond (!r19) (
         some false) (
         (f_q x2).bind fun r20 =>
         (f_A r12 r20).bind fun r21 =>
         cond (!r21) (
          some false) (
          (f_q x3).bind fun r22 =>
          (f_A r13 r22).bind fun r23 =>
          cond (!r23) (
           some false) (
           (f_aW r10 1).bind fun r24 =>
           (f_aQ r11 r24.1).bind fun r25 =>
           (f_F r12 r25.1).bind fun r26 =>
           (f_F r13 r26.1).bind fun r27 =>
           cond (decide (r27.1 < 0)) (
            some false) (
            (f_A r14.1 r9.1).bind fun r28 =>
            cond (!r28) (
             some false) (
             cond (r14.2 != r9.2) (
              some false) (
              (f_F r14.1 1).bind fun r29 =>
              (f_aw r29.2 1).bind fun r30 =>
              cond (decide (r30 < 0)) (
               some false) (
               cond (r30 != r29.1) (
                some false) (
                (f_aj x0).bind fun r31 =>
                (f_ak x1).bind fun r32 =>
                (f_q x2).bind fun r33 =>
                (f_q x3).bind fun r34 =>
                (f_aX r31 r32 r33 r34).bind fun r35 =>
                (f_A r35.1 r9.1).bind fun r36 =>
                cond (!r36) (
                 some false) (
                 cond (r35.2 != r9.2) (
                  some false) (
                  (f_aw r29.2 1).bind fun r37 =>
                  cond (decide (r37 < 0)) (
                   some false) (
                   cond (r37 != r29.1) (
                    some false) (
                    some true)))))))))))))))))))
end Go.Wk
