/- The program's DerivationKernel returns what the reference's returns,for all arguments;no conditions. -/
import Derived.Test.YtibamokcnfffhaaGreatAbC
open List renaming replicate→J1
open Int renaming fdiv→Lq
open Option renaming some→aN,none→aO
open Bool renaming true→aP,false→aQ
noncomputable section
namespace Go.Wk
open Go Go.Ab
abbrev aT:=List Int
abbrev aU:=List aT
structure SPr where
 zA:aT
 zW:aU
 zB:List aU
abbrev yI(x:SPr):T:=.agg [(L 1 I) x.zA,(L 1 (L 1 I)) x.zW,(L 1 (L 1 (L 1 I))) x.zB]
instance:Enc yI:=.of fun _=>zMh ⟨Enc.t (f:=(L 1 I)) inferInstance _,Enc.t (f:=(L 1 (L 1 I))) inferInstance _,Enc.t (f:=(L 1 (L 1 (L 1 I)))) inferInstance _,trivial⟩
structure zD where
 Prime:Int
 Dim:Int
 zL:List aU
abbrev zX(x:zD):T:=.agg [I x.Prime,I x.Dim,(L 1 (L 1 (L 1 I))) x.zL]
instance:Enc zX:=.of fun _=>zMh ⟨Enc.t (f:=I) inferInstance _,Enc.t (f:=I) inferInstance _,Enc.t (f:=(L 1 (L 1 (L 1 I)))) inferInstance _,trivial⟩
structure yH where
 Kind:Int
 zQ6:Int
 zQ7:Int
 zO9:Int
abbrev zD7(x:yH):T:=.agg [I x.Kind,I x.zQ6,I x.zQ7,I x.zO9]
instance:Enc zD7:=.of fun _=>zMh ⟨Enc.t (f:=I) inferInstance _,Enc.t (f:=I) inferInstance _,Enc.t (f:=I) inferInstance _,Enc.t (f:=I) inferInstance _,trivial⟩
structure zZ where
 Prime:Int
 tC:Int
 Rows:aU
abbrev zC0(x:zZ):T:=.agg [I x.Prime,I x.tC,(L 1 (L 1 I)) x.Rows]
instance:Enc zC0:=.of fun _=>zMh ⟨Enc.t (f:=I) inferInstance _,Enc.t (f:=I) inferInstance _,Enc.t (f:=(L 1 (L 1 I))) inferInstance _,trivial⟩
def zNi(x0:aT)(x1:Int):Option Int:=
 (rng (x1-(x0.length:Int))).bind fun v1=>
 cond (decide (v1<0)) (
  aN (-1)) (
  aN v1)
def zQ2(x0:aU)(s1:Int×Int):Option ((Int×Int)⊕(Int⊕Int)):=
 cond (decide (s1.2<(x0.length:Int))) (
  (ixO x0 s1.2).bind fun v2=>
  (zNi v2 s1.1).bind fun r3=>
  cond (decide (r3<0)) (
   aN (.inr (.inr (-1)))) (
   (rng (s1.2+1)).bind fun v4=>
   aN (.inl (r3,v4)))) (
  aN (.inr (.inl s1.1)))
def zNj(x0:aU)(x1:Int):Option Int:=
 (rng (x1-(x0.length:Int))).bind fun v1=>
 cond (decide (v1<0)) (
  aN (-1)) (
  (zG (zQ2 x0) (v1,0)).bind fun r5=>
  match r5 with
  |(.inl r5)=>
   aN r5
  |(.inr r5)=>
   aN r5)
def zQ3(x0:List aU)(s1:Int×Int):Option ((Int×Int)⊕(Int⊕Int)):=
 cond (decide (s1.2<(x0.length:Int))) (
  (ixO x0 s1.2).bind fun v2=>
  (zNj v2 s1.1).bind fun r3=>
  cond (decide (r3<0)) (
   aN (.inr (.inr (-1)))) (
   (rng (s1.2+1)).bind fun v4=>
   aN (.inl (r3,v4)))) (
  aN (.inr (.inl s1.1)))
def zPt(x0:List aU)(x1:Int):Option Int:=
 (rng (x1-(x0.length:Int))).bind fun v1=>
 cond (decide (v1<0)) (
  aN (-1)) (
  (zG (zQ3 x0) (v1,0)).bind fun r5=>
  match r5 with
  |(.inl r5)=>
   aN r5
  |(.inr r5)=>
   aN r5)
def zPu(x0:SPr)(x1:Int):Option Int:=
 (zNi x0.zA x1).bind fun r1=>
 cond (decide (r1<0)) (
  aN (-1)) (
  (zNj x0.zW r1).bind fun r2=>
  cond (decide (r2<0)) (
   aN (-1)) (
   (zPt x0.zB r2).bind fun r3=>
   cond (decide (r3<0)) (
    aN (-1)) (
    aN r3)))
def zPv(x0:zD)(x1:Int):Option Int:=
 (zPt x0.zL x1).bind fun r1=>
 cond (decide (r1<0)) (
  aN (-1)) (
  aN r1)
def zNk(x0:aT)(s1:(aT)×Int):Option ((aT×Int)⊕aT):=
 cond (decide (s1.2<(x0.length:Int))) (
  (ixO x0 s1.2).bind fun v2=>
  (ixO s1.1 s1.2).bind fun _=>
  (rng (s1.2+1)).bind fun v4=>
  aN (.inl (s1.1.set s1.2.toNat v2,v4))) (
  aN (.inr s1.1))
def zLe(x0:aT):Option aT:=
 (yT (x0.length:Int)).bind fun m1=>
 (zG (zNk x0) (J1 m1 (0:Int),0)).bind fun r5=>
 aN r5
def zRv(x0:aU)(s1:(aU)×Int):Option ((aU×Int)⊕aU):=
 cond (decide (s1.2<(x0.length:Int))) (
  (ixO x0 s1.2).bind fun v2=>
  (zLe v2).bind fun r3=>
  (ixO s1.1 s1.2).bind fun _=>
  (rng (s1.2+1)).bind fun v5=>
  aN (.inl (s1.1.set s1.2.toNat r3,v5))) (
  aN (.inr s1.1))
def f_x(x0:aU):Option aU:=
 (yT (x0.length:Int)).bind fun m1=>
 (zG (zRv x0) (J1 m1 ([]:aT),0)).bind fun r6=>
 aN r6
def zNl(x0:List aU)(s1:(List aU)×Int):Option (((List aU)×Int)⊕(List aU)):=
 cond (decide (s1.2<(x0.length:Int))) (
  (ixO x0 s1.2).bind fun v2=>
  (f_x v2).bind fun r3=>
  (ixO s1.1 s1.2).bind fun _=>
  (rng (s1.2+1)).bind fun v5=>
  aN (.inl (s1.1.set s1.2.toNat r3,v5))) (
  aN (.inr s1.1))
def zNm(x0:List aU):Option (List aU):=
 (yT (x0.length:Int)).bind fun m1=>
 (zG (zNl x0) (J1 m1 ([]:aU),0)).bind fun r6=>
 aN r6
def zJd(x0:SPr):Option SPr:=
 (zLe x0.zA).bind fun r1=>
 (f_x x0.zW).bind fun r2=>
 (zNm x0.zB).bind fun r3=>
 aN (SPr.mk r1 r2 r3)
def zJe(x0:zD):Option zD:=
 (zNm x0.zL).bind fun r1=>
 aN (zD.mk x0.Prime x0.Dim r1)
def zPw(x0:Int):Option Bool:=
 cond (x0==2) (
  aN aP) (
  cond (x0==3) (
   aN aP) (
   cond (x0==5) (
    aN aP) (
    aN (x0==7))))
def zIe(x0:aT)(s1:Int×Int):Option ((Int×Int)⊕Int):=
 cond (decide (s1.2<(x0.length:Int))) (
  cond (decide (s1.1≤729)) (
   (ixO x0 s1.2).bind fun v1=>
   (rng (s1.1*v1)).bind fun v2=>
   (rng (s1.2+1)).bind fun v3=>
   aN (.inl (v2,v3))) (
   (rng (s1.2+1)).bind fun v4=>
   aN (.inl (s1.1,v4)))) (
  aN (.inr s1.1))
def zPx(x0:aT):Option Int:=
 (zG (zIe x0) (1,0)).bind fun r5=>
 aN r5
def zNn(x0:Int)(x1:Int)(x2:Int):Option Bool:=
 cond (decide (x0≥x1)) (
  aN (decide (x0≤x2))) (
  aN aQ)
def zKq(x0:aT)(x1:aT)(x2:Int)(s1:Int):Option (Int⊕(Unit⊕Bool)):=
 cond (decide (s1<(x1.length:Int))) (
  (ixO x1 s1).bind fun v1=>
  (ixO x0 s1).bind fun v2=>
  (rng (v2-1)).bind fun v3=>
  (zNn v1 0 v3).bind fun r4=>
  cond (!r4) (
   aN (.inr (.inr aQ))) (
   cond (decide (s1≤x2)) (
    (ixO x1 s1).bind fun v5=>
    cond (v5 != 0) (
     aN (.inr (.inr aQ))) (
     (rng (s1+1)).bind fun v6=>
     aN (.inl v6))) (
    (rng (s1+1)).bind fun v5=>
    aN (.inl v5)))) (
  aN (.inr (.inl ())))
def zNo(x0:aT)(x1:aT)(x2:Int):Option Bool:=
 cond ((x1.length:Int) != (x0.length:Int)) (
  aN aQ) (
  (zG (zKq x0 x1 x2) 0).bind fun r6=>
  match r6 with
  |(.inl r6)=>
   aN aP
  |(.inr r6)=>
   aN r6)
def zNp(x0:SPr)(s1:Int):Option (Int⊕(Unit⊕Bool)):=
 cond (decide (s1<(x0.zA.length:Int))) (
  (ixO x0.zA s1).bind fun v1=>
  (zPw v1).bind fun r2=>
  cond (!r2) (
   aN (.inr (.inr aQ))) (
   (rng (s1+1)).bind fun v3=>
   aN (.inl v3))) (
  aN (.inr (.inl ())))
def zNq(x0:SPr)(s7:Int)(s8:Int):Option (Int⊕(Unit⊕Bool)):=
 (ixO x0.zB s7).bind fun v11=>
 cond (decide (s8<(v11.length:Int))) (
  (ixO x0.zB s7).bind fun v12=>
  (ixO v12 s8).bind fun v13=>
  (zNo x0.zA v13 s7).bind fun r14=>
  cond (!r14) (
   aN (.inr (.inr aQ))) (
   (rng (s8+1)).bind fun v15=>
   aN (.inl v15))) (
  aN (.inr (.inl ())))
def zJf(x0:SPr)(s7:Int):Option (Int⊕(Unit⊕Bool)):=
 cond (decide (s7<(x0.zA.length:Int))) (
  (ixO x0.zW s7).bind fun v6=>
  (zNo x0.zA v6 s7).bind fun r7=>
  cond (!r7) (
   aN (.inr (.inr aQ))) (
   (ixO x0.zB s7).bind fun v8=>
   (rng ((x0.zA.length:Int)-1)).bind fun v9=>
   (rng (v9-s7)).bind fun v10=>
   cond ((v8.length:Int) != v10) (
    aN (.inr (.inr aQ))) (
    (zG (zNq x0 s7) 0).bind fun r16=>
    match r16 with
    |(.inl r16)=>
     (rng (s7+1)).bind fun v17=>
     aN (.inl v17)
    |(.inr r16)=>
     aN (.inr (.inr r16))))) (
  aN (.inr (.inl ())))
def f_k(x0:SPr):Option Bool:=
 cond (decide ((x0.zA.length:Int)> 6)) (
  aN aQ) (
  cond ((x0.zW.length:Int) != (x0.zA.length:Int)) (
   aN aQ) (
   cond ((x0.zB.length:Int) != (x0.zA.length:Int)) (
    aN aQ) (
    (zG (zNp x0) 0).bind fun r4=>
    match r4 with
    |(.inl r4)=>
     (zPx x0.zA).bind fun r5=>
     cond (decide (r5> 729)) (
      aN aQ) (
      (zG (zJf x0) 0).bind fun r18=>
      match r18 with
      |(.inl r18)=>
       aN aP
      |(.inr r18)=>
       aN r18)
    |(.inr r4)=>
     aN r4)))
def f_X(x0:aT):Option aT:=
 (xR [] x0).bind fun v1=>
 aN v1
def zNr(g_a:SPr→Int→aT→aT→Option aT)(x0:SPr)(x1:Int)(x2:aT)(s5:(aT)×Int)(s6:(aT)×Int):Option ((aT×Int)⊕aT):=
 (ixO x2 s5.2).bind fun v3=>
 cond (decide (s6.2<v3)) (
  (rng (x1+1)).bind fun v4=>
  (ixO x0.zB x1).bind fun v5=>
  (rng (s5.2-x1)).bind fun v6=>
  (rng (v6-1)).bind fun v7=>
  (ixO v5 v7).bind fun v8=>
  (g_a x0 v4 s6.1 v8).bind fun r9=>
  (rng (s6.2+1)).bind fun v10=>
  aN (.inl (r9,v10))) (
  aN (.inr s6.1))
def zNs(g_a:SPr→Int→aT→aT→Option aT)(x0:SPr)(x1:Int)(x2:aT)(s5:(aT)×Int):Option ((aT×Int)⊕aT):=
 cond (decide (s5.2<(x0.zA.length:Int))) (
  (zG (zNr g_a x0 x1 x2 s5) (s5.1,0)).bind fun r11=>
  (rng (s5.2+1)).bind fun v12=>
  aN (.inl (r11,v12))) (
  aN (.inr s5.1))
def b_d(g_a:SPr→Int→aT→aT→Option aT)(x0:SPr)(x1:Int)(x2:aT):Option aT:=
 (yT (x0.zA.length:Int)).bind fun m1=>
 (rng (x1+1)).bind fun v2=>
 (zG (zNs g_a x0 x1 x2) (J1 m1 (0:Int),v2)).bind fun r13=>
 aN r13
def zPy(g_d:SPr→Int→aT→Option aT)(x0:SPr)(x1:Int)(x3:aT)(s1:(aT)×Int):Option ((aT×Int)⊕aT):=
 (ixO x3 x1).bind fun v6=>
 cond (decide (s1.2<v6)) (
  (g_d x0 x1 s1.1).bind fun r7=>
  (rng (s1.2+1)).bind fun v8=>
  aN (.inl (r7,v8))) (
  aN (.inr s1.1))
def b_a(g_d:SPr→Int→aT→Option aT)(g_a:SPr→Int→aT→aT→Option aT)(x0:SPr)(x1:Int)(x2:aT)(x3:aT):Option aT:=
 cond (decide (x1≥(x0.zA.length:Int))) (
  (yT (x0.zA.length:Int)).bind fun m1=>
  aN (J1 m1 (0:Int))) (
  (f_X x2).bind fun r2=>
  (f_X x3).bind fun r3=>
  (ixO r2 x1).bind fun _=>
  (ixO r3 x1).bind fun _=>
  (zG (zPy g_d x0 x1 x3) (r2.set x1.toNat 0,0)).bind fun r9=>
  (rng (x1+1)).bind fun v10=>
  (g_a x0 v10 r9 (r3.set x1.toNat 0)).bind fun r11=>
  (ixO x2 x1).bind fun v12=>
  (ixO x3 x1).bind fun v13=>
  (rng (v12+v13)).bind fun v14=>
  (ixO x0.zA x1).bind fun v15=>
  cond (decide (v14≥v15)) (
   (ixO x0.zA x1).bind fun v16=>
   (rng (v14-v16)).bind fun v17=>
   (rng (x1+1)).bind fun v18=>
   (ixO x0.zW x1).bind fun v19=>
   (g_a x0 v18 v19 r11).bind fun r20=>
   (f_X r20).bind fun r21=>
   (ixO r21 x1).bind fun _=>
   aN (r21.set x1.toNat v17)) (
   (f_X r11).bind fun r23=>
   (ixO r23 x1).bind fun _=>
   aN (r23.set x1.toNat v14)))
mutual
def zJg:Nat→SPr→Int→aT→Option aT
 |0=>fun _ _ _=>aO
 |n+1=>b_d (zJh n)
def zJh:Nat→SPr→Int→aT→aT→Option aT
 |0=>fun _ _ _ _=>aO
 |n+1=>b_a (zJg n) (zJh n)
end
def f_d(x0:SPr)(x1:Int)(x2:aT):Option aT:=zBZ fun n=>zJg n x0 x1 x2
def f_a(x0:SPr)(x1:Int)(x2:aT)(x3:aT):Option aT:=zBZ fun n=>zJh n x0 x1 x2 x3
def zLf(x0:SPr)(x1:Int)(s1:Int×aT×aT):Option ((Int×aT×aT)⊕aT):=
 cond (decide (s1.1> 0)) (
  (vU s1.1 2).bind fun v2=>
  cond (v2==1) (
   (f_a x0 x1 s1.2.1 s1.2.2).bind fun r3=>
   (f_a x0 x1 s1.2.2 s1.2.2).bind fun r4=>
   (tQ s1.1 2).bind fun v5=>
   aN (.inl (v5,r3,r4))) (
   (f_a x0 x1 s1.2.2 s1.2.2).bind fun r6=>
   (tQ s1.1 2).bind fun v7=>
   aN (.inl (v7,s1.2.1,r6)))) (
  aN (.inr s1.2.1))
def f_H(x0:SPr)(x1:Int)(x2:aT)(x3:Int):Option aT:=
 (yT (x0.zA.length:Int)).bind fun m1=>
 (zG (zLf x0 x1) (x3,J1 m1 (0:Int),x2)).bind fun r8=>
 aN r8
def zTw(x0:aT)(x1:aT)(s1:Int):Option (Int⊕(Unit⊕Bool)):=
 cond (decide (s1<(x0.length:Int))) (
  (ixO x0 s1).bind fun v1=>
  (ixO x1 s1).bind fun v2=>
  cond (v1 != v2) (
   aN (.inr (.inr aQ))) (
   (rng (s1+1)).bind fun v3=>
   aN (.inl v3))) (
  aN (.inr (.inl ())))
def f_Z(x0:aT)(x1:aT):Option Bool:=
 cond ((x0.length:Int) != (x1.length:Int)) (
  aN aQ) (
  (zG (zTw x0 x1) 0).bind fun r4=>
  match r4 with
  |(.inl r4)=>
   aN aP
  |(.inr r4)=>
   aN r4)
def zRw(x0:Int)(x1:Int):Option aT:=
 (yT x0).bind fun m1=>
 (ixO (J1 m1 (0:Int)) x1).bind fun _=>
 aN ((J1 m1 (0:Int)).set x1.toNat 1)
def zNt(x0:SPr)(x1:Int)(s1:Int):Option (Int⊕(Unit⊕yH)):=
 cond (decide (s1<(x0.zA.length:Int))) (
  (rng (x1+1)).bind fun v2=>
  (ixO x0.zB x1).bind fun v3=>
  (rng (s1-x1)).bind fun v4=>
  (rng (v4-1)).bind fun v5=>
  (ixO v3 v5).bind fun v6=>
  (ixO x0.zA s1).bind fun v7=>
  (f_H x0 v2 v6 v7).bind fun r8=>
  (ixO x0.zW s1).bind fun v9=>
  (f_d x0 x1 v9).bind fun r10=>
  (f_Z r8 r10).bind fun r11=>
  cond (!r11) (
   aN (.inr (.inr (yH.mk 1 x1 s1 0)))) (
   (rng (s1+1)).bind fun v12=>
   aN (.inl v12))) (
  aN (.inr (.inl ())))
def zNu(x0:SPr)(x1:Int)(s7:Int)(s8:Int):Option (Int⊕(Unit⊕yH)):=
 cond (decide (s8<(x0.zA.length:Int))) (
  (ixO x0.zB x1).bind fun v16=>
  (rng (s7-x1)).bind fun v17=>
  (rng (v17-1)).bind fun v18=>
  (ixO v16 v18).bind fun v19=>
  (ixO x0.zB x1).bind fun v20=>
  (rng (s8-x1)).bind fun v21=>
  (rng (v21-1)).bind fun v22=>
  (ixO v20 v22).bind fun v23=>
  (ixO x0.zB s7).bind fun v24=>
  (rng (s8-s7)).bind fun v25=>
  (rng (v25-1)).bind fun v26=>
  (ixO v24 v26).bind fun v27=>
  (f_d x0 x1 v27).bind fun r28=>
  (rng (x1+1)).bind fun v29=>
  (f_a x0 v29 v23 v19).bind fun r30=>
  (rng (x1+1)).bind fun v31=>
  (f_a x0 v31 v19 r28).bind fun r32=>
  (f_Z r30 r32).bind fun r33=>
  cond (!r33) (
   aN (.inr (.inr (yH.mk 2 x1 s7 s8)))) (
   (rng (s8+1)).bind fun v34=>
   aN (.inl v34))) (
  aN (.inr (.inl ())))
def zNv(x0:SPr)(x1:Int)(s7:Int):Option (Int⊕(Unit⊕yH)):=
 cond (decide (s7<(x0.zA.length:Int))) (
  (rng (s7+1)).bind fun v15=>
  (zG (zNu x0 x1 s7) v15).bind fun r35=>
  match r35 with
  |(.inl r35)=>
   (rng (s7+1)).bind fun v36=>
   aN (.inl v36)
  |(.inr r35)=>
   aN (.inr (.inr r35))) (
  aN (.inr (.inl ())))
def zNw(x0:SPr)(x1:Int)(s16:(aT)×Int):Option ((aT×Int)⊕aT):=
 (ixO x0.zA x1).bind fun v43=>
 cond (decide (s16.2<v43)) (
  (f_d x0 x1 s16.1).bind fun r44=>
  (rng (s16.2+1)).bind fun v45=>
  aN (.inl (r44,v45))) (
  aN (.inr s16.1))
def zNx(x0:SPr)(x1:Int)(v38:aT)(s15:Int):Option (Int⊕(Unit⊕yH)):=
 cond (decide (s15<(x0.zA.length:Int))) (
  (zRw (x0.zA.length:Int) s15).bind fun r42=>
  (zG (zNw x0 x1) (r42,0)).bind fun r46=>
  (rng (x1+1)).bind fun v47=>
  (f_a x0 v47 v38 r46).bind fun r48=>
  (rng (x1+1)).bind fun v49=>
  (f_a x0 v49 r42 v38).bind fun r50=>
  (f_Z r48 r50).bind fun r51=>
  cond (!r51) (
   aN (.inr (.inr (yH.mk 4 x1 s15 0)))) (
   (rng (s15+1)).bind fun v52=>
   aN (.inl v52))) (
  aN (.inr (.inl ())))
def f_g(x0:SPr)(x1:Int):Option yH:=
 (rng (x1+1)).bind fun v1=>
 (zG (zNt x0 x1) v1).bind fun r13=>
 match r13 with
 |(.inl r13)=>
  (rng (x1+1)).bind fun v14=>
  (zG (zNv x0 x1) v14).bind fun r37=>
  match r37 with
  |(.inl r37)=>
   (ixO x0.zW x1).bind fun v38=>
   (f_d x0 x1 v38).bind fun r39=>
   (f_Z r39 v38).bind fun r40=>
   cond (!r40) (
    aN (yH.mk 3 x1 0 0)) (
    (rng (x1+1)).bind fun v41=>
    (zG (zNx x0 x1 v38) v41).bind fun r53=>
    match r53 with
    |(.inl r53)=>
     aN (yH.mk 0 0 0 0)
    |(.inr r53)=>
     aN r53)
  |(.inr r37)=>
   aN r37
 |(.inr r13)=>
  aN r13
def zIf(x0:SPr)(s1:Int):Option (Int⊕(Unit⊕yH)):=
 cond (decide (s1≥0)) (
  (f_g x0 s1).bind fun r2=>
  cond (r2.Kind != 0) (
   aN (.inr (.inr r2))) (
   (rng (s1-1)).bind fun v3=>
   aN (.inl v3))) (
  aN (.inr (.inl ())))
def zRx(x0:SPr):Option yH:=
 (rng ((x0.zA.length:Int)-1)).bind fun v1=>
 (zG (zIf x0) v1).bind fun r4=>
 match r4 with
 |(.inl r4)=>
  aN (yH.mk 0 0 0 0)
 |(.inr r4)=>
  aN r4
def zRy(x0:SPr):Option Bool:=
 (zRx x0).bind fun r1=>
 aN (r1.Kind==0)
def zPz(x0:SPr):Option Bool:=
 (f_k x0).bind fun r1=>
 cond r1 (
  (zRy x0).bind fun r2=>
  aN r2) (
  aN aQ)
def zKr(x0:Int)(x2:aT)(s1:Int):Option (Int⊕(Unit⊕Bool)):=
 cond (decide (s1<(x2.length:Int))) (
  (ixO x2 s1).bind fun v1=>
  (rng (x0-1)).bind fun v2=>
  (zNn v1 0 v2).bind fun r3=>
  cond (!r3) (
   aN (.inr (.inr aQ))) (
   (rng (s1+1)).bind fun v4=>
   aN (.inl v4))) (
  aN (.inr (.inl ())))
def zNy(x0:Int)(x1:Int)(x2:aT):Option Bool:=
 cond ((x2.length:Int) != x1) (
  aN aQ) (
  (zG (zKr x0 x2) 0).bind fun r5=>
  match r5 with
  |(.inl r5)=>
   aN aP
  |(.inr r5)=>
   aN r5)
def zKs(x0:Int)(x1:Int)(x2:aU)(s1:Int):Option (Int⊕(Unit⊕Bool)):=
 cond (decide (s1<(x2.length:Int))) (
  (ixO x2 s1).bind fun v1=>
  (zNy x0 x1 v1).bind fun r2=>
  cond (!r2) (
   aN (.inr (.inr aQ))) (
   (rng (s1+1)).bind fun v3=>
   aN (.inl v3))) (
  aN (.inr (.inl ())))
def zP0(x0:Int)(x1:Int)(x2:aU):Option Bool:=
 cond ((x2.length:Int) != x1) (
  aN aQ) (
  (zG (zKs x0 x1 x2) 0).bind fun r4=>
  match r4 with
  |(.inl r4)=>
   aN aP
  |(.inr r4)=>
   aN r4)
def zIg(x0:Int)(s1:(aU)×Int):Option ((aU×Int)⊕aU):=
 cond (decide (s1.2<x0)) (
  (yT x0).bind fun m1=>
  (ixO (J1 m1 (0:Int)) s1.2).bind fun _=>
  (xR s1.1 [(J1 m1 (0:Int)).set s1.2.toNat 1]).bind fun v3=>
  (rng (s1.2+1)).bind fun v4=>
  aN (.inl (v3,v4))) (
  aN (.inr s1.1))
def zNz(x0:Int):Option aU:=
 (zG (zIg x0) ([],0)).bind fun r5=>
 aN r5
def zN0(x0:Int)(x1:aT)(x2:aU)(s5:(aT)×Int)(s6:(aT)×Int):Option ((aT×Int)⊕aT):=
 cond (decide (s6.2<(s6.1.length:Int))) (
  (ixO x2 s5.2).bind fun v2=>
  cond (decide (s6.2<(v2.length:Int))) (
   (ixO s6.1 s6.2).bind fun v3=>
   (ixO x1 s5.2).bind fun v4=>
   (ixO x2 s5.2).bind fun v5=>
   (ixO v5 s6.2).bind fun v6=>
   (rng (v4*v6)).bind fun v7=>
   (rng (v3+v7)).bind fun v8=>
   (vU v8 x0).bind fun v9=>
   (ixO s6.1 s6.2).bind fun _=>
   (rng (s6.2+1)).bind fun v11=>
   aN (.inl (s6.1.set s6.2.toNat v9,v11))) (
   aN (.inr s6.1))) (
  aN (.inr s6.1))
def zN1(x0:Int)(x1:aT)(x2:aU)(s5:(aT)×Int):Option ((aT×Int)⊕aT):=
 cond (decide (s5.2<(x1.length:Int))) (
  cond (decide (s5.2<(x2.length:Int))) (
   (zG (zN0 x0 x1 x2 s5) (s5.1,0)).bind fun r12=>
   (rng (s5.2+1)).bind fun v13=>
   aN (.inl (r12,v13))) (
   aN (.inr s5.1))) (
  aN (.inr s5.1))
def f_B(x0:Int)(x1:aT)(x2:aU)(x3:Int):Option aT:=
 (yT x3).bind fun m1=>
 (zG (zN1 x0 x1 x2) (J1 m1 (0:Int),0)).bind fun r14=>
 aN r14
def zN2(x0:Int)(x1:aU)(x2:aU)(x3:Int)(s1:(aU)×Int):Option ((aU×Int)⊕aU):=
 cond (decide (s1.2<(x1.length:Int))) (
  (ixO x1 s1.2).bind fun v1=>
  (f_B x0 v1 x2 x3).bind fun r2=>
  (xR s1.1 [r2]).bind fun v3=>
  (rng (s1.2+1)).bind fun v4=>
  aN (.inl (v3,v4))) (
  aN (.inr s1.1))
def f_P(x0:Int)(x1:aU)(x2:aU)(x3:Int):Option aU:=
 (zG (zN2 x0 x1 x2 x3) ([],0)).bind fun r5=>
 aN r5
def zN3(x0:zD)(x1:aT)(s5:(aU)×Int)(s6:(aU)×Int):Option ((aU×Int)⊕aU):=
 (ixO x1 s5.2).bind fun v2=>
 cond (decide (s6.2<v2)) (
  (ixO x0.zL s5.2).bind fun v3=>
  (f_P x0.Prime s6.1 v3 x0.Dim).bind fun r4=>
  (rng (s6.2+1)).bind fun v5=>
  aN (.inl (r4,v5))) (
  aN (.inr s6.1))
def zN4(x0:zD)(x1:aT)(s5:(aU)×Int):Option ((aU×Int)⊕aU):=
 cond (decide (s5.2<(x1.length:Int))) (
  (zG (zN3 x0 x1 s5) (s5.1,0)).bind fun r6=>
  (rng (s5.2+1)).bind fun v7=>
  aN (.inl (r6,v7))) (
  aN (.inr s5.1))
def f_D(x0:zD)(x1:aT):Option aU:=
 (zNz x0.Dim).bind fun r1=>
 (zG (zN4 x0 x1) (r1,0)).bind fun r8=>
 aN r8
def zN5(x0:aU)(x1:aU)(s1:Int):Option (Int⊕(Unit⊕Bool)):=
 cond (decide (s1<(x0.length:Int))) (
  (ixO x0 s1).bind fun v1=>
  (ixO x1 s1).bind fun v2=>
  (f_Z v1 v2).bind fun r3=>
  cond (!r3) (
   aN (.inr (.inr aQ))) (
   (rng (s1+1)).bind fun v4=>
   aN (.inl v4))) (
  aN (.inr (.inl ())))
def zP1(x0:aU)(x1:aU):Option Bool:=
 cond ((x0.length:Int) != (x1.length:Int)) (
  aN aQ) (
  (zG (zN5 x0 x1) 0).bind fun r5=>
  match r5 with
  |(.inl r5)=>
   aN aP
  |(.inr r5)=>
   aN r5)
def zN6(x0:SPr)(x1:zD)(s1:Int):Option (Int⊕(Unit⊕Bool)):=
 cond (decide (s1<(x0.zA.length:Int))) (
  (ixO x1.zL s1).bind fun v3=>
  (zP0 x1.Prime x1.Dim v3).bind fun r4=>
  cond (!r4) (
   aN (.inr (.inr aQ))) (
   (rng (s1+1)).bind fun v5=>
   aN (.inl v5))) (
  aN (.inr (.inl ())))
def zN7(x0:SPr)(x1:zD)(s11:Int)(s12:(aU)×Int):Option ((aU×Int)⊕aU):=
 (ixO x0.zA s11).bind fun v8=>
 cond (decide (s12.2<v8)) (
  (ixO x1.zL s11).bind fun v9=>
  (f_P x1.Prime s12.1 v9 x1.Dim).bind fun r10=>
  (rng (s12.2+1)).bind fun v11=>
  aN (.inl (r10,v11))) (
  aN (.inr s12.1))
def zN8(x0:SPr)(x1:zD)(s11:Int)(s14:Int):Option (Int⊕(Unit⊕Bool)):=
 cond (decide (s14<(x0.zA.length:Int))) (
  (ixO x1.zL s14).bind fun v17=>
  (ixO x1.zL s11).bind fun v18=>
  (f_P x1.Prime v17 v18 x1.Dim).bind fun r19=>
  (ixO x1.zL s11).bind fun v20=>
  (ixO x0.zB s11).bind fun v21=>
  (rng (s14-s11)).bind fun v22=>
  (rng (v22-1)).bind fun v23=>
  (ixO v21 v23).bind fun v24=>
  (f_D x1 v24).bind fun r25=>
  (f_P x1.Prime v20 r25 x1.Dim).bind fun r26=>
  (zP1 r19 r26).bind fun r27=>
  cond (!r27) (
   aN (.inr (.inr aQ))) (
   (rng (s14+1)).bind fun v28=>
   aN (.inl v28))) (
  aN (.inr (.inl ())))
def zN9(x0:SPr)(x1:zD)(s11:Int):Option (Int⊕(Unit⊕Bool)):=
 cond (decide (s11<(x0.zA.length:Int))) (
  (zNz x1.Dim).bind fun r7=>
  (zG (zN7 x0 x1 s11) (r7,0)).bind fun r12=>
  (ixO x0.zW s11).bind fun v13=>
  (f_D x1 v13).bind fun r14=>
  (zP1 r12 r14).bind fun r15=>
  cond (!r15) (
   aN (.inr (.inr aQ))) (
   (rng (s11+1)).bind fun v16=>
   (zG (zN8 x0 x1 s11) v16).bind fun r29=>
   match r29 with
   |(.inl r29)=>
    (rng (s11+1)).bind fun v30=>
    aN (.inl v30)
   |(.inr r29)=>
    aN (.inr (.inr r29)))) (
  aN (.inr (.inl ())))
def f_h(x0:SPr)(x1:zD):Option Bool:=
 (zPw x1.Prime).bind fun r1=>
 cond (!r1) (
  aN aQ) (
  (zNn x1.Dim 1 3).bind fun r2=>
  cond (!r2) (
   aN aQ) (
   cond ((x1.zL.length:Int) != (x0.zA.length:Int)) (
    aN aQ) (
    (zG (zN6 x0 x1) 0).bind fun r6=>
    match r6 with
    |(.inl r6)=>
     (zG (zN9 x0 x1) 0).bind fun r31=>
     match r31 with
     |(.inl r31)=>
      aN aP
     |(.inr r31)=>
      aN r31
    |(.inr r6)=>
     aN r6)))
def zP2(x0:SPr)(x1:zD):Option Bool:=
 (zPz x0).bind fun r1=>
 cond r1 (
  (f_h x0 x1).bind fun r2=>
  aN r2) (
  aN aQ)
def zLg(x0:Int):Option Bool:=
 cond (x0==2) (
  aN aP) (
  cond (x0==3) (
   aN aP) (
   cond (x0==5) (
    aN aP) (
    aN (x0==7))))
def zJi(x0:Int)(x1:Int)(x2:Int):Option Bool:=
 cond (decide (x0≥x1)) (
  aN (decide (x0≤x2))) (
  aN aQ)
def zKt(x0:SPr)(x1:aT)(s1:Int):Option (Int⊕(Unit⊕Bool)):=
 cond (decide (s1<(x1.length:Int))) (
  (ixO x1 s1).bind fun v1=>
  (ixO x0.zA s1).bind fun v2=>
  (rng (v2-1)).bind fun v3=>
  (zJi v1 0 v3).bind fun r4=>
  cond (!r4) (
   aN (.inr (.inr aQ))) (
   (rng (s1+1)).bind fun v5=>
   aN (.inl v5))) (
  aN (.inr (.inl ())))
def zP3(x0:SPr)(x1:aT):Option Bool:=
 cond ((x1.length:Int) != (x0.zA.length:Int)) (
  aN aQ) (
  (zG (zKt x0 x1) 0).bind fun r6=>
  match r6 with
  |(.inl r6)=>
   aN aP
  |(.inr r6)=>
   aN r6)
def zLh(x0:aT)(s1:Int):Option (Int⊕(Unit⊕Bool)):=
 cond (decide (s1<(x0.length:Int))) (
  (ixO x0 s1).bind fun v1=>
  cond (v1 != 0) (
   aN (.inr (.inr aQ))) (
   (rng (s1+1)).bind fun v2=>
   aN (.inl v2))) (
  aN (.inr (.inl ())))
def f_A(x0:aT):Option Bool:=
 (zG (zLh x0) 0).bind fun r3=>
 match r3 with
 |(.inl r3)=>
  aN aP
 |(.inr r3)=>
  aN r3
def zNA(x0:SPr)(x1:Int)(x2:aT):Option Bool:=
 (zP3 x0 x2).bind fun r1=>
 cond r1 (
  (rng (x1+1)).bind fun v2=>
  (yF x2 0 v2).bind fun v3=>
  (f_A v3).bind fun r4=>
  aN r4) (
  aN aQ)
def zJj(x0:SPr)(s1:Int×Int):Option ((Int×Int)⊕(Unit⊕Bool)):=
 cond (decide (s1.2<(x0.zA.length:Int))) (
  (ixO x0.zA s1.2).bind fun v1=>
  (zLg v1).bind fun r2=>
  cond (!r2) (
   aN (.inr (.inr aQ))) (
   (rng (s1.1*v1)).bind fun v3=>
   cond (decide (v3> 729)) (
    aN (.inr (.inr aQ))) (
    (rng (s1.1*v1)).bind fun v4=>
    (rng (s1.2+1)).bind fun v5=>
    aN (.inl (v4,v5))))) (
  aN (.inr (.inl ())))
def zNB(x0:SPr)(s7:Int)(v12:aU)(s8:Int):Option (Int⊕(Unit⊕Bool)):=
 cond (decide (s8<(v12.length:Int))) (
  (ixO v12 s8).bind fun v13=>
  (zNA x0 s7 v13).bind fun r14=>
  cond (!r14) (
   aN (.inr (.inr aQ))) (
   (rng (s8+1)).bind fun v15=>
   aN (.inl v15))) (
  aN (.inr (.inl ())))
def zJk(x0:SPr)(s7:Int):Option (Int⊕(Unit⊕Bool)):=
 cond (decide (s7<(x0.zA.length:Int))) (
  (ixO x0.zW s7).bind fun v7=>
  (zNA x0 s7 v7).bind fun r8=>
  cond (!r8) (
   aN (.inr (.inr aQ))) (
   (ixO x0.zB s7).bind fun v9=>
   (rng ((x0.zA.length:Int)-1)).bind fun v10=>
   (rng (v10-s7)).bind fun v11=>
   cond ((v9.length:Int) != v11) (
    aN (.inr (.inr aQ))) (
    (ixO x0.zB s7).bind fun v12=>
    (zG (zNB x0 s7 v12) 0).bind fun r16=>
    match r16 with
    |(.inl r16)=>
     (rng (s7+1)).bind fun v17=>
     aN (.inl v17)
    |(.inr r16)=>
     aN (.inr (.inr r16))))) (
  aN (.inr (.inl ())))
def f_i(x0:SPr):Option Bool:=
 cond (decide ((x0.zA.length:Int)> 6)) (
  aN aQ) (
  cond ((x0.zW.length:Int) != (x0.zA.length:Int)) (
   aN aQ) (
   cond ((x0.zB.length:Int) != (x0.zA.length:Int)) (
    aN aQ) (
    (zG (zJj x0) (1,0)).bind fun r6=>
    match r6 with
    |(.inl r6)=>
     (zG (zJk x0) 0).bind fun r18=>
     match r18 with
     |(.inl r18)=>
      aN aP
     |(.inr r18)=>
      aN r18
    |(.inr r6)=>
     aN r6)))
def f_G(x0:aT):Option aT:=
 (xR [] x0).bind fun v2=>
 aN v2
def zNC(x2:Int)(r3:(aT))(s1:(aT)×Int):Option ((aT×Int)⊕aT):=
 cond (decide (s1.2<(r3.length:Int))) (
  (rng (x2+1)).bind fun v4=>
  (rng (v4+s1.2)).bind fun v5=>
  (ixO s1.1 v5).bind fun _=>
  (rng (s1.2+1)).bind fun v7=>
  aN (.inl (s1.1.set v5.toNat 0,v7))) (
  aN (.inr s1.1))
def zRz(g_b:SPr→aT→aT→Option aT)(x0:SPr)(x2:Int)(s7:(aT)×Int)(v17:Int)(s8:(aT)×Int):Option ((aT×Int)⊕aT):=
 cond (decide (s8.2<v17)) (
  (ixO x0.zB x2).bind fun v18=>
  (ixO v18 s7.2).bind fun v19=>
  (g_b x0 s8.1 v19).bind fun r20=>
  (rng (s8.2+1)).bind fun v21=>
  aN (.inl (r20,v21))) (
  aN (.inr s8.1))
def zR0(g_b:SPr→aT→aT→Option aT)(x0:SPr)(x2:Int)(r3:(aT))(s7:(aT)×Int):Option ((aT×Int)⊕aT):=
 cond (decide (s7.2<(r3.length:Int))) (
  (ixO r3 s7.2).bind fun v17=>
  (zG (zRz g_b x0 x2 s7 v17) (s7.1,0)).bind fun r22=>
  (rng (s7.2+1)).bind fun v23=>
  aN (.inl (r22,v23))) (
  aN (.inr s7.1))
def zR1(g_b:SPr→aT→aT→Option aT)(x0:SPr)(x2:Int)(s15:(aT)×Int)(v25:Int)(s16:(aT)×Int):Option ((aT×Int)⊕aT):=
 cond (decide (s16.2<v25)) (
  (ixO x0.zB x2).bind fun v26=>
  (ixO v26 s15.2).bind fun v27=>
  (g_b x0 s16.1 v27).bind fun r28=>
  (rng (s16.2+1)).bind fun v29=>
  aN (.inl (r28,v29))) (
  aN (.inr s16.1))
def zR2(g_b:SPr→aT→aT→Option aT)(x0:SPr)(x2:Int)(r3:(aT))(s15:(aT)×Int):Option ((aT×Int)⊕aT):=
 cond (decide (s15.2<(r3.length:Int))) (
  (ixO r3 s15.2).bind fun v25=>
  (zG (zR1 g_b x0 x2 s15 v25) (s15.1,0)).bind fun r30=>
  (rng (s15.2+1)).bind fun v31=>
  aN (.inl (r30,v31))) (
  aN (.inr s15.1))
def b_c(g_b:SPr→aT→aT→Option aT)(x0:SPr)(x1:aT)(x2:Int):Option aT:=
 (rng (x2+1)).bind fun v1=>
 (yF x1 v1 x1.length).bind fun v2=>
 (f_G v2).bind fun r3=>
 (zG (zNC x2 r3) (x1,0)).bind fun r8=>
 (ixO r8 x2).bind fun v9=>
 (rng (v9+1)).bind fun v10=>
 (ixO r8 x2).bind fun _=>
 (ixO (r8.set x2.toNat v10) x2).bind fun v12=>
 (ixO x0.zA x2).bind fun v13=>
 cond (v12==v13) (
  (ixO (r8.set x2.toNat v10) x2).bind fun _=>
  (ixO x0.zW x2).bind fun v15=>
  (g_b x0 ((r8.set x2.toNat v10).set x2.toNat 0) v15).bind fun r16=>
  (zG (zR0 g_b x0 x2 r3) (r16,0)).bind fun r24=>
  aN r24) (
  (zG (zR2 g_b x0 x2 r3) (r8.set x2.toNat v10,0)).bind fun r32=>
  aN r32)
def zND(g_c:SPr→aT→Int→Option aT)(x0:SPr)(s5:(aT)×Int)(v1:Int)(s6:(aT)×Int):Option ((aT×Int)⊕aT):=
 cond (decide (s6.2<v1)) (
  (g_c x0 s6.1 s5.2).bind fun r2=>
  (rng (s6.2+1)).bind fun v3=>
  aN (.inl (r2,v3))) (
  aN (.inr s6.1))
def zNE(g_c:SPr→aT→Int→Option aT)(x0:SPr)(x2:aT)(s5:(aT)×Int):Option ((aT×Int)⊕aT):=
 cond (decide (s5.2<(x2.length:Int))) (
  (ixO x2 s5.2).bind fun v1=>
  (zG (zND g_c x0 s5 v1) (s5.1,0)).bind fun r4=>
  (rng (s5.2+1)).bind fun v5=>
  aN (.inl (r4,v5))) (
  aN (.inr s5.1))
def b_b(g_c:SPr→aT→Int→Option aT)(x0:SPr)(x1:aT)(x2:aT):Option aT:=
 (zG (zNE g_c x0 x2) (x1,0)).bind fun r6=>
 aN r6
mutual
def zNF:Nat→SPr→aT→Int→Option aT
 |0=>fun _ _ _=>aO
 |n+1=>b_c (zLi n)
def zLi:Nat→SPr→aT→aT→Option aT
 |0=>fun _ _ _=>aO
 |n+1=>b_b (zNF n)
end
def f_c(x0:SPr)(x1:aT)(x2:Int):Option aT:=zBZ fun n=>zNF n x0 x1 x2
def f_b(x0:SPr)(x1:aT)(x2:aT):Option aT:=zBZ fun n=>zLi n x0 x1 x2
def zNG(x0:SPr)(x1:aT)(x2:Int)(s1:(aT)×Int):Option ((aT×Int)⊕aT):=
 cond (decide (s1.2<x2)) (
  (f_b x0 s1.1 x1).bind fun r2=>
  (rng (s1.2+1)).bind fun v3=>
  aN (.inl (r2,v3))) (
  aN (.inr s1.1))
def f_r(x0:SPr)(x1:aT)(x2:Int):Option aT:=
 (yT (x1.length:Int)).bind fun m1=>
 (zG (zNG x0 x1 x2) (J1 m1 (0:Int),0)).bind fun r4=>
 aN r4
def zNH(x0:SPr)(v3:aT)(v6:Int)(s6:(aT)×Int):Option ((aT×Int)⊕aT):=
 cond (decide (s6.2<v6)) (
  (f_b x0 s6.1 v3).bind fun r7=>
  (rng (s6.2+1)).bind fun v8=>
  aN (.inl (r7,v8))) (
  aN (.inr s6.1))
def zNI(x0:SPr)(x1:Int)(x2:aT)(v2:aU)(s5:(aT)×Int):Option ((aT×Int)⊕aT):=
 cond (decide (s5.2<(v2.length:Int))) (
  (ixO v2 s5.2).bind fun v3=>
  (rng (x1+1)).bind fun v4=>
  (rng (v4+s5.2)).bind fun v5=>
  (ixO x2 v5).bind fun v6=>
  (zG (zNH x0 v3 v6) (s5.1,0)).bind fun r9=>
  (rng (s5.2+1)).bind fun v10=>
  aN (.inl (r9,v10))) (
  aN (.inr s5.1))
def f_t(x0:SPr)(x1:Int)(x2:aT):Option aT:=
 (yT (x2.length:Int)).bind fun m1=>
 (ixO x0.zB x1).bind fun v2=>
 (zG (zNI x0 x1 x2 v2) (J1 m1 (0:Int),0)).bind fun r11=>
 aN r11
def zR3(x0:aT)(x1:aT)(s1:Int):Option (Int⊕(Unit⊕Bool)):=
 cond (decide (s1<(x0.length:Int))) (
  (ixO x0 s1).bind fun v1=>
  (ixO x1 s1).bind fun v2=>
  cond (v1 != v2) (
   aN (.inr (.inr aQ))) (
   (rng (s1+1)).bind fun v3=>
   aN (.inl v3))) (
  aN (.inr (.inl ())))
def f_O(x0:aT)(x1:aT):Option Bool:=
 cond ((x0.length:Int) != (x1.length:Int)) (
  aN aQ) (
  (zG (zR3 x0 x1) 0).bind fun r4=>
  match r4 with
  |(.inl r4)=>
   aN aP
  |(.inr r4)=>
   aN r4)
def zLj(x0:SPr)(s5:(aT)×aT×Int)(s6:(aT)×aT):Option ((aT×aT)⊕(aT×aT)):=
 (ixO s6.1 s5.2.2).bind fun v3=>
 cond (v3 != 0) (
  (f_c x0 s6.1 s5.2.2).bind fun r4=>
  (f_c x0 s6.2 s5.2.2).bind fun r5=>
  aN (.inl (r4,r5))) (
  aN (.inr (s6.1,s6.2)))
def zNJ(x0:SPr)(r1:(aT))(s5:(aT)×aT×Int):Option ((aT×aT×Int)⊕aT):=
 cond (decide (s5.2.2<(r1.length:Int))) (
  (zG (zLj x0 s5) (s5.1,s5.2.1)).bind fun r6=>
  (rng (s5.2.2+1)).bind fun v7=>
  aN (.inl (r6.1,r6.2,v7))) (
  aN (.inr s5.2.1))
def f_s(x0:SPr)(x1:aT):Option aT:=
 (f_G x1).bind fun r1=>
 (yT (x1.length:Int)).bind fun m2=>
 (zG (zNJ x0 r1) (r1,J1 m2 (0:Int),0)).bind fun r8=>
 aN r8
def f_Y(x0:SPr)(x1:aT)(x2:aT):Option aT:=
 (f_G x1).bind fun r1=>
 (f_b x0 r1 x2).bind fun r2=>
 aN r2
def zLk(x0:SPr)(x1:aT)(x2:aT):Option aT:=
 (f_s x0 x2).bind fun r1=>
 (f_Y x0 x1 x2).bind fun r2=>
 (f_Y x0 r1 r2).bind fun r3=>
 aN r3
def zNK(x0:Int)(x1:Int):Option aT:=
 (yT x0).bind fun m1=>
 (ixO (J1 m1 (0:Int)) x1).bind fun _=>
 aN ((J1 m1 (0:Int)).set x1.toNat 1)
def zNL(x0:SPr)(x1:Int)(s1:Int):Option (Int⊕(Unit⊕yH)):=
 cond (decide (s1<(x0.zA.length:Int))) (
  (ixO x0.zB x1).bind fun v2=>
  (rng (s1-x1)).bind fun v3=>
  (rng (v3-1)).bind fun v4=>
  (ixO v2 v4).bind fun v5=>
  (ixO x0.zA s1).bind fun v6=>
  (f_r x0 v5 v6).bind fun r7=>
  (ixO x0.zW s1).bind fun v8=>
  (f_t x0 x1 v8).bind fun r9=>
  (f_O r7 r9).bind fun r10=>
  cond (!r10) (
   aN (.inr (.inr (yH.mk 1 x1 s1 0)))) (
   (rng (s1+1)).bind fun v11=>
   aN (.inl v11))) (
  aN (.inr (.inl ())))
def zNM(x0:SPr)(x1:Int)(s7:Int)(s8:Int):Option (Int⊕(Unit⊕yH)):=
 cond (decide (s8<(x0.zA.length:Int))) (
  (ixO x0.zB x1).bind fun v15=>
  (rng (s8-x1)).bind fun v16=>
  (rng (v16-1)).bind fun v17=>
  (ixO v15 v17).bind fun v18=>
  (ixO x0.zB x1).bind fun v19=>
  (rng (s7-x1)).bind fun v20=>
  (rng (v20-1)).bind fun v21=>
  (ixO v19 v21).bind fun v22=>
  (zLk x0 v18 v22).bind fun r23=>
  (ixO x0.zB s7).bind fun v24=>
  (rng (s8-s7)).bind fun v25=>
  (rng (v25-1)).bind fun v26=>
  (ixO v24 v26).bind fun v27=>
  (f_t x0 x1 v27).bind fun r28=>
  (f_O r23 r28).bind fun r29=>
  cond (!r29) (
   aN (.inr (.inr (yH.mk 2 x1 s7 s8)))) (
   (rng (s8+1)).bind fun v30=>
   aN (.inl v30))) (
  aN (.inr (.inl ())))
def zNN(x0:SPr)(x1:Int)(s7:Int):Option (Int⊕(Unit⊕yH)):=
 cond (decide (s7<(x0.zA.length:Int))) (
  (rng (s7+1)).bind fun v14=>
  (zG (zNM x0 x1 s7) v14).bind fun r31=>
  match r31 with
  |(.inl r31)=>
   (rng (s7+1)).bind fun v32=>
   aN (.inl v32)
  |(.inr r31)=>
   aN (.inr (.inr r31))) (
  aN (.inr (.inl ())))
def zNO(x0:SPr)(x1:Int)(v39:Int)(s16:(aT)×Int):Option ((aT×Int)⊕aT):=
 cond (decide (s16.2<v39)) (
  (f_t x0 x1 s16.1).bind fun r40=>
  (rng (s16.2+1)).bind fun v41=>
  aN (.inl (r40,v41))) (
  aN (.inr s16.1))
def zNP(x0:SPr)(x1:Int)(v34:aT)(s15:Int):Option (Int⊕(Unit⊕yH)):=
 cond (decide (s15<(x0.zA.length:Int))) (
  (zNK (x0.zA.length:Int) s15).bind fun r38=>
  (ixO x0.zA x1).bind fun v39=>
  (zG (zNO x0 x1 v39) (r38,0)).bind fun r42=>
  (zNK (x0.zA.length:Int) s15).bind fun r43=>
  (zLk x0 r43 v34).bind fun r44=>
  (f_O r42 r44).bind fun r45=>
  cond (!r45) (
   aN (.inr (.inr (yH.mk 4 x1 s15 0)))) (
   (rng (s15+1)).bind fun v46=>
   aN (.inl v46))) (
  aN (.inr (.inl ())))
def f_f(x0:SPr)(x1:Int):Option yH:=
 (rng (x1+1)).bind fun v1=>
 (zG (zNL x0 x1) v1).bind fun r12=>
 match r12 with
 |(.inl r12)=>
  (rng (x1+1)).bind fun v13=>
  (zG (zNN x0 x1) v13).bind fun r33=>
  match r33 with
  |(.inl r33)=>
   (ixO x0.zW x1).bind fun v34=>
   (f_t x0 x1 v34).bind fun r35=>
   (f_O r35 v34).bind fun r36=>
   cond (!r36) (
    aN (yH.mk 3 x1 0 0)) (
    (rng (x1+1)).bind fun v37=>
    (zG (zNP x0 x1 v34) v37).bind fun r47=>
    match r47 with
    |(.inl r47)=>
     aN (yH.mk 0 0 0 0)
    |(.inr r47)=>
     aN r47)
  |(.inr r33)=>
   aN r33
 |(.inr r12)=>
  aN r12
def zIh(x0:SPr)(s1:Int):Option (Int⊕Int):=
 cond (decide (s1> 0)) (
  (rng (s1-1)).bind fun v1=>
  (f_f x0 v1).bind fun r2=>
  cond (r2.Kind==0&&(r2.zQ6==0&&(r2.zQ7==0&&r2.zO9==0))) (
   (rng (s1-1)).bind fun v3=>
   aN (.inl v3)) (
   aN (.inr s1))) (
  aN (.inr s1))
def zR4(x0:SPr):Option Int:=
 (zG (zIh x0) (x0.zA.length:Int)).bind fun r4=>
 aN r4
def zP4(x0:SPr):Option Bool:=
 (f_i x0).bind fun r1=>
 cond r1 (
  (zR4 x0).bind fun r2=>
  aN (r2==0)) (
  aN aQ)
def zJl(x0:zD)(x1:Int):Option zZ:=
 (ixO x0.zL x1).bind fun v1=>
 aN (zZ.mk x0.Prime x0.Dim v1)
def zKu(x0:aT)(x1:Int)(s1:Int):Option (Int⊕(Unit⊕Bool)):=
 cond (decide (s1<(x0.length:Int))) (
  (ixO x0 s1).bind fun v1=>
  (rng (x1-1)).bind fun v2=>
  (zJi v1 0 v2).bind fun r3=>
  cond (!r3) (
   aN (.inr (.inr aQ))) (
   (rng (s1+1)).bind fun v4=>
   aN (.inl v4))) (
  aN (.inr (.inl ())))
def zNQ(x0:aT)(x1:Int)(x2:Int):Option Bool:=
 cond ((x0.length:Int) != x2) (
  aN aQ) (
  (zG (zKu x0 x1) 0).bind fun r5=>
  match r5 with
  |(.inl r5)=>
   aN aP
  |(.inr r5)=>
   aN r5)
def zIi(x0:zZ)(s1:Int):Option (Int⊕(Unit⊕Bool)):=
 cond (decide (s1<(x0.Rows.length:Int))) (
  (ixO x0.Rows s1).bind fun v3=>
  (zNQ v3 x0.Prime x0.tC).bind fun r4=>
  cond (!r4) (
   aN (.inr (.inr aQ))) (
   (rng (s1+1)).bind fun v5=>
   aN (.inl v5))) (
  aN (.inr (.inl ())))
def zP5(x0:zZ):Option Bool:=
 (zLg x0.Prime).bind fun r1=>
 cond (!r1) (
  aN aQ) (
  (zJi x0.tC 0 8).bind fun r2=>
  cond (!r2) (
   aN aQ) (
   cond (decide ((x0.Rows.length:Int)> 8)) (
    aN aQ) (
    (zG (zIi x0) 0).bind fun r6=>
    match r6 with
    |(.inl r6)=>
     aN aP
    |(.inr r6)=>
     aN r6)))
def zTx(x0:Int)(x1:Int):Option (Int×Int):=
 aN ((IntKind.wrap .u64 ((IntKind.wrap .u64 ((IntKind.wrap .u64 ((Lq x0 (2 ^ (min (32:Int).toNat (IntKind.bits .u64))))*(Lq x1 (2 ^ (min (32:Int).toNat (IntKind.bits .u64))))))+(Lq (IntKind.wrap .u64 ((IntKind.wrap .u64 ((Lq x0 (2 ^ (min (32:Int).toNat (IntKind.bits .u64))))*(zDu .u64 x1 4294967295)))+(Lq (IntKind.wrap .u64 ((zDu .u64 x0 4294967295)*(zDu .u64 x1 4294967295))) (2 ^ (min (32:Int).toNat (IntKind.bits .u64)))))) (2 ^ (min (32:Int).toNat (IntKind.bits .u64))))))+(Lq (IntKind.wrap .u64 ((zDu .u64 (IntKind.wrap .u64 ((IntKind.wrap .u64 ((Lq x0 (2 ^ (min (32:Int).toNat (IntKind.bits .u64))))*(zDu .u64 x1 4294967295)))+(Lq (IntKind.wrap .u64 ((zDu .u64 x0 4294967295)*(zDu .u64 x1 4294967295))) (2 ^ (min (32:Int).toNat (IntKind.bits .u64)))))) 4294967295)+(IntKind.wrap .u64 ((zDu .u64 x0 4294967295)*(Lq x1 (2 ^ (min (32:Int).toNat (IntKind.bits .u64)))))))) (2 ^ (min (32:Int).toNat (IntKind.bits .u64)))))),(IntKind.wrap .u64 (x0*x1)))
def zP6(x0:Int)(x1:Int):Option (Int×Int):=
 (zTx x0 x1).bind fun r1=>
 aN (r1.1,r1.2)
def zIj(s1:(aT)×Int):Option ((aT×Int)⊕aT):=
 cond (decide (s1.2<(s1.1.length:Int))) (
  (yF s1.1 s1.2 s1.1.length).bind fun _=>
  (yF s1.1 0 s1.2).bind fun v4=>
  (rng (s1.2+((min v4.length (((s1.1.length:Int).toNat)-((s1.2:Int).toNat)):Nat):Int))).bind fun v5=>
  aN (.inl (vV s1.1 ((s1.2:Int).toNat) (v4.take (((s1.1.length:Int).toNat)-((s1.2:Int).toNat))),v5))) (
  aN (.inr s1.1))
def f_E(x0:aT)(x1:Int):Option aT:=
 cond (decide (x1<0)) (
  aO) (
  (zP6 (IntKind.wrap .u64 (x0.length:Int)) (IntKind.wrap .u64 x1)).bind fun r1=>
  cond (decide (r1.1> 0)) (
   aO) (
   cond (decide (r1.2> 9223372036854775807)) (
    aO) (
    (yT (IntKind.wrap .i64 r1.2)).bind fun m2=>
    (zG zIj (vV (J1 m2 (0:Int)) 0 (x0.take (((J1 m2 (0:Int)).length)-0)),((min x0.length (((J1 m2 (0:Int)).length)-0):Nat):Int))).bind fun r6=>
    aN r6)))
def zNR(s5:(aT)×Int)(v1:Int)(s6:(aT)×Int):Option ((aT×Int)⊕aT):=
 cond (decide (s6.2<v1)) (
  (rng (s5.2+1)).bind fun v2=>
  (xR s6.1 [v2]).bind fun v3=>
  (rng (s6.2+1)).bind fun v4=>
  aN (.inl (v3,v4))) (
  aN (.inr s6.1))
def zNS(x0:aT)(s5:(aT)×Int):Option ((aT×Int)⊕aT):=
 cond (decide (s5.2<(x0.length:Int))) (
  (ixO x0 s5.2).bind fun v1=>
  (zG (zNR s5 v1) (s5.1,0)).bind fun r5=>
  (rng (s5.2+1)).bind fun v6=>
  aN (.inl (r5,v6))) (
  aN (.inr s5.1))
def f_u(x0:aT):Option aT:=
 (zG (zNS x0) ([],0)).bind fun r7=>
 aN r7
def zNT(x0:SPr)(s1:(List (aT×aT))×Int):Option (((List (aT×aT))×Int)⊕(List (aT×aT))):=
 cond (decide (s1.2<(x0.zA.length:Int))) (
  (ixO x0.zA s1.2).bind fun v1=>
  (rng (s1.2+1)).bind fun v2=>
  (f_E [v2] v1).bind fun r3=>
  (ixO x0.zW s1.2).bind fun v4=>
  (f_u v4).bind fun r5=>
  (xR s1.1 [(r3,r5)]).bind fun v6=>
  (rng (s1.2+1)).bind fun v7=>
  aN (.inl (v6,v7))) (
  aN (.inr s1.1))
def zNU(s7:(List (aT×aT))×Int)(v9:aU)(s8:(List (aT×aT))×Int):Option (((List (aT×aT))×Int)⊕(List (aT×aT))):=
 cond (decide (s8.2<(v9.length:Int))) (
  (ixO v9 s8.2).bind fun v10=>
  (rng (s7.2+1)).bind fun v11=>
  (rng (s7.2+s8.2)).bind fun v12=>
  (rng (v12+2)).bind fun v13=>
  (f_u v10).bind fun r14=>
  (xR [v11] r14).bind fun v15=>
  (xR s8.1 [([v13,v11],v15)]).bind fun v16=>
  (rng (s8.2+1)).bind fun v17=>
  aN (.inl (v16,v17))) (
  aN (.inr s8.1))
def zNV(x0:SPr)(s7:(List (aT×aT))×Int):Option (((List (aT×aT))×Int)⊕(List (aT×aT))):=
 cond (decide (s7.2<(x0.zA.length:Int))) (
  (ixO x0.zB s7.2).bind fun v9=>
  (zG (zNU s7 v9) (s7.1,0)).bind fun r18=>
  (rng (s7.2+1)).bind fun v19=>
  aN (.inl (r18,v19))) (
  aN (.inr s7.1))
def f_l(x0:SPr):Option (List (aT×aT)):=
 (zG (zNT x0) ([],0)).bind fun r8=>
 (zG (zNV x0) (r8,0)).bind fun r20=>
 aN r20
def zFS(x1:Int)(s1:(aU)×Int):Option ((aU×Int)⊕aU):=
 cond (decide (s1.2<x1)) (
  (yT x1).bind fun m1=>
  (ixO (J1 m1 (0:Int)) s1.2).bind fun _=>
  (xR s1.1 [(J1 m1 (0:Int)).set s1.2.toNat 1]).bind fun v3=>
  (rng (s1.2+1)).bind fun v4=>
  aN (.inl (v3,v4))) (
  aN (.inr s1.1))
def zP7(x0:Int)(x1:Int):Option zZ:=
 (zG (zFS x1) ([],0)).bind fun r5=>
 aN (zZ.mk x0 x1 r5)
def zGH(x0:Int)(x1:Int):Option Int:=
 (vU x0 x1).bind fun v1=>
 (rng (v1+x1)).bind fun v2=>
 (vU v2 x1).bind fun v3=>
 aN v3
def zIk(x0:aT)(x1:aT)(x2:Int)(x3:Int)(s1:(aT)×Int):Option ((aT×Int)⊕aT):=
 cond (decide (s1.2<(x0.length:Int))) (
  (ixO s1.1 s1.2).bind fun v1=>
  (ixO x1 s1.2).bind fun v2=>
  (rng (x2*v2)).bind fun v3=>
  (rng (v1+v3)).bind fun v4=>
  (zGH v4 x3).bind fun r5=>
  (ixO s1.1 s1.2).bind fun _=>
  (rng (s1.2+1)).bind fun v7=>
  aN (.inl (s1.1.set s1.2.toNat r5,v7))) (
  aN (.inr s1.1))
def f_C(x0:aT)(x1:aT)(x2:Int)(x3:Int):Option aT:=
 (zG (zIk x0 x1 x2 x3) (x0,0)).bind fun r8=>
 aN r8
def zIl(x0:aT)(x1:zZ)(s1:(aT)×Int):Option ((aT×Int)⊕aT):=
 cond (decide (s1.2<(x0.length:Int))) (
  (ixO x0 s1.2).bind fun v2=>
  (ixO x1.Rows s1.2).bind fun v3=>
  (f_C s1.1 v3 v2 x1.Prime).bind fun r4=>
  (rng (s1.2+1)).bind fun v5=>
  aN (.inl (r4,v5))) (
  aN (.inr s1.1))
def zNW(x0:aT)(x1:zZ):Option aT:=
 (yT x1.tC).bind fun m1=>
 (zG (zIl x0 x1) (J1 m1 (0:Int),0)).bind fun r6=>
 aN r6
def zIm(x0:zZ)(x1:zZ)(s1:(aU)×Int):Option ((aU×Int)⊕aU):=
 cond (decide (s1.2<(x0.Rows.length:Int))) (
  (ixO x0.Rows s1.2).bind fun v1=>
  (zNW v1 x1).bind fun r2=>
  (xR s1.1 [r2]).bind fun v3=>
  (rng (s1.2+1)).bind fun v4=>
  aN (.inl (v3,v4))) (
  aN (.inr s1.1))
def zP8(x0:zZ)(x1:zZ):Option zZ:=
 (zG (zIm x0 x1) ([],0)).bind fun r5=>
 aN (zZ.mk x0.Prime x1.tC r5)
def zNX(x0:zD)(x1:aT)(s1:Int×Int×aU×Int):Option ((Int×Int×aU×Int)⊕(Int×Int×aU)):=
 cond (decide (s1.2.2.2<(x1.length:Int))) (
  (ixO x1 s1.2.2.2).bind fun v2=>
  (rng (v2-1)).bind fun v3=>
  (zJl x0 v3).bind fun r4=>
  (zP8 (zZ.mk s1.1 s1.2.1 s1.2.2.1) r4).bind fun r5=>
  (rng (s1.2.2.2+1)).bind fun v6=>
  aN (.inl (r5.Prime,r5.tC,r5.Rows,v6))) (
  aN (.inr (s1.1,s1.2.1,s1.2.2.1)))
def f_Q(x0:zD)(x1:aT):Option zZ:=
 (zP7 x0.Prime x0.Dim).bind fun r1=>
 (zG (zNX x0 x1) (r1.Prime,r1.tC,r1.Rows,0)).bind fun r7=>
 aN (zZ.mk r7.1 r7.2.1 r7.2.2)
def zNY(x0:aU)(x1:aU)(s1:Int):Option (Int⊕(Unit⊕Bool)):=
 cond (decide (s1<(x0.length:Int))) (
  (ixO x0 s1).bind fun v1=>
  (ixO x1 s1).bind fun v2=>
  (f_O v1 v2).bind fun r3=>
  cond (!r3) (
   aN (.inr (.inr aQ))) (
   (rng (s1+1)).bind fun v4=>
   aN (.inl v4))) (
  aN (.inr (.inl ())))
def zR5(x0:aU)(x1:aU):Option Bool:=
 cond ((x0.length:Int) != (x1.length:Int)) (
  aN aQ) (
  (zG (zNY x0 x1) 0).bind fun r5=>
  match r5 with
  |(.inl r5)=>
   aN aP
  |(.inr r5)=>
   aN r5)
def zP9(x0:aU)(x1:aU):Option Bool:=
 (zR5 x0 x1).bind fun r1=>
 aN r1
def zNZ(x1:zD)(s1:Int):Option (Int⊕(Unit⊕Bool)):=
 cond (decide (s1<(x1.zL.length:Int))) (
  (ixO x1.zL s1).bind fun v4=>
  cond ((v4.length:Int) != x1.Dim) (
   aN (.inr (.inr aQ))) (
   (zJl x1 s1).bind fun r5=>
   (zP5 r5).bind fun r6=>
   cond (!r6) (
    aN (.inr (.inr aQ))) (
    (rng (s1+1)).bind fun v7=>
    aN (.inl v7)))) (
  aN (.inr (.inl ())))
def zOa(x1:zD)(r9:(List (aT×aT)))(s3:Int):Option (Int⊕(Unit⊕Bool)):=
 cond (decide (s3<(r9.length:Int))) (
  (ixO r9 s3).bind fun v10=>
  (f_Q x1 v10.1).bind fun r11=>
  (f_Q x1 v10.2).bind fun r12=>
  (zP9 r11.Rows r12.Rows).bind fun r13=>
  cond (!r13) (
   aN (.inr (.inr aQ))) (
   (rng (s3+1)).bind fun v14=>
   aN (.inl v14))) (
  aN (.inr (.inl ())))
def f_v(x0:SPr)(x1:zD):Option Bool:=
 (zP4 x0).bind fun r1=>
 cond (!r1) (
  aN aQ) (
  (zLg x1.Prime).bind fun r2=>
  cond (!r2) (
   aN aQ) (
   (zJi x1.Dim 1 3).bind fun r3=>
   cond (!r3) (
    aN aQ) (
    cond ((x1.zL.length:Int) != (x0.zA.length:Int)) (
     aN aQ) (
     (zG (zNZ x1) 0).bind fun r8=>
     match r8 with
     |(.inl r8)=>
      (f_l x0).bind fun r9=>
      (zG (zOa x1 r9) 0).bind fun r15=>
      match r15 with
      |(.inl r15)=>
       aN aP
      |(.inr r15)=>
       aN r15
     |(.inr r8)=>
      aN r8))))
def zOb(x1:Int):Option aT:=
 cond (decide (x1<0)) (
  aO) (
  (rng (0-0)).bind fun v1=>
  (rng (x1-v1)).bind fun v2=>
  cond (decide (v2> 0)) (
   (uW [] v2 (0:Int)).bind fun v3=>
   (yF v3 0 0).bind fun v4=>
   aN v4) (
   aN []))
def zOc(x0:aU)(s1:Int×Int):Option ((Int×Int)⊕Int):=
 cond (decide (s1.2<(x0.length:Int))) (
  (ixO x0 s1.2).bind fun v1=>
  (rng (s1.1+(v1.length:Int))).bind fun v2=>
  cond (decide (v2<0)) (
   aO) (
   (rng (s1.2+1)).bind fun v3=>
   aN (.inl (v2,v3)))) (
  aN (.inr s1.1))
def zOd(x0:aU)(s3:(aT)×Int):Option ((aT×Int)⊕aT):=
 cond (decide (s3.2<(x0.length:Int))) (
  (ixO x0 s3.2).bind fun v6=>
  (xR s3.1 v6).bind fun v7=>
  (rng (s3.2+1)).bind fun v8=>
  aN (.inl (v7,v8))) (
  aN (.inr s3.1))
def f_y(x0:aU):Option aT:=
 (zG (zOc x0) (0,0)).bind fun r4=>
 (zOb r4).bind fun r5=>
 (zG (zOd x0) (r5,0)).bind fun r9=>
 aN r9
def zOe(x0:aT)(x1:aT)(s1:Int):Option (Int⊕(Unit⊕Bool)):=
 cond (decide (s1<(x0.length:Int))) (
  (ixO x0 s1).bind fun v1=>
  (ixO x1 s1).bind fun v2=>
  cond (v1 != v2) (
   aN (.inr (.inr aQ))) (
   (rng (s1+1)).bind fun v3=>
   aN (.inl v3))) (
  aN (.inr (.inl ())))
def zOf(x0:aT)(x1:aT):Option Bool:=
 cond ((x0.length:Int) != (x1.length:Int)) (
  aN aQ) (
  (zG (zOe x0 x1) 0).bind fun r4=>
  match r4 with
  |(.inl r4)=>
   aN aP
  |(.inr r4)=>
   aN r4)
def zR6(x0:aU)(x1:aU)(s1:Int):Option (Int⊕(Unit⊕Bool)):=
 cond (decide (s1<(x0.length:Int))) (
  (ixO x0 s1).bind fun v1=>
  (ixO x1 s1).bind fun v2=>
  (zOf v1 v2).bind fun r3=>
  cond (!r3) (
   aN (.inr (.inr aQ))) (
   (rng (s1+1)).bind fun v4=>
   aN (.inl v4))) (
  aN (.inr (.inl ())))
def f_z(x0:aU)(x1:aU):Option Bool:=
 cond ((x0.length:Int) != (x1.length:Int)) (
  aN aQ) (
  (zG (zR6 x0 x1) 0).bind fun r5=>
  match r5 with
  |(.inl r5)=>
   aN aP
  |(.inr r5)=>
   aN r5)
def zOg(x0:List aU)(x1:List aU)(s1:Int):Option (Int⊕(Unit⊕Bool)):=
 cond (decide (s1<(x0.length:Int))) (
  (ixO x0 s1).bind fun v1=>
  (ixO x1 s1).bind fun v2=>
  (f_z v1 v2).bind fun r3=>
  cond (!r3) (
   aN (.inr (.inr aQ))) (
   (rng (s1+1)).bind fun v4=>
   aN (.inl v4))) (
  aN (.inr (.inl ())))
def zPA(x0:List aU)(x1:List aU):Option Bool:=
 cond ((x0.length:Int) != (x1.length:Int)) (
  aN aQ) (
  (zG (zOg x0 x1) 0).bind fun r5=>
  match r5 with
  |(.inl r5)=>
   aN aP
  |(.inr r5)=>
   aN r5)
def zPB(x0:zD)(x1:zD):Option Bool:=
 cond (x0.Prime != x1.Prime) (
  aN aQ) (
  cond (x0.Dim != x1.Dim) (
   aN aQ) (
   (zPA x0.zL x1.zL).bind fun r1=>
   cond (!r1) (
    aN aQ) (
    aN aP)))
def zPC(x0:SPr)(x1:SPr):Option Bool:=
 (zOf x0.zA x1.zA).bind fun r1=>
 cond (!r1) (
  aN aQ) (
  (f_z x0.zW x1.zW).bind fun r2=>
  cond (!r2) (
   aN aQ) (
   (zPA x0.zB x1.zB).bind fun r3=>
   cond (!r3) (
    aN aQ) (
    aN aP)))
def zKv(s1:(aT)×Int×Int):Option ((aT×Int×Int)⊕(aT×Int)):=
 cond (decide (s1.2.2<(s1.1.length:Int))) (
  (ixO s1.1 s1.2.2).bind fun _=>
  (rng (s1.2.1+1)).bind fun v2=>
  (rng (s1.2.2+1)).bind fun v3=>
  aN (.inl (s1.1.set s1.2.2.toNat s1.2.1,v2,v3))) (
  aN (.inr (s1.1,s1.2.1)))
def zLl(x0:aT)(x1:Int):Option (Int×aT):=
 (zG zKv (x0,x1,0)).bind fun r4=>
 aN (r4.2,r4.1)
def zR7(s1:(aU)×Int×Int):Option ((aU×Int×Int)⊕(aU×Int)):=
 cond (decide (s1.2.2<(s1.1.length:Int))) (
  (ixO s1.1 s1.2.2).bind fun v1=>
  (zLl v1 s1.2.1).bind fun r2=>
  (rng (s1.2.2+1)).bind fun v3=>
  aN (.inl (s1.1.set s1.2.2.toNat r2.2,r2.1,v3))) (
  aN (.inr (s1.1,s1.2.1)))
def f_L(x0:aU)(x1:Int):Option (Int×aU):=
 (zG zR7 (x0,x1,0)).bind fun r4=>
 aN (r4.2,r4.1)
def zOh(s1:(List aU)×Int×Int):Option (((List aU)×Int×Int)⊕((List aU)×Int)):=
 cond (decide (s1.2.2<(s1.1.length:Int))) (
  (ixO s1.1 s1.2.2).bind fun v1=>
  (f_L v1 s1.2.1).bind fun r2=>
  (rng (s1.2.2+1)).bind fun v3=>
  aN (.inl (s1.1.set s1.2.2.toNat r2.2,r2.1,v3))) (
  aN (.inr (s1.1,s1.2.1)))
def zOi(x0:List aU)(x1:Int):Option (Int×(List aU)):=
 (zG zOh (x0,x1,0)).bind fun r4=>
 aN (r4.2,r4.1)
def zPD(x0:SPr)(x1:Int):Option (Int×SPr):=
 (zLl x0.zA x1).bind fun r1=>
 (f_L x0.zW r1.1).bind fun r2=>
 (zOi x0.zB r2.1).bind fun r3=>
 aN (r3.1,(SPr.mk r1.2 r2.2 r3.2))
def zPE(x0:zD)(x1:Int):Option (Int×zD):=
 (zOi x0.zL x1).bind fun r1=>
 aN (r1.1,(zD.mk x0.Prime x0.Dim r1.2))
def zIn(x0:aT)(s1:Int×Int):Option ((Int×Int)⊕(Int⊕Int)):=
 cond (decide (s1.2<(x0.length:Int))) (
  (ixO x0 s1.2).bind fun v1=>
  cond (v1 != s1.1) (
   aN (.inr (.inr (-1)))) (
   (rng (s1.1+1)).bind fun v2=>
   (rng (s1.2+1)).bind fun v3=>
   aN (.inl (v2,v3)))) (
  aN (.inr (.inl s1.1)))
def zOj(x0:aT)(x1:Int):Option Int:=
 (zG (zIn x0) (x1,0)).bind fun r4=>
 match r4 with
 |(.inl r4)=>
  aN r4
 |(.inr r4)=>
  aN r4
def zOl(x0:aU)(s1:Int×Int):Option ((Int×Int)⊕(Int⊕Int)):=
 cond (decide (s1.2<(x0.length:Int))) (
  (ixO x0 s1.2).bind fun v1=>
  (zOj v1 s1.1).bind fun r2=>
  cond (decide (r2<0)) (
   aN (.inr (.inr (-1)))) (
   (rng (s1.2+1)).bind fun v3=>
   aN (.inl (r2,v3)))) (
  aN (.inr (.inl s1.1)))
def zPF(x0:aU)(x1:Int):Option Int:=
 (zG (zOl x0) (x1,0)).bind fun r4=>
 match r4 with
 |(.inl r4)=>
  aN r4
 |(.inr r4)=>
  aN r4
def b_e(g_e:SPr→Int→aT→Option aT)(x0:SPr)(x1:Int)(x2:aT):Option aT:=
 cond (decide (x1≥(x0.zA.length:Int))) (
  (yT (x0.zA.length:Int)).bind fun m1=>
  aN (J1 m1 (0:Int))) (
  (f_X x2).bind fun r2=>
  (ixO r2 x1).bind fun _=>
  (rng (x1+1)).bind fun v4=>
  (g_e x0 v4 (r2.set x1.toNat 0)).bind fun r5=>
  (ixO x2 x1).bind fun v6=>
  cond (v6==0) (
   aN r5) (
   (yT (x0.zA.length:Int)).bind fun m7=>
   (ixO x0.zA x1).bind fun v8=>
   (ixO x2 x1).bind fun v9=>
   (rng (v8-v9)).bind fun v10=>
   (ixO (J1 m7 (0:Int)) x1).bind fun _=>
   (f_a x0 x1 r5 ((J1 m7 (0:Int)).set x1.toNat v10)).bind fun r12=>
   (rng (x1+1)).bind fun v13=>
   (ixO x0.zW x1).bind fun v14=>
   (g_e x0 v13 v14).bind fun r15=>
   (f_a x0 x1 r12 r15).bind fun r16=>
   aN r16))
def zJm:Nat→SPr→Int→aT→Option aT
 |0=>fun _ _ _=>aO
 |n+1=>b_e (zJm n)
def f_e(x0:SPr)(x1:Int)(x2:aT):Option aT:=zBZ fun n=>zJm n x0 x1 x2
def zOm(x0:SPr)(x1:aT):Option aT:=
 (f_e x0 0 x1).bind fun r1=>
 aN r1
def zLm(s1:Int×Int×Int×Int):Option ((Int×Int×Int×Int)⊕(Int×Int)):=
 cond (s1.2.1 != 0) (
  (tQ s1.1 s1.2.1).bind fun v1=>
  (rng (v1*s1.2.1)).bind fun v2=>
  (rng (s1.1-v2)).bind fun v3=>
  (rng (v1*s1.2.2.2)).bind fun v4=>
  (rng (s1.2.2.1-v4)).bind fun v5=>
  aN (.inl (s1.2.1,v3,s1.2.2.2,v5))) (
  aN (.inr (s1.1,s1.2.2.1)))
def f_N(x0:Int)(x1:Int):Option (Int×Bool):=
 (zG zLm (x1,x0,0,1)).bind fun r6=>
 (zGH r6.2 x1).bind fun r7=>
 aN (r7,(r6.1==1))
def zOn(x0:Int)(x1:Int):Option Int:=
 (vU x0 x1).bind fun v1=>
 cond (decide (v1<0)) (
  (rng (v1+x1)).bind fun v2=>
  aN v2) (
  aN v1)
def zOo(x0:Int)(x2:Int)(x3:aT)(s1:(aT)×Int):Option ((aT×Int)⊕aT):=
 cond (decide (s1.2<(s1.1.length:Int))) (
  cond (decide (s1.2<(x3.length:Int))) (
   (ixO s1.1 s1.2).bind fun v2=>
   (ixO x3 s1.2).bind fun v3=>
   (rng (x2*v3)).bind fun v4=>
   (rng (v2+v4)).bind fun v5=>
   (zOn v5 x0).bind fun r6=>
   (ixO s1.1 s1.2).bind fun _=>
   (rng (s1.2+1)).bind fun v8=>
   aN (.inl (s1.1.set s1.2.toNat r6,v8))) (
   aN (.inr s1.1))) (
  aN (.inr s1.1))
def f_M(x0:Int)(x1:aT)(x2:Int)(x3:aT):Option aT:=
 (f_X x1).bind fun r1=>
 (zG (zOo x0 x2 x3) (r1,0)).bind fun r9=>
 aN r9
def zIo(x0:Int)(x1:Int)(s1:Int):Option (Int⊕(Unit⊕Int)):=
 cond (decide (s1<x1)) (
  (zOn x0 x1).bind fun r1=>
  (rng (r1*s1)).bind fun v2=>
  (vU v2 x1).bind fun v3=>
  cond (v3==1) (
   aN (.inr (.inr s1))) (
   (rng (s1+1)).bind fun v4=>
   aN (.inl v4))) (
  aN (.inr (.inl ())))
def zPG(x0:Int)(x1:Int):Option Int:=
 (zG (zIo x0 x1) 1).bind fun r5=>
 match r5 with
 |(.inl r5)=>
  aN 0
 |(.inr r5)=>
  aN r5
def zKw(x0:zD)(x1:aU)(s1:Int):Option (Int⊕(Unit⊕Bool)):=
 cond (decide (s1<(x1.length:Int))) (
  (ixO x1 s1).bind fun v1=>
  (zNy x0.Prime x0.Dim v1).bind fun r2=>
  cond (!r2) (
   aN (.inr (.inr aQ))) (
   (rng (s1+1)).bind fun v3=>
   aN (.inl v3))) (
  aN (.inr (.inl ())))
def zR8(x0:zD)(x1:aU):Option Bool:=
 (zG (zKw x0 x1) 0).bind fun r4=>
 match r4 with
 |(.inl r4)=>
  aN aP
 |(.inr r4)=>
  aN r4
def zPH(x0:SPr)(x1:zD)(x2:aU):Option Bool:=
 cond ((x2.length:Int)==(x0.zA.length:Int)) (
  (zR8 x1 x2).bind fun r1=>
  aN r1) (
  aN aQ)
def zIp(x0:zD)(x1:aU)(x2:aT)(x3:Int):Option aT:=
 (ixO x0.zL x3).bind fun v1=>
 (f_B x0.Prime x2 v1 x0.Dim).bind fun r2=>
 (ixO x1 x3).bind fun v3=>
 (f_M x0.Prime r2 1 v3).bind fun r4=>
 aN r4
def zOp(x0:zD)(x1:aU)(x3:aT)(s5:(aT)×Int)(s6:(aT)×Int):Option ((aT×Int)⊕aT):=
 (ixO x3 s5.2).bind fun v1=>
 cond (decide (s6.2<v1)) (
  (zIp x0 x1 s6.1 s5.2).bind fun r2=>
  (rng (s6.2+1)).bind fun v3=>
  aN (.inl (r2,v3))) (
  aN (.inr s6.1))
def zOq(x0:zD)(x1:aU)(x3:aT)(s5:(aT)×Int):Option ((aT×Int)⊕aT):=
 cond (decide (s5.2<(x3.length:Int))) (
  (zG (zOp x0 x1 x3 s5) (s5.1,0)).bind fun r4=>
  (rng (s5.2+1)).bind fun v5=>
  aN (.inl (r4,v5))) (
  aN (.inr s5.1))
def f_p(x0:zD)(x1:aU)(x2:aT)(x3:aT):Option aT:=
 (zG (zOq x0 x1 x3) (x2,0)).bind fun r6=>
 aN r6
def zOr(x0:SPr)(x1:zD)(x2:aU)(s9:(aT)×Int)(s10:(aT)×Int):Option ((aT×Int)⊕aT):=
 (ixO x0.zA s9.2).bind fun v2=>
 cond (decide (s10.2<v2)) (
  (zIp x1 x2 s10.1 s9.2).bind fun r3=>
  (rng (s10.2+1)).bind fun v4=>
  aN (.inl (r3,v4))) (
  aN (.inr s10.1))
def zOs(x0:SPr)(x1:zD)(x2:aU)(m1:Nat)(s9:(aT)×Int)(s12:(aT)×Int):Option ((aT×Int)⊕aT):=
 cond (decide (s12.2<(x0.zA.length:Int))) (
  (zIp x1 x2 (J1 m1 (0:Int)) s12.2).bind fun r12=>
  (zIp x1 x2 r12 s9.2).bind fun r13=>
  (zIp x1 x2 (J1 m1 (0:Int)) s9.2).bind fun r14=>
  (ixO x0.zB s9.2).bind fun v15=>
  (rng (s12.2-s9.2)).bind fun v16=>
  (rng (v16-1)).bind fun v17=>
  (ixO v15 v17).bind fun v18=>
  (f_p x1 x2 r14 v18).bind fun r19=>
  (rng (x1.Prime-1)).bind fun v20=>
  (f_M x1.Prime r13 v20 r19).bind fun r21=>
  (xR s12.1 r21).bind fun v22=>
  (rng (s12.2+1)).bind fun v23=>
  aN (.inl (v22,v23))) (
  aN (.inr s12.1))
def zOt(x0:SPr)(x1:zD)(x2:aU)(m1:Nat)(s9:(aT)×Int):Option ((aT×Int)⊕aT):=
 cond (decide (s9.2<(x0.zA.length:Int))) (
  (zG (zOr x0 x1 x2 s9) (J1 m1 (0:Int),0)).bind fun r5=>
  (rng (x1.Prime-1)).bind fun v6=>
  (ixO x0.zW s9.2).bind fun v7=>
  (f_p x1 x2 (J1 m1 (0:Int)) v7).bind fun r8=>
  (f_M x1.Prime r5 v6 r8).bind fun r9=>
  (xR s9.1 r9).bind fun v10=>
  (rng (s9.2+1)).bind fun v11=>
  (zG (zOs x0 x1 x2 m1 s9) (v10,v11)).bind fun r24=>
  (rng (s9.2+1)).bind fun v25=>
  aN (.inl (r24,v25))) (
  aN (.inr s9.1))
def f_n(x0:SPr)(x1:zD)(x2:aU):Option aT:=
 (yT x1.Dim).bind fun m1=>
 (zG (zOt x0 x1 x2 m1) ([],0)).bind fun r26=>
 aN r26
def zQ4(x0:aT)(s1:Int):Option (Int⊕(Unit⊕Bool)):=
 cond (decide (s1<(x0.length:Int))) (
  (ixO x0 s1).bind fun v1=>
  cond (v1 != 0) (
   aN (.inr (.inr aQ))) (
   (rng (s1+1)).bind fun v2=>
   aN (.inl v2))) (
  aN (.inr (.inl ())))
def zLn(x0:aT):Option Bool:=
 (zG (zQ4 x0) 0).bind fun r3=>
 match r3 with
 |(.inl r3)=>
  aN aP
 |(.inr r3)=>
  aN r3
def zPI(x0:SPr)(x1:zD)(x2:aU):Option Bool:=
 (f_n x0 x1 x2).bind fun r1=>
 (zLn r1).bind fun r2=>
 aN r2
def zOu(x0:SPr)(x1:zD)(x2:aU):Option Int:=
 (zP2 x0 x1).bind fun r1=>
 cond (!r1) (
  aN 1) (
  (zPH x0 x1 x2).bind fun r2=>
  cond (!r2) (
   aN 1) (
   (zPI x0 x1 x2).bind fun r3=>
   cond (!r3) (
    aN 5) (
    aN 0)))
def zKx(x0:zD)(x1:aU)(s1:Int):Option (Int⊕(Unit⊕Bool)):=
 cond (decide (s1<(x1.length:Int))) (
  (ixO x1 s1).bind fun v1=>
  (zNQ v1 x0.Prime x0.Dim).bind fun r2=>
  cond (!r2) (
   aN (.inr (.inr aQ))) (
   (rng (s1+1)).bind fun v3=>
   aN (.inl v3))) (
  aN (.inr (.inl ())))
def zR9(x0:zD)(x1:aU):Option Bool:=
 (zG (zKx x0 x1) 0).bind fun r4=>
 match r4 with
 |(.inl r4)=>
  aN aP
 |(.inr r4)=>
  aN r4
def zPJ(x0:SPr)(x1:zD)(x2:aU):Option Bool:=
 cond ((x2.length:Int)==(x0.zA.length:Int)) (
  (zR9 x1 x2).bind fun r1=>
  aN r1) (
  aN aQ)
def zOv(x0:zD)(x1:aU)(x2:aT)(s1:(aT)×Int):Option ((aT×Int)⊕aT):=
 cond (decide (s1.2<(x2.length:Int))) (
  (ixO x2 s1.2).bind fun v2=>
  (rng (v2-1)).bind fun v3=>
  (zJl x0 v3).bind fun r4=>
  (zNW s1.1 r4).bind fun r5=>
  (rng (v2-1)).bind fun v6=>
  (ixO x1 v6).bind fun v7=>
  (f_C r5 v7 1 x0.Prime).bind fun r8=>
  (rng (s1.2+1)).bind fun v9=>
  aN (.inl (r8,v9))) (
  aN (.inr s1.1))
def f_R(x0:zD)(x1:aU)(x2:aT):Option aT:=
 (yT x0.Dim).bind fun m1=>
 (zG (zOv x0 x1 x2) (J1 m1 (0:Int),0)).bind fun r10=>
 aN r10
def zIq(x1:zD)(x2:aU)(r1:(List (aT×aT)))(s1:(aU)×Int):Option ((aU×Int)⊕aU):=
 cond (decide (s1.2<(r1.length:Int))) (
  (ixO r1 s1.2).bind fun v2=>
  (f_R x1 x2 v2.1).bind fun r3=>
  (f_R x1 x2 v2.2).bind fun r4=>
  (f_C r3 r4 (-1) x1.Prime).bind fun r5=>
  (xR s1.1 [r5]).bind fun v6=>
  (rng (s1.2+1)).bind fun v7=>
  aN (.inl (v6,v7))) (
  aN (.inr s1.1))
def zOw(x0:SPr)(x1:zD)(x2:aU):Option aU:=
 (f_l x0).bind fun r1=>
 (zG (zIq x1 x2 r1) ([],0)).bind fun r8=>
 aN r8
def zOx(x0:SPr)(x1:zD)(x2:aU):Option Int:=
 (f_v x0 x1).bind fun r1=>
 cond (!r1) (
  aN 1) (
  (zPJ x0 x1 x2).bind fun r2=>
  cond (!r2) (
   aN 1) (
   (zOw x0 x1 x2).bind fun r3=>
   (f_y r3).bind fun r4=>
   (f_A r4).bind fun r5=>
   cond (!r5) (
    aN 5) (
    aN 0)))
def zIr(x0:aU)(s1:(aU)×Int):Option ((aU×Int)⊕aU):=
 cond (decide (s1.2<(x0.length:Int))) (
  (ixO x0 s1.2).bind fun v1=>
  (f_X v1).bind fun r2=>
  (xR s1.1 [r2]).bind fun v3=>
  (rng (s1.2+1)).bind fun v4=>
  aN (.inl (v3,v4))) (
  aN (.inr s1.1))
def zPK(x0:aU):Option aU:=
 (zG (zIr x0) ([],0)).bind fun r5=>
 aN r5
def zPL(x0:Int):Option Bool:=
 aN (x0 != 0)
def zIs(x0:aT)(s1:Int):Option (Int⊕(Unit⊕Int)):=
 cond (decide (s1<(x0.length:Int))) (
  (ixO x0 s1).bind fun v1=>
  (zPL v1).bind fun r2=>
  cond r2 (
   aN (.inr (.inr s1))) (
   (rng (s1+1)).bind fun v3=>
   aN (.inl v3))) (
  aN (.inr (.inl ())))
def zPM(x0:aT):Option Int:=
 (zG (zIs x0) 0).bind fun r4=>
 match r4 with
 |(.inl r4)=>
  aN (-1)
 |(.inr r4)=>
  aN r4
def zJn(x0:aU)(s1:(aT)×Int):Option ((aT×Int)⊕aT):=
 cond (decide (s1.2<(x0.length:Int))) (
  (ixO x0 s1.2).bind fun v1=>
  (zPM v1).bind fun r2=>
  (xR s1.1 [r2]).bind fun v3=>
  (rng (s1.2+1)).bind fun v4=>
  aN (.inl (v3,v4))) (
  aN (.inr s1.1))
def f_T(x0:aU):Option aT:=
 (zG (zJn x0) ([],0)).bind fun r5=>
 aN r5
def zRA(x0:SPr)(s1:Int×Int):Option ((Int×Int)⊕Int):=
 cond (decide (s1.2<(x0.zA.length:Int))) (
  (ixO x0.zA s1.2).bind fun v1=>
  (rng (s1.1*v1)).bind fun v2=>
  (rng (s1.2+1)).bind fun v3=>
  aN (.inl (v2,v3))) (
  aN (.inr s1.1))
def f_V(x0:SPr):Option Int:=
 (zG (zRA x0) (1,0)).bind fun r4=>
 aN r4
def zRB(x0:SPr)(s1:Int×Int):Option ((Int×Int)⊕Int):=
 cond (decide (s1.2<(x0.zA.length:Int))) (
  (ixO x0.zA s1.2).bind fun v1=>
  (rng (s1.1*v1)).bind fun v2=>
  (rng (s1.2+1)).bind fun v3=>
  aN (.inl (v2,v3))) (
  aN (.inr s1.1))
def f_J(x0:SPr):Option Int:=
 (zG (zRB x0) (1,0)).bind fun r4=>
 aN r4
structure yS where
 p:SPr
 base:aU
abbrev qL(x:yS):T:=.agg [(Pt yI) x.p,(L 1 (Nz 1 I)) x.base]
instance:Enc qL:=.of fun _=>zMh ⟨Enc.t (f:=(Pt yI)) inferInstance _,Enc.t (f:=(L 1 (Nz 1 I))) inferInstance _,trivial⟩
def f_S(x0:SPr)(x1:aT)(x2:Int):Option aT:=
 cond (decide (x2<0)) (
  (zOm x0 x1).bind fun r1=>
  (rng (0-x2)).bind fun v2=>
  (f_H x0 0 r1 v2).bind fun r3=>
  aN r3) (
  (f_H x0 0 x1 x2).bind fun r4=>
  aN r4)
def zIt(x0:SPr)(x1:aT)(x2:aT):Option aT:=
 (f_a x0 0 x1 x2).bind fun r1=>
 aN r1
def zIu(x0:SPr)(x1:aU)(s1:(aT)×Int):Option ((aT×Int)⊕(aT⊕(Int×aT))):=
 cond (decide (s1.2<(x1.length:Int))) (
  (ixO s1.1 s1.2).bind fun v2=>
  cond (v2==0) (
   (rng (s1.2+1)).bind fun v3=>
   aN (.inl (s1.1,v3))) (
   (ixO x1 s1.2).bind fun v4=>
   cond ((v4.length:Int)==0) (
    aN (.inr (.inr (s1.2,s1.1)))) (
    (ixO x1 s1.2).bind fun v5=>
    (ixO s1.1 s1.2).bind fun v6=>
    (rng (0-v6)).bind fun v7=>
    (f_S x0 v5 v7).bind fun r8=>
    (zIt x0 s1.1 r8).bind fun r9=>
    (rng (s1.2+1)).bind fun v10=>
    aN (.inl (r9,v10))))) (
  aN (.inr (.inl s1.1)))
def zPN(x0:SPr)(x1:aU)(x2:aT):Option (Int×aT):=
 (f_X x2).bind fun r1=>
 (zG (zIu x0 x1) (r1,0)).bind fun r11=>
 match r11 with
 |(.inl r11)=>
  aN ((x1.length:Int),r11)
 |(.inr r11)=>
  aN r11
def zPO(x0:SPr)(x1:aT)(x2:aT):Option aT:=
 (zIt x0 x2 x1).bind fun r1=>
 (zOm x0 r1).bind fun r2=>
 (zIt x0 x1 x2).bind fun r3=>
 (zIt x0 r2 r3).bind fun r4=>
 aN r4
def zOy(x0:SPr)(x1:aU)(s5:(aU)×Int)(s6:(aT)×Int):Option ((aT×Int)⊕aT):=
 cond (decide (s6.2<(x1.length:Int))) (
  (ixO s5.1 s6.2).bind fun v7=>
  cond (decide ((v7.length:Int)> 0)) (
   (ixO s6.1 s6.2).bind fun v8=>
   cond (v8 != 0) (
    (ixO s5.1 s6.2).bind fun v9=>
    (ixO s6.1 s6.2).bind fun v10=>
    (rng (0-v10)).bind fun v11=>
    (f_S x0 v9 v11).bind fun r12=>
    (zIt x0 s6.1 r12).bind fun r13=>
    (rng (s6.2+1)).bind fun v14=>
    aN (.inl (r13,v14))) (
    (rng (s6.2+1)).bind fun v15=>
    aN (.inl (s6.1,v15)))) (
   (rng (s6.2+1)).bind fun v16=>
   aN (.inl (s6.1,v16)))) (
  aN (.inr s6.1))
def zPP(x0:SPr)(x1:aU)(s5:(aU)×Int):Option ((aU×Int)⊕aU):=
 cond (decide (s5.2≥0)) (
  (ixO x1 s5.2).bind fun v3=>
  cond ((v3.length:Int)==0) (
   (rng (s5.2-1)).bind fun v4=>
   aN (.inl (s5.1,v4))) (
   (ixO x1 s5.2).bind fun v5=>
   (rng (s5.2+1)).bind fun v6=>
   (zG (zOy x0 x1 s5) (v5,v6)).bind fun r17=>
   (ixO s5.1 s5.2).bind fun _=>
   (rng (s5.2-1)).bind fun v19=>
   aN (.inl (s5.1.set s5.2.toNat r17,v19)))) (
  aN (.inr s5.1))
def zLo(r20:(aU))(s9:(aU)×Int):Option ((aU×Int)⊕aU):=
 cond (decide (s9.2<(r20.length:Int))) (
  (ixO r20 s9.2).bind fun v21=>
  cond (decide ((v21.length:Int)> 0)) (
   (ixO r20 s9.2).bind fun v22=>
   (xR s9.1 [v22]).bind fun v23=>
   (rng (s9.2+1)).bind fun v24=>
   aN (.inl (v23,v24))) (
   (rng (s9.2+1)).bind fun v25=>
   aN (.inl (s9.1,v25)))) (
  aN (.inr s9.1))
def f_j(x0:SPr)(x1:aU):Option aU:=
 (yT (x1.length:Int)).bind fun m1=>
 (rng ((x1.length:Int)-1)).bind fun v2=>
 (zG (zPP x0 x1) (J1 m1 ([]:aT),v2)).bind fun r20=>
 (zG (zLo r20) ([],0)).bind fun r26=>
 aN r26
def zLp(x0:SPr)(s5:(aU)×aU)(r6:Int×aT)(r10:(aT))(s6:(aU)×Int):Option ((aU×Int)⊕aU):=
 cond (decide (s6.2<(x0.zA.length:Int))) (
  cond (s6.2 != r6.1) (
   (ixO (s5.1.set r6.1.toNat r10) s6.2).bind fun v15=>
   cond (decide ((v15.length:Int)> 0)) (
    (zPO x0 r10 v15).bind fun r16=>
    (xR s6.1 [r16]).bind fun v17=>
    (rng (s6.2+1)).bind fun v18=>
    aN (.inl (v17,v18))) (
    (rng (s6.2+1)).bind fun v19=>
    aN (.inl (s6.1,v19)))) (
   (rng (s6.2+1)).bind fun v20=>
   aN (.inl (s6.1,v20)))) (
  aN (.inr s6.1))
def zLq(x0:SPr)(s5:(aU)×aU):Option ((aU×aU)⊕aU):=
 cond (decide ((s5.2.length:Int)> 0)) (
  (rng ((s5.2.length:Int)-1)).bind fun v3=>
  (ixO s5.2 v3).bind fun v4=>
  (yF s5.2 0 v3).bind fun v5=>
  (zPN x0 s5.1 v4).bind fun r6=>
  cond (r6.1==(x0.zA.length:Int)) (
   aN (.inl (s5.1,v5))) (
   (ixO r6.2 r6.1).bind fun v7=>
   (ixO x0.zA r6.1).bind fun v8=>
   (zPG v7 v8).bind fun r9=>
   (f_S x0 r6.2 r9).bind fun r10=>
   (ixO s5.1 r6.1).bind fun _=>
   (xR v5 [r6.2]).bind fun v12=>
   (f_S x0 r10 v8).bind fun r13=>
   (xR v12 [r13]).bind fun v14=>
   (zG (zLp x0 s5 r6 r10) (v14,0)).bind fun r21=>
   aN (.inl (s5.1.set r6.1.toNat r10,r21)))) (
  aN (.inr s5.1))
def f_o(x0:SPr)(x1:aU):Option aU:=
 (yT (x0.zA.length:Int)).bind fun m1=>
 (zPK x1).bind fun r2=>
 (zG (zLq x0) (J1 m1 ([]:aT),r2)).bind fun r22=>
 (f_j x0 r22).bind fun r23=>
 aN r23
def zRC(x0:SPr):Option yS:=
 (yT (x0.zA.length:Int)).bind fun m1=>
 aN (yS.mk x0 (J1 m1 ([]:aT)))
def zOz(x0:aU):Option aU:=
 (xR [] x0).bind fun v2=>
 aN v2
def zO0(x0:aT)(s1:Int):Option (Int⊕(Unit⊕Int)):=
 cond (decide (s1<(x0.length:Int))) (
  (ixO x0 s1).bind fun v1=>
  cond (v1 != 0) (
   aN (.inr (.inr s1))) (
   (rng (s1+1)).bind fun v2=>
   aN (.inl v2))) (
  aN (.inr (.inl ())))
def f_q(x0:aT):Option Int:=
 (zG (zO0 x0) 0).bind fun r3=>
 match r3 with
 |(.inl r3)=>
  aN (x0.length:Int)
 |(.inr r3)=>
  aN r3
def zKy(x0:yS)(s1:(aT)×Int):Option ((aT×Int)⊕aT):=
 cond (decide (s1.2<(s1.1.length:Int))) (
  (ixO x0.base s1.2).bind fun v2=>
  cond (!v2.isEmpty) (
   (ixO x0.base s1.2).bind fun v3=>
   (ixO x0.p.zA s1.2).bind fun v4=>
   (ixO s1.1 s1.2).bind fun v5=>
   (rng (v4-v5)).bind fun v6=>
   (f_r x0.p v3 v6).bind fun r7=>
   (f_Y x0.p r7 s1.1).bind fun r8=>
   (ixO r8 s1.2).bind fun v9=>
   cond (v9 != 0) (
    (ixO x0.base s1.2).bind fun v10=>
    (ixO x0.p.zA s1.2).bind fun v11=>
    (ixO r8 s1.2).bind fun v12=>
    (rng (v11-v12)).bind fun v13=>
    (f_r x0.p v10 v13).bind fun r14=>
    (f_Y x0.p r14 r8).bind fun r15=>
    (f_q r15).bind fun r16=>
    aN (.inl (r15,r16))) (
    (f_q r8).bind fun r17=>
    aN (.inl (r8,r17)))) (
   aN (.inr s1.1))) (
  aN (.inr s1.1))
def zPQ(x0:yS)(x1:aT):Option (aT×yS):=
 (f_q x1).bind fun r1=>
 (zG (zKy x0) (x1,r1)).bind fun r18=>
 aN (r18,x0)
def zO1(x0:SPr)(x1:aT)(x2:aT):Option aT:=
 (f_s x0 x1).bind fun r1=>
 (zLk x0 x1 x2).bind fun r2=>
 (f_Y x0 r1 r2).bind fun r3=>
 aN r3
def zLr(r3:(aT)×yS)(r10:(aT))(s6:(aU)×Int):Option ((aU×Int)⊕aU):=
 cond (decide (s6.2<(r3.2.base.length:Int))) (
  (ixO r3.2.base s6.2).bind fun v14=>
  cond (!v14.isEmpty) (
   (zO1 r3.2.p v14 r10).bind fun r15=>
   (xR s6.1 [r15]).bind fun v16=>
   (rng (s6.2+1)).bind fun v17=>
   aN (.inl (v16,v17))) (
   (rng (s6.2+1)).bind fun v18=>
   aN (.inl (s6.1,v18)))) (
  aN (.inr s6.1))
def zLs(s5:SPr×aU×Bool×aU):Option ((SPr×aU×Bool×aU)⊕(SPr×aU×Bool)):=
 cond (decide ((s5.2.2.2.length:Int)> 0)) (
  (ixO s5.2.2.2 0).bind fun v2=>
  (zPQ (yS.mk s5.1 s5.2.1) v2).bind fun r3=>
  (yF s5.2.2.2 1 s5.2.2.2.length).bind fun v4=>
  (f_q r3.1).bind fun r5=>
  cond (r5==(r3.1.length:Int)) (
   aN (.inl (r3.2.p,r3.2.base,s5.2.2.1,v4))) (
   (ixO r3.1 r5).bind fun v6=>
   (ixO r3.2.p.zA r5).bind fun v7=>
   (f_N v6 v7).bind fun r8=>
   (xR v4 [r3.1]).bind fun v9=>
   (f_r r3.2.p r3.1 r8.1).bind fun r10=>
   (ixO r3.2.p.zA r5).bind fun v11=>
   (f_r r3.2.p r10 v11).bind fun r12=>
   (xR v9 [r12]).bind fun v13=>
   (zG (zLr r3 r10) (v13,0)).bind fun r19=>
   (ixO r3.2.base r5).bind fun _=>
   (neO r10).bind fun _=>
   aN (.inl (r3.2.p,r3.2.base.set r5.toNat r10,aP,r19)))) (
  aN (.inr (s5.1,s5.2.1,s5.2.2.1)))
def f_w(x0:yS)(x1:aU):Option (Bool×yS):=
 (zOz x1).bind fun r1=>
 (zG zLs (x0.p,x0.base,aQ,r1)).bind fun r22=>
 aN (r22.2.2,(yS.mk r22.1 r22.2.1))
def zLt(x0:SPr)(x1:aU)(s5:(aT)×Int)(v3:Int)(s6:(aT)):Option (aT⊕aT):=
 (ixO s6 v3).bind fun v4=>
 cond (v4 != 0) (
  (ixO x1 s5.2).bind fun v5=>
  (f_b x0 s6 v5).bind fun r6=>
  aN (.inl r6)) (
  aN (.inr s6))
def zJo(x0:SPr)(x1:aU)(r2:(aT))(s5:(aT)×Int):Option ((aT×Int)⊕aT):=
 cond (decide (s5.2<(r2.length:Int))) (
  (ixO r2 s5.2).bind fun v3=>
  (zG (zLt x0 x1 s5 v3) s5.1).bind fun r7=>
  (rng (s5.2+1)).bind fun v8=>
  aN (.inl (r7,v8))) (
  aN (.inr s5.1))
def f_m(x0:SPr)(x1:aU)(x2:aT):Option aT:=
 (f_G x2).bind fun r1=>
 (f_T x1).bind fun r2=>
 (zG (zJo x0 x1 r2) (r1,0)).bind fun r9=>
 aN r9
def zPR(x0:yS)(s1:(aU)×Int):Option ((aU×Int)⊕aU):=
 cond (decide (s1.2≥0)) (
  (ixO x0.base s1.2).bind fun v2=>
  cond (!v2.isEmpty) (
   (ixO x0.base s1.2).bind fun v3=>
   (f_m x0.p s1.1 v3).bind fun r4=>
   (xR [r4] s1.1).bind fun v5=>
   (rng (s1.2-1)).bind fun v6=>
   aN (.inl (v5,v6))) (
   (rng (s1.2-1)).bind fun v7=>
   aN (.inl (s1.1,v7)))) (
  aN (.inr s1.1))
def f_U(x0:yS):Option aU:=
 (rng ((x0.base.length:Int)-1)).bind fun v1=>
 (zG (zPR x0) ([],v1)).bind fun r8=>
 aN r8
def zRD(x0:SPr):Option aT:=
 (yT (x0.zA.length:Int)).bind fun m1=>
 aN (J1 m1 (0:Int))
def zO2(x0:SPr)(s1:Int×aT×Int):Option ((Int×aT×Int)⊕aT):=
 cond (decide (s1.2.2≥0)) (
  (ixO x0.zA s1.2.2).bind fun v3=>
  (vU s1.1 v3).bind fun v4=>
  (ixO s1.2.1 s1.2.2).bind fun _=>
  (ixO x0.zA s1.2.2).bind fun v6=>
  (tQ s1.1 v6).bind fun v7=>
  (rng (s1.2.2-1)).bind fun v8=>
  aN (.inl (v7,s1.2.1.set s1.2.2.toNat v4,v8))) (
  aN (.inr s1.2.1))
def zLu(x0:SPr)(x1:Int):Option aT:=
 (zRD x0).bind fun r1=>
 (rng ((r1.length:Int)-1)).bind fun v2=>
 (zG (zO2 x0) (x1,r1,v2)).bind fun r9=>
 aN r9
def zLv(x0:SPr)(x1:zD)(x2:aU)(s1:(aU)×Int):Option ((aU×Int)⊕aU):=
 (f_V x0).bind fun r3=>
 cond (decide (s1.2<r3)) (
  (zLu x0 s1.2).bind fun r4=>
  (yT x1.Dim).bind fun m5=>
  (f_p x1 x2 (J1 m5 (0:Int)) r4).bind fun r6=>
  (zLn r6).bind fun r7=>
  cond r7 (
   (xR s1.1 [r4]).bind fun v8=>
   (rng (s1.2+1)).bind fun v9=>
   aN (.inl (v8,v9))) (
   (rng (s1.2+1)).bind fun v10=>
   aN (.inl (s1.1,v10)))) (
  aN (.inr s1.1))
def f_F(x0:SPr)(x1:zD)(x2:aU):Option (aU×Int):=
 (zOu x0 x1 x2).bind fun r1=>
 cond (r1 != 0) (
  aN ([],r1)) (
  (f_V x0).bind fun r2=>
  cond (decide (r2> 128)) (
   aN ([],3)) (
   (zG (zLv x0 x1 x2) ([],0)).bind fun r11=>
   (f_o x0 r11).bind fun r12=>
   aN (r12,0)))
def zO3(x0:aT)(x1:zD)(x2:aU):Option Bool:=
 (f_u x0).bind fun r1=>
 (f_R x1 x2 r1).bind fun r2=>
 (f_A r2).bind fun r3=>
 aN r3
def zO4(x0:SPr)(s1:Int×aT×Int):Option ((Int×aT×Int)⊕aT):=
 cond (decide (s1.2.2≥0)) (
  (ixO x0.zA s1.2.2).bind fun v3=>
  (vU s1.1 v3).bind fun v4=>
  (ixO s1.2.1 s1.2.2).bind fun _=>
  (ixO x0.zA s1.2.2).bind fun v6=>
  (tQ s1.1 v6).bind fun v7=>
  (rng (s1.2.2-1)).bind fun v8=>
  aN (.inl (v7,s1.2.1.set s1.2.2.toNat v4,v8))) (
  aN (.inr s1.2.1))
def f_I(x0:SPr)(x1:Int):Option aT:=
 (yT (x0.zA.length:Int)).bind fun m1=>
 (rng (((J1 m1 (0:Int)).length:Int)-1)).bind fun v2=>
 (zG (zO4 x0) (x1,J1 m1 (0:Int),v2)).bind fun r9=>
 aN r9
def zO5(x0:SPr)(r1:Int)(s1:(aU)×Int):Option ((aU×Int)⊕aU):=
 cond (decide (s1.2<r1)) (
  (f_I x0 s1.2).bind fun r2=>
  (xR s1.1 [r2]).bind fun v3=>
  (rng (s1.2+1)).bind fun v4=>
  aN (.inl (v3,v4))) (
  aN (.inr s1.1))
def f_K(x0:SPr):Option aU:=
 (f_J x0).bind fun r1=>
 (zG (zO5 x0 r1) ([],0)).bind fun r5=>
 aN r5
def zPS(x1:zD×aU)(r2:(aU))(s1:SPr×aU×Int):Option ((SPr×aU×Int)⊕(SPr×aU)):=
 cond (decide (s1.2.2<(r2.length:Int))) (
  (ixO r2 s1.2.2).bind fun v3=>
  (zO3 v3 x1.1 x1.2).bind fun r4=>
  cond r4 (
   (f_w (yS.mk s1.1 s1.2.1) [v3]).bind fun r5=>
   (rng (s1.2.2+1)).bind fun v6=>
   aN (.inl (r5.2.p,r5.2.base,v6))) (
   (rng (s1.2.2+1)).bind fun v7=>
   aN (.inl (s1.1,s1.2.1,v7)))) (
  aN (.inr (s1.1,s1.2.1)))
def f_W(x0:SPr)(x1:zD×aU):Option aU:=
 (zRC x0).bind fun r1=>
 (f_K x0).bind fun r2=>
 (zG (zPS x1 r2) (r1.p,r1.base,0)).bind fun r8=>
 (f_U (yS.mk r8.1 r8.2)).bind fun r9=>
 aN r9
def zJp(x0:SPr)(x1:zD)(x2:aU):Option (aU×Int):=
 (zOx x0 x1 x2).bind fun r1=>
 cond (r1 != 0) (
  aN ([],r1)) (
  (f_J x0).bind fun r2=>
  cond (decide (r2> 128)) (
   aN ([],3)) (
   (f_W x0 (x1,x2)).bind fun r3=>
   aN (r3,0)))
def zO6(x0:SPr)(x1:zD)(x2:aU):Option Bool:=
 (zPu x0 1048576).bind fun r1=>
 cond (decide (r1<0)) (
  aN aP) (
  (zPv x1 r1).bind fun r2=>
  cond (decide (r2<0)) (
   aN aP) (
   (zNj x2 r2).bind fun r3=>
   cond (decide (r3<0)) (
    aN aP) (
    (zJd x0).bind fun r4=>
    (zJe x1).bind fun r5=>
    (f_x x2).bind fun r6=>
    (f_F r4 r5 r6).bind fun r7=>
    (zJd x0).bind fun r8=>
    (zJe x1).bind fun r9=>
    (f_x x2).bind fun r10=>
    (zJp r8 r9 r10).bind fun r11=>
    (f_z r11.1 r7.1).bind fun r12=>
    cond (!r12) (
     aN aQ) (
     cond (r11.2 != r7.2) (
      aN aQ) (
      (zJd x0).bind fun r13=>
      (zPC r8 r13).bind fun r14=>
      cond (!r14) (
       aN aQ) (
       (zJe x1).bind fun r15=>
       (zPB r9 r15).bind fun r16=>
       cond (!r16) (
        aN aQ) (
        (f_x x2).bind fun r17=>
        (f_z r10 r17).bind fun r18=>
        cond (!r18) (
         aN aQ) (
         (zPD r8 1).bind fun r19=>
         (zPE r9 r19.1).bind fun r20=>
         (f_L r10 r20.1).bind fun r21=>
         cond (decide (r21.1<0)) (
          aN aQ) (
          (f_z r11.1 r7.1).bind fun r22=>
          cond (!r22) (
           aN aQ) (
           cond (r11.2 != r7.2) (
            aN aQ) (
            (f_L r11.1 1).bind fun r23=>
            (zPF r23.2 1).bind fun r24=>
            cond (decide (r24<0)) (
             aN aQ) (
             cond (r24 != r23.1) (
              aN aQ) (
              (zJd x0).bind fun r25=>
              (zJe x1).bind fun r26=>
              (f_x x2).bind fun r27=>
              (zJp r25 r26 r27).bind fun r28=>
              (f_z r28.1 r7.1).bind fun r29=>
              cond (!r29) (
               aN aQ) (
               cond (r28.2 != r7.2) (
                aN aQ) (
                (zPF r23.2 1).bind fun r30=>
                cond (decide (r30<0)) (
                 aN aQ) (
                 cond (r30 != r23.1) (
                  aN aQ) (
                  aN aP)))))))))))))))))
end Go.Wk
