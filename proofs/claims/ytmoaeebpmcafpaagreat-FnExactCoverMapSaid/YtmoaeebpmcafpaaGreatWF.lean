/- The program's CoverMap returns what the reference's returns,for all arguments;no conditions. -/
import Derived.Test.YtmoaeebpmcafpaaGreatAbC
open List renaming replicate→J1
open Int renaming fdiv→G8
open Option renaming some→iF,none→iG
open Bool renaming true→iH,false→iI
noncomputable section
namespace Go.Wk
open Go Go.Ab
abbrev iM:=List Int
abbrev iN:=List iM
structure SPr where
 zA:iM
 zV:iN
 zG:List iN
abbrev yH(x:SPr):T:=.agg [(L 1 I) x.zA,(L 1 (L 1 I)) x.zV,(L 1 (L 1 (L 1 I))) x.zG]
instance:Enc yH:=.of fun _=>zOj ⟨Enc.t (f:=(L 1 I)) inferInstance _,Enc.t (f:=(L 1 (L 1 I))) inferInstance _,Enc.t (f:=(L 1 (L 1 (L 1 I)))) inferInstance _,trivial⟩
structure zB where
 Prime:Int
 Dim:Int
 zF:List iN
abbrev zR(x:zB):T:=.agg [I x.Prime,I x.Dim,(L 1 (L 1 (L 1 I))) x.zF]
instance:Enc zR:=.of fun _=>zOj ⟨Enc.t (f:=I) inferInstance _,Enc.t (f:=I) inferInstance _,Enc.t (f:=(L 1 (L 1 (L 1 I)))) inferInstance _,trivial⟩
structure xM where
 Kind:Int
 zZi:Int
 zZk:Int
 zW9:Int
abbrev zHl(x:xM):T:=.agg [I x.Kind,I x.zZi,I x.zZk,I x.zW9]
instance:Enc zHl:=.of fun _=>zOj ⟨Enc.t (f:=I) inferInstance _,Enc.t (f:=I) inferInstance _,Enc.t (f:=I) inferInstance _,Enc.t (f:=I) inferInstance _,trivial⟩
structure zO where
 Prime:Int
 yR:Int
 Rows:iN
abbrev zK(x:zO):T:=.agg [I x.Prime,I x.yR,(L 1 (L 1 I)) x.Rows]
instance:Enc zK:=.of fun _=>zOj ⟨Enc.t (f:=I) inferInstance _,Enc.t (f:=I) inferInstance _,Enc.t (f:=(L 1 (L 1 I))) inferInstance _,trivial⟩
structure zZ where
 p:SPr
 m:zB
 zNU:iN
structure zJ where
 x:iM
 v:iM
abbrev xH(x:zJ):T:=.agg [(L 1 I) x.x,(L 1 I) x.v]
instance:Enc xH:=.of fun _=>zOj ⟨Enc.t (f:=(L 1 I)) inferInstance _,Enc.t (f:=(L 1 I)) inferInstance _,trivial⟩
def zUM(x0:iM)(x1:Int):Option Int:=
 (rng (x1-(x0.length:Int))).bind fun v1=>
 cond (decide (v1<0)) (
  iF (-1)) (
  iF v1)
def zZc(x0:iN)(s1:Int×Int):Option ((Int×Int)⊕(Int⊕Int)):=
 cond (decide (s1.2<(x0.length:Int))) (
  (ixO x0 s1.2).bind fun v2=>
  (zUM v2 s1.1).bind fun r3=>
  cond (decide (r3<0)) (
   iF (.inr (.inr (-1)))) (
   (rng (s1.2+1)).bind fun v4=>
   iF (.inl (r3,v4)))) (
  iF (.inr (.inl s1.1)))
def zUN(x0:iN)(x1:Int):Option Int:=
 (rng (x1-(x0.length:Int))).bind fun v1=>
 cond (decide (v1<0)) (
  iF (-1)) (
  (zI (zZc x0) (v1,0)).bind fun r5=>
  match r5 with
  |(.inl r5)=>
   iF r5
  |(.inr r5)=>
   iF r5)
def zZd(x0:List iN)(s1:Int×Int):Option ((Int×Int)⊕(Int⊕Int)):=
 cond (decide (s1.2<(x0.length:Int))) (
  (ixO x0 s1.2).bind fun v2=>
  (zUN v2 s1.1).bind fun r3=>
  cond (decide (r3<0)) (
   iF (.inr (.inr (-1)))) (
   (rng (s1.2+1)).bind fun v4=>
   iF (.inl (r3,v4)))) (
  iF (.inr (.inl s1.1)))
def zX7(x0:List iN)(x1:Int):Option Int:=
 (rng (x1-(x0.length:Int))).bind fun v1=>
 cond (decide (v1<0)) (
  iF (-1)) (
  (zI (zZd x0) (v1,0)).bind fun r5=>
  match r5 with
  |(.inl r5)=>
   iF r5
  |(.inr r5)=>
   iF r5)
def zX8(x0:SPr)(x1:Int):Option Int:=
 (zUM x0.zA x1).bind fun r1=>
 cond (decide (r1<0)) (
  iF (-1)) (
  (zUN x0.zV r1).bind fun r2=>
  cond (decide (r2<0)) (
   iF (-1)) (
   (zX7 x0.zG r2).bind fun r3=>
   cond (decide (r3<0)) (
    iF (-1)) (
    iF r3)))
def zX9(x0:zB)(x1:Int):Option Int:=
 (zX7 x0.zF x1).bind fun r1=>
 cond (decide (r1<0)) (
  iF (-1)) (
  iF r1)
def zUO(x0:iM)(s1:(iM)×Int):Option ((iM×Int)⊕iM):=
 cond (decide (s1.2<(x0.length:Int))) (
  (ixO x0 s1.2).bind fun v2=>
  (ixO s1.1 s1.2).bind fun _=>
  (rng (s1.2+1)).bind fun v4=>
  iF (.inl (s1.1.set s1.2.toNat v2,v4))) (
  iF (.inr s1.1))
def zRU(x0:iM):Option iM:=
 (xI (x0.length:Int)).bind fun m1=>
 (zI (zUO x0) (J1 m1 (0:Int),0)).bind fun r5=>
 iF r5
def yA5(x0:iN)(s1:(iN)×Int):Option ((iN×Int)⊕iN):=
 cond (decide (s1.2<(x0.length:Int))) (
  (ixO x0 s1.2).bind fun v2=>
  (zRU v2).bind fun r3=>
  (ixO s1.1 s1.2).bind fun _=>
  (rng (s1.2+1)).bind fun v5=>
  iF (.inl (s1.1.set s1.2.toNat r3,v5))) (
  iF (.inr s1.1))
def f_L(x0:iN):Option iN:=
 (xI (x0.length:Int)).bind fun m1=>
 (zI (yA5 x0) (J1 m1 ([]:iM),0)).bind fun r6=>
 iF r6
def zUP(x0:List iN)(s1:(List iN)×Int):Option (((List iN)×Int)⊕(List iN)):=
 cond (decide (s1.2<(x0.length:Int))) (
  (ixO x0 s1.2).bind fun v2=>
  (f_L v2).bind fun r3=>
  (ixO s1.1 s1.2).bind fun _=>
  (rng (s1.2+1)).bind fun v5=>
  iF (.inl (s1.1.set s1.2.toNat r3,v5))) (
  iF (.inr s1.1))
def zUQ(x0:List iN):Option (List iN):=
 (xI (x0.length:Int)).bind fun m1=>
 (zI (zUP x0) (J1 m1 ([]:iN),0)).bind fun r6=>
 iF r6
def zPd(x0:SPr):Option SPr:=
 (zRU x0.zA).bind fun r1=>
 (f_L x0.zV).bind fun r2=>
 (zUQ x0.zG).bind fun r3=>
 iF (SPr.mk r1 r2 r3)
def zPe(x0:zB):Option zB:=
 (zUQ x0.zF).bind fun r1=>
 iF (zB.mk x0.Prime x0.Dim r1)
def zXA(x0:Int):Option Bool:=
 cond (x0==2) (
  iF iH) (
  cond (x0==3) (
   iF iH) (
   cond (x0==5) (
    iF iH) (
    iF (x0==7))))
def zNr(x0:iM)(s1:Int×Int):Option ((Int×Int)⊕Int):=
 cond (decide (s1.2<(x0.length:Int))) (
  cond (decide (s1.1≤729)) (
   (ixO x0 s1.2).bind fun v1=>
   (rng (s1.1*v1)).bind fun v2=>
   (rng (s1.2+1)).bind fun v3=>
   iF (.inl (v2,v3))) (
   (rng (s1.2+1)).bind fun v4=>
   iF (.inl (s1.1,v4)))) (
  iF (.inr s1.1))
def zXB(x0:iM):Option Int:=
 (zI (zNr x0) (1,0)).bind fun r5=>
 iF r5
def zUR(x0:Int)(x1:Int)(x2:Int):Option Bool:=
 cond (decide (x0≥x1)) (
  iF (decide (x0≤x2))) (
  iF iI)
def zQR(x0:iM)(x1:iM)(x2:Int)(s1:Int):Option (Int⊕(Unit⊕Bool)):=
 cond (decide (s1<(x1.length:Int))) (
  (ixO x1 s1).bind fun v1=>
  (ixO x0 s1).bind fun v2=>
  (rng (v2-1)).bind fun v3=>
  (zUR v1 0 v3).bind fun r4=>
  cond (!r4) (
   iF (.inr (.inr iI))) (
   cond (decide (s1≤x2)) (
    (ixO x1 s1).bind fun v5=>
    cond (v5 != 0) (
     iF (.inr (.inr iI))) (
     (rng (s1+1)).bind fun v6=>
     iF (.inl v6))) (
    (rng (s1+1)).bind fun v5=>
    iF (.inl v5)))) (
  iF (.inr (.inl ())))
def zUS(x0:iM)(x1:iM)(x2:Int):Option Bool:=
 cond ((x1.length:Int) != (x0.length:Int)) (
  iF iI) (
  (zI (zQR x0 x1 x2) 0).bind fun r6=>
  match r6 with
  |(.inl _)=>
   iF iH
  |(.inr r6)=>
   iF r6)
def zUT(x0:SPr)(s1:Int):Option (Int⊕(Unit⊕Bool)):=
 cond (decide (s1<(x0.zA.length:Int))) (
  (ixO x0.zA s1).bind fun v1=>
  (zXA v1).bind fun r2=>
  cond (!r2) (
   iF (.inr (.inr iI))) (
   (rng (s1+1)).bind fun v3=>
   iF (.inl v3))) (
  iF (.inr (.inl ())))
def zUU(x0:SPr)(s7:Int)(s8:Int):Option (Int⊕(Unit⊕Bool)):=
 (ixO x0.zG s7).bind fun v11=>
 cond (decide (s8<(v11.length:Int))) (
  (ixO x0.zG s7).bind fun v12=>
  (ixO v12 s8).bind fun v13=>
  (zUS x0.zA v13 s7).bind fun r14=>
  cond (!r14) (
   iF (.inr (.inr iI))) (
   (rng (s8+1)).bind fun v15=>
   iF (.inl v15))) (
  iF (.inr (.inl ())))
def zPf(x0:SPr)(s7:Int):Option (Int⊕(Unit⊕Bool)):=
 cond (decide (s7<(x0.zA.length:Int))) (
  (ixO x0.zV s7).bind fun v6=>
  (zUS x0.zA v6 s7).bind fun r7=>
  cond (!r7) (
   iF (.inr (.inr iI))) (
   (ixO x0.zG s7).bind fun v8=>
   (rng ((x0.zA.length:Int)-1)).bind fun v9=>
   (rng (v9-s7)).bind fun v10=>
   cond ((v8.length:Int) != v10) (
    iF (.inr (.inr iI))) (
    (zI (zUU x0 s7) 0).bind fun r16=>
    match r16 with
    |(.inl _)=>
     (rng (s7+1)).bind fun v17=>
     iF (.inl v17)
    |(.inr r16)=>
     iF (.inr (.inr r16))))) (
  iF (.inr (.inl ())))
def f_B(x0:SPr):Option Bool:=
 cond (decide ((x0.zA.length:Int)> 6)) (
  iF iI) (
  cond ((x0.zV.length:Int) != (x0.zA.length:Int)) (
   iF iI) (
   cond ((x0.zG.length:Int) != (x0.zA.length:Int)) (
    iF iI) (
    (zI (zUT x0) 0).bind fun r4=>
    match r4 with
    |(.inl _)=>
     (zXB x0.zA).bind fun r5=>
     cond (decide (r5> 729)) (
      iF iI) (
      (zI (zPf x0) 0).bind fun r18=>
      match r18 with
      |(.inl _)=>
       iF iH
      |(.inr r18)=>
       iF r18)
    |(.inr r4)=>
     iF r4)))
def f_y(x0:iM):Option iM:=
 (xS [] x0).bind fun v1=>
 iF v1
def zUV(g_a:SPr→Int→iM→iM→Option iM)(x0:SPr)(x1:Int)(x2:iM)(s5:(iM)×Int)(s6:(iM)×Int):Option ((iM×Int)⊕iM):=
 (ixO x2 s5.2).bind fun v3=>
 cond (decide (s6.2<v3)) (
  (rng (x1+1)).bind fun v4=>
  (ixO x0.zG x1).bind fun v5=>
  (rng (s5.2-x1)).bind fun v6=>
  (rng (v6-1)).bind fun v7=>
  (ixO v5 v7).bind fun v8=>
  (g_a x0 v4 s6.1 v8).bind fun r9=>
  (rng (s6.2+1)).bind fun v10=>
  iF (.inl (r9,v10))) (
  iF (.inr s6.1))
def zUW(g_a:SPr→Int→iM→iM→Option iM)(x0:SPr)(x1:Int)(x2:iM)(s5:(iM)×Int):Option ((iM×Int)⊕iM):=
 cond (decide (s5.2<(x0.zA.length:Int))) (
  (zI (zUV g_a x0 x1 x2 s5) (s5.1,0)).bind fun r11=>
  (rng (s5.2+1)).bind fun v12=>
  iF (.inl (r11,v12))) (
  iF (.inr s5.1))
def b_g(g_a:SPr→Int→iM→iM→Option iM)(x0:SPr)(x1:Int)(x2:iM):Option iM:=
 (xI (x0.zA.length:Int)).bind fun m1=>
 (rng (x1+1)).bind fun v2=>
 (zI (zUW g_a x0 x1 x2) (J1 m1 (0:Int),v2)).bind fun r13=>
 iF r13
def zXC(g_g:SPr→Int→iM→Option iM)(x0:SPr)(x1:Int)(x3:iM)(s1:(iM)×Int):Option ((iM×Int)⊕iM):=
 (ixO x3 x1).bind fun v6=>
 cond (decide (s1.2<v6)) (
  (g_g x0 x1 s1.1).bind fun r7=>
  (rng (s1.2+1)).bind fun v8=>
  iF (.inl (r7,v8))) (
  iF (.inr s1.1))
def b_a(g_g:SPr→Int→iM→Option iM)(g_a:SPr→Int→iM→iM→Option iM)(x0:SPr)(x1:Int)(x2:iM)(x3:iM):Option iM:=
 cond (decide (x1≥(x0.zA.length:Int))) (
  (xI (x0.zA.length:Int)).bind fun m1=>
  iF (J1 m1 (0:Int))) (
  (f_y x2).bind fun r2=>
  (f_y x3).bind fun r3=>
  (ixO r2 x1).bind fun _=>
  (ixO r3 x1).bind fun _=>
  (zI (zXC g_g x0 x1 x3) (r2.set x1.toNat 0,0)).bind fun r9=>
  (rng (x1+1)).bind fun v10=>
  (g_a x0 v10 r9 (r3.set x1.toNat 0)).bind fun r11=>
  (ixO x2 x1).bind fun v12=>
  (ixO x3 x1).bind fun v13=>
  (rng (v12+v13)).bind fun v14=>
  (ixO x0.zA x1).bind fun v15=>
  cond (decide (v14≥v15)) (
   (ixO x0.zA x1).bind fun v16=>
   (rng (v14-v16)).bind fun v17=>
   (rng (x1+1)).bind fun v18=>
   (ixO x0.zV x1).bind fun v19=>
   (g_a x0 v18 v19 r11).bind fun r20=>
   (f_y r20).bind fun r21=>
   (ixO r21 x1).bind fun _=>
   iF (r21.set x1.toNat v17)) (
   (f_y r11).bind fun r23=>
   (ixO r23 x1).bind fun _=>
   iF (r23.set x1.toNat v14)))
mutual
def zPg:Nat→SPr→Int→iM→Option iM
 |0=>fun _ _ _=>iG
 |n+1=>b_g (zPh n)
def zPh:Nat→SPr→Int→iM→iM→Option iM
 |0=>fun _ _ _ _=>iG
 |n+1=>b_a (zPg n) (zPh n)
end
def f_g(x0:SPr)(x1:Int)(x2:iM):Option iM:=zDT fun n=>zPg n x0 x1 x2
def f_a(x0:SPr)(x1:Int)(x2:iM)(x3:iM):Option iM:=zDT fun n=>zPh n x0 x1 x2 x3
def zQS(x0:SPr)(x1:Int)(s1:Int×iM×iM):Option ((Int×iM×iM)⊕iM):=
 cond (decide (s1.1> 0)) (
  (tV s1.1 2).bind fun v2=>
  cond (v2==1) (
   (f_a x0 x1 s1.2.1 s1.2.2).bind fun r3=>
   (f_a x0 x1 s1.2.2 s1.2.2).bind fun r4=>
   (sK s1.1 2).bind fun v5=>
   iF (.inl (v5,r3,r4))) (
   (f_a x0 x1 s1.2.2 s1.2.2).bind fun r6=>
   (sK s1.1 2).bind fun v7=>
   iF (.inl (v7,s1.2.1,r6)))) (
  iF (.inr s1.2.1))
def zXD(x0:SPr)(x1:Int)(x2:iM)(x3:Int):Option iM:=
 (xI (x0.zA.length:Int)).bind fun m1=>
 (zI (zQS x0 x1) (x3,J1 m1 (0:Int),x2)).bind fun r8=>
 iF r8
def zZe(x0:iM)(x1:iM)(s1:Int):Option (Int⊕(Unit⊕Bool)):=
 cond (decide (s1<(x0.length:Int))) (
  (ixO x0 s1).bind fun v1=>
  (ixO x1 s1).bind fun v2=>
  cond (v1 != v2) (
   iF (.inr (.inr iI))) (
   (rng (s1+1)).bind fun v3=>
   iF (.inl v3))) (
  iF (.inr (.inl ())))
def zLy(x0:iM)(x1:iM):Option Bool:=
 cond ((x0.length:Int) != (x1.length:Int)) (
  iF iI) (
  (zI (zZe x0 x1) 0).bind fun r4=>
  match r4 with
  |(.inl _)=>
   iF iH
  |(.inr r4)=>
   iF r4)
def yA6(x0:Int)(x1:Int):Option iM:=
 (xI x0).bind fun m1=>
 (ixO (J1 m1 (0:Int)) x1).bind fun _=>
 iF ((J1 m1 (0:Int)).set x1.toNat 1)
def zUX(x0:SPr)(x1:Int)(s1:Int):Option (Int⊕(Unit⊕xM)):=
 cond (decide (s1<(x0.zA.length:Int))) (
  (rng (x1+1)).bind fun v2=>
  (ixO x0.zG x1).bind fun v3=>
  (rng (s1-x1)).bind fun v4=>
  (rng (v4-1)).bind fun v5=>
  (ixO v3 v5).bind fun v6=>
  (ixO x0.zA s1).bind fun v7=>
  (zXD x0 v2 v6 v7).bind fun r8=>
  (ixO x0.zV s1).bind fun v9=>
  (f_g x0 x1 v9).bind fun r10=>
  (zLy r8 r10).bind fun r11=>
  cond (!r11) (
   iF (.inr (.inr (xM.mk 1 x1 s1 0)))) (
   (rng (s1+1)).bind fun v12=>
   iF (.inl v12))) (
  iF (.inr (.inl ())))
def zUY(x0:SPr)(x1:Int)(s7:Int)(s8:Int):Option (Int⊕(Unit⊕xM)):=
 cond (decide (s8<(x0.zA.length:Int))) (
  (ixO x0.zG x1).bind fun v16=>
  (rng (s7-x1)).bind fun v17=>
  (rng (v17-1)).bind fun v18=>
  (ixO v16 v18).bind fun v19=>
  (ixO x0.zG x1).bind fun v20=>
  (rng (s8-x1)).bind fun v21=>
  (rng (v21-1)).bind fun v22=>
  (ixO v20 v22).bind fun v23=>
  (ixO x0.zG s7).bind fun v24=>
  (rng (s8-s7)).bind fun v25=>
  (rng (v25-1)).bind fun v26=>
  (ixO v24 v26).bind fun v27=>
  (f_g x0 x1 v27).bind fun r28=>
  (rng (x1+1)).bind fun v29=>
  (f_a x0 v29 v23 v19).bind fun r30=>
  (rng (x1+1)).bind fun v31=>
  (f_a x0 v31 v19 r28).bind fun r32=>
  (zLy r30 r32).bind fun r33=>
  cond (!r33) (
   iF (.inr (.inr (xM.mk 2 x1 s7 s8)))) (
   (rng (s8+1)).bind fun v34=>
   iF (.inl v34))) (
  iF (.inr (.inl ())))
def zUZ(x0:SPr)(x1:Int)(s7:Int):Option (Int⊕(Unit⊕xM)):=
 cond (decide (s7<(x0.zA.length:Int))) (
  (rng (s7+1)).bind fun v15=>
  (zI (zUY x0 x1 s7) v15).bind fun r35=>
  match r35 with
  |(.inl _)=>
   (rng (s7+1)).bind fun v36=>
   iF (.inl v36)
  |(.inr r35)=>
   iF (.inr (.inr r35))) (
  iF (.inr (.inl ())))
def zVa(x0:SPr)(x1:Int)(s16:(iM)×Int):Option ((iM×Int)⊕iM):=
 (ixO x0.zA x1).bind fun v43=>
 cond (decide (s16.2<v43)) (
  (f_g x0 x1 s16.1).bind fun r44=>
  (rng (s16.2+1)).bind fun v45=>
  iF (.inl (r44,v45))) (
  iF (.inr s16.1))
def zVb(x0:SPr)(x1:Int)(v38:iM)(s15:Int):Option (Int⊕(Unit⊕xM)):=
 cond (decide (s15<(x0.zA.length:Int))) (
  (yA6 (x0.zA.length:Int) s15).bind fun r42=>
  (zI (zVa x0 x1) (r42,0)).bind fun r46=>
  (rng (x1+1)).bind fun v47=>
  (f_a x0 v47 v38 r46).bind fun r48=>
  (rng (x1+1)).bind fun v49=>
  (f_a x0 v49 r42 v38).bind fun r50=>
  (zLy r48 r50).bind fun r51=>
  cond (!r51) (
   iF (.inr (.inr (xM.mk 4 x1 s15 0)))) (
   (rng (s15+1)).bind fun v52=>
   iF (.inl v52))) (
  iF (.inr (.inl ())))
def f_p(x0:SPr)(x1:Int):Option xM:=
 (rng (x1+1)).bind fun v1=>
 (zI (zUX x0 x1) v1).bind fun r13=>
 match r13 with
 |(.inl _)=>
  (rng (x1+1)).bind fun v14=>
  (zI (zUZ x0 x1) v14).bind fun r37=>
  match r37 with
  |(.inl _)=>
   (ixO x0.zV x1).bind fun v38=>
   (f_g x0 x1 v38).bind fun r39=>
   (zLy r39 v38).bind fun r40=>
   cond (!r40) (
    iF (xM.mk 3 x1 0 0)) (
    (rng (x1+1)).bind fun v41=>
    (zI (zVb x0 x1 v38) v41).bind fun r53=>
    match r53 with
    |(.inl _)=>
     iF (xM.mk 0 0 0 0)
    |(.inr r53)=>
     iF r53)
  |(.inr r37)=>
   iF r37
 |(.inr r13)=>
  iF r13
def zNs(x0:SPr)(s1:Int):Option (Int⊕(Unit⊕xM)):=
 cond (decide (s1≥0)) (
  (f_p x0 s1).bind fun r2=>
  cond (r2.Kind != 0) (
   iF (.inr (.inr r2))) (
   (rng (s1-1)).bind fun v3=>
   iF (.inl v3))) (
  iF (.inr (.inl ())))
def yA7(x0:SPr):Option xM:=
 (rng ((x0.zA.length:Int)-1)).bind fun v1=>
 (zI (zNs x0) v1).bind fun r4=>
 match r4 with
 |(.inl _)=>
  iF (xM.mk 0 0 0 0)
 |(.inr r4)=>
  iF r4
def yA8(x0:SPr):Option Bool:=
 (yA7 x0).bind fun r1=>
 iF (r1.Kind==0)
def zVc(x0:SPr):Option Bool:=
 (f_B x0).bind fun r1=>
 cond r1 (
  (yA8 x0).bind fun r2=>
  iF r2) (
  iF iI)
def zQT(x0:Int)(x2:iM)(s1:Int):Option (Int⊕(Unit⊕Bool)):=
 cond (decide (s1<(x2.length:Int))) (
  (ixO x2 s1).bind fun v1=>
  (rng (x0-1)).bind fun v2=>
  (zUR v1 0 v2).bind fun r3=>
  cond (!r3) (
   iF (.inr (.inr iI))) (
   (rng (s1+1)).bind fun v4=>
   iF (.inl v4))) (
  iF (.inr (.inl ())))
def zVd(x0:Int)(x1:Int)(x2:iM):Option Bool:=
 cond ((x2.length:Int) != x1) (
  iF iI) (
  (zI (zQT x0 x2) 0).bind fun r5=>
  match r5 with
  |(.inl _)=>
   iF iH
  |(.inr r5)=>
   iF r5)
def zQU(x0:Int)(x1:Int)(x2:iN)(s1:Int):Option (Int⊕(Unit⊕Bool)):=
 cond (decide (s1<(x2.length:Int))) (
  (ixO x2 s1).bind fun v1=>
  (zVd x0 x1 v1).bind fun r2=>
  cond (!r2) (
   iF (.inr (.inr iI))) (
   (rng (s1+1)).bind fun v3=>
   iF (.inl v3))) (
  iF (.inr (.inl ())))
def zXE(x0:Int)(x1:Int)(x2:iN):Option Bool:=
 cond ((x2.length:Int) != x1) (
  iF iI) (
  (zI (zQU x0 x1 x2) 0).bind fun r4=>
  match r4 with
  |(.inl _)=>
   iF iH
  |(.inr r4)=>
   iF r4)
def zIW(x0:Int)(s1:(iN)×Int):Option ((iN×Int)⊕iN):=
 cond (decide (s1.2<x0)) (
  (xI x0).bind fun m1=>
  (ixO (J1 m1 (0:Int)) s1.2).bind fun _=>
  (xS s1.1 [(J1 m1 (0:Int)).set s1.2.toNat 1]).bind fun v3=>
  (rng (s1.2+1)).bind fun v4=>
  iF (.inl (v3,v4))) (
  iF (.inr s1.1))
def f_C(x0:Int):Option iN:=
 (zI (zIW x0) ([],0)).bind fun r5=>
 iF r5
def zVe(x0:Int)(x1:iM)(x2:iN)(s5:(iM)×Int)(s6:(iM)×Int):Option ((iM×Int)⊕iM):=
 cond (decide (s6.2<(s6.1.length:Int))) (
  (ixO x2 s5.2).bind fun v2=>
  cond (decide (s6.2<(v2.length:Int))) (
   (ixO s6.1 s6.2).bind fun v3=>
   (ixO x1 s5.2).bind fun v4=>
   (ixO x2 s5.2).bind fun v5=>
   (ixO v5 s6.2).bind fun v6=>
   (rng (v4*v6)).bind fun v7=>
   (rng (v3+v7)).bind fun v8=>
   (tV v8 x0).bind fun v9=>
   (ixO s6.1 s6.2).bind fun _=>
   (rng (s6.2+1)).bind fun v11=>
   iF (.inl (s6.1.set s6.2.toNat v9,v11))) (
   iF (.inr s6.1))) (
  iF (.inr s6.1))
def zVf(x0:Int)(x1:iM)(x2:iN)(s5:(iM)×Int):Option ((iM×Int)⊕iM):=
 cond (decide (s5.2<(x1.length:Int))) (
  cond (decide (s5.2<(x2.length:Int))) (
   (zI (zVe x0 x1 x2 s5) (s5.1,0)).bind fun r12=>
   (rng (s5.2+1)).bind fun v13=>
   iF (.inl (r12,v13))) (
   iF (.inr s5.1))) (
  iF (.inr s5.1))
def f_M(x0:Int)(x1:iM)(x2:iN)(x3:Int):Option iM:=
 (xI x3).bind fun m1=>
 (zI (zVf x0 x1 x2) (J1 m1 (0:Int),0)).bind fun r14=>
 iF r14
def zNt(x0:Int)(x1:iN)(x2:iN)(x3:Int)(s1:(iN)×Int):Option ((iN×Int)⊕iN):=
 cond (decide (s1.2<(x1.length:Int))) (
  (ixO x1 s1.2).bind fun v1=>
  (f_M x0 v1 x2 x3).bind fun r2=>
  (xS s1.1 [r2]).bind fun v3=>
  (rng (s1.2+1)).bind fun v4=>
  iF (.inl (v3,v4))) (
  iF (.inr s1.1))
def zPi(x0:Int)(x1:iN)(x2:iN)(x3:Int):Option iN:=
 (zI (zNt x0 x1 x2 x3) ([],0)).bind fun r5=>
 iF r5
def zVg(x0:zB)(x1:iM)(s5:(iN)×Int)(s6:(iN)×Int):Option ((iN×Int)⊕iN):=
 (ixO x1 s5.2).bind fun v2=>
 cond (decide (s6.2<v2)) (
  (ixO x0.zF s5.2).bind fun v3=>
  (zPi x0.Prime s6.1 v3 x0.Dim).bind fun r4=>
  (rng (s6.2+1)).bind fun v5=>
  iF (.inl (r4,v5))) (
  iF (.inr s6.1))
def zVh(x0:zB)(x1:iM)(s5:(iN)×Int):Option ((iN×Int)⊕iN):=
 cond (decide (s5.2<(x1.length:Int))) (
  (zI (zVg x0 x1 s5) (s5.1,0)).bind fun r6=>
  (rng (s5.2+1)).bind fun v7=>
  iF (.inl (r6,v7))) (
  iF (.inr s5.1))
def f_R(x0:zB)(x1:iM):Option iN:=
 (f_C x0.Dim).bind fun r1=>
 (zI (zVh x0 x1) (r1,0)).bind fun r8=>
 iF r8
def zVi(x0:iN)(x1:iN)(s1:Int):Option (Int⊕(Unit⊕Bool)):=
 cond (decide (s1<(x0.length:Int))) (
  (ixO x0 s1).bind fun v1=>
  (ixO x1 s1).bind fun v2=>
  (zLy v1 v2).bind fun r3=>
  cond (!r3) (
   iF (.inr (.inr iI))) (
   (rng (s1+1)).bind fun v4=>
   iF (.inl v4))) (
  iF (.inr (.inl ())))
def zVj(x0:iN)(x1:iN):Option Bool:=
 cond ((x0.length:Int) != (x1.length:Int)) (
  iF iI) (
  (zI (zVi x0 x1) 0).bind fun r5=>
  match r5 with
  |(.inl _)=>
   iF iH
  |(.inr r5)=>
   iF r5)
def zVk(x0:SPr)(x1:zB)(s1:Int):Option (Int⊕(Unit⊕Bool)):=
 cond (decide (s1<(x0.zA.length:Int))) (
  (ixO x1.zF s1).bind fun v3=>
  (zXE x1.Prime x1.Dim v3).bind fun r4=>
  cond (!r4) (
   iF (.inr (.inr iI))) (
   (rng (s1+1)).bind fun v5=>
   iF (.inl v5))) (
  iF (.inr (.inl ())))
def zVl(x0:SPr)(x1:zB)(s11:Int)(s12:(iN)×Int):Option ((iN×Int)⊕iN):=
 (ixO x0.zA s11).bind fun v8=>
 cond (decide (s12.2<v8)) (
  (ixO x1.zF s11).bind fun v9=>
  (zPi x1.Prime s12.1 v9 x1.Dim).bind fun r10=>
  (rng (s12.2+1)).bind fun v11=>
  iF (.inl (r10,v11))) (
  iF (.inr s12.1))
def zVm(x0:SPr)(x1:zB)(s11:Int)(s14:Int):Option (Int⊕(Unit⊕Bool)):=
 cond (decide (s14<(x0.zA.length:Int))) (
  (ixO x1.zF s14).bind fun v17=>
  (ixO x1.zF s11).bind fun v18=>
  (zPi x1.Prime v17 v18 x1.Dim).bind fun r19=>
  (ixO x1.zF s11).bind fun v20=>
  (ixO x0.zG s11).bind fun v21=>
  (rng (s14-s11)).bind fun v22=>
  (rng (v22-1)).bind fun v23=>
  (ixO v21 v23).bind fun v24=>
  (f_R x1 v24).bind fun r25=>
  (zPi x1.Prime v20 r25 x1.Dim).bind fun r26=>
  (zVj r19 r26).bind fun r27=>
  cond (!r27) (
   iF (.inr (.inr iI))) (
   (rng (s14+1)).bind fun v28=>
   iF (.inl v28))) (
  iF (.inr (.inl ())))
def zVn(x0:SPr)(x1:zB)(s11:Int):Option (Int⊕(Unit⊕Bool)):=
 cond (decide (s11<(x0.zA.length:Int))) (
  (f_C x1.Dim).bind fun r7=>
  (zI (zVl x0 x1 s11) (r7,0)).bind fun r12=>
  (ixO x0.zV s11).bind fun v13=>
  (f_R x1 v13).bind fun r14=>
  (zVj r12 r14).bind fun r15=>
  cond (!r15) (
   iF (.inr (.inr iI))) (
   (rng (s11+1)).bind fun v16=>
   (zI (zVm x0 x1 s11) v16).bind fun r29=>
   match r29 with
   |(.inl _)=>
    (rng (s11+1)).bind fun v30=>
    iF (.inl v30)
   |(.inr r29)=>
    iF (.inr (.inr r29)))) (
  iF (.inr (.inl ())))
def f_w(x0:SPr)(x1:zB):Option Bool:=
 (zXA x1.Prime).bind fun r1=>
 cond (!r1) (
  iF iI) (
  (zUR x1.Dim 1 3).bind fun r2=>
  cond (!r2) (
   iF iI) (
   cond ((x1.zF.length:Int) != (x0.zA.length:Int)) (
    iF iI) (
    (zI (zVk x0 x1) 0).bind fun r6=>
    match r6 with
    |(.inl _)=>
     (zI (zVn x0 x1) 0).bind fun r31=>
     match r31 with
     |(.inl _)=>
      iF iH
     |(.inr r31)=>
      iF r31
    |(.inr r6)=>
     iF r6)))
def zXF(x0:SPr)(x1:zB):Option Bool:=
 (zVc x0).bind fun r1=>
 cond r1 (
  (f_w x0 x1).bind fun r2=>
  iF r2) (
  iF iI)
def zRV(x0:Int):Option Bool:=
 cond (x0==2) (
  iF iH) (
  cond (x0==3) (
   iF iH) (
   cond (x0==5) (
    iF iH) (
    iF (x0==7))))
def zPj(x0:Int)(x1:Int)(x2:Int):Option Bool:=
 cond (decide (x0≥x1)) (
  iF (decide (x0≤x2))) (
  iF iI)
def zQV(x0:SPr)(x1:iM)(s1:Int):Option (Int⊕(Unit⊕Bool)):=
 cond (decide (s1<(x1.length:Int))) (
  (ixO x1 s1).bind fun v1=>
  (ixO x0.zA s1).bind fun v2=>
  (rng (v2-1)).bind fun v3=>
  (zPj v1 0 v3).bind fun r4=>
  cond (!r4) (
   iF (.inr (.inr iI))) (
   (rng (s1+1)).bind fun v5=>
   iF (.inl v5))) (
  iF (.inr (.inl ())))
def zXG(x0:SPr)(x1:iM):Option Bool:=
 cond ((x1.length:Int) != (x0.zA.length:Int)) (
  iF iI) (
  (zI (zQV x0 x1) 0).bind fun r6=>
  match r6 with
  |(.inl _)=>
   iF iH
  |(.inr r6)=>
   iF r6)
def zNu(x0:iM)(s1:Int):Option (Int⊕(Unit⊕Bool)):=
 cond (decide (s1<(x0.length:Int))) (
  (ixO x0 s1).bind fun v1=>
  cond (v1 != 0) (
   iF (.inr (.inr iI))) (
   (rng (s1+1)).bind fun v2=>
   iF (.inl v2))) (
  iF (.inr (.inl ())))
def f_U(x0:iM):Option Bool:=
 (zI (zNu x0) 0).bind fun r3=>
 match r3 with
 |(.inl _)=>
  iF iH
 |(.inr r3)=>
  iF r3
def zVo(x0:SPr)(x1:Int)(x2:iM):Option Bool:=
 (zXG x0 x2).bind fun r1=>
 cond r1 (
  (rng (x1+1)).bind fun v2=>
  (yD x2 0 v2).bind fun v3=>
  (f_U v3).bind fun r4=>
  iF r4) (
  iF iI)
def zPk(x0:SPr)(s1:Int×Int):Option ((Int×Int)⊕(Unit⊕Bool)):=
 cond (decide (s1.2<(x0.zA.length:Int))) (
  (ixO x0.zA s1.2).bind fun v1=>
  (zRV v1).bind fun r2=>
  cond (!r2) (
   iF (.inr (.inr iI))) (
   (rng (s1.1*v1)).bind fun v3=>
   cond (decide (v3> 729)) (
    iF (.inr (.inr iI))) (
    (rng (s1.1*v1)).bind fun v4=>
    (rng (s1.2+1)).bind fun v5=>
    iF (.inl (v4,v5))))) (
  iF (.inr (.inl ())))
def zVp(x0:SPr)(s7:Int)(v12:iN)(s8:Int):Option (Int⊕(Unit⊕Bool)):=
 cond (decide (s8<(v12.length:Int))) (
  (ixO v12 s8).bind fun v13=>
  (zVo x0 s7 v13).bind fun r14=>
  cond (!r14) (
   iF (.inr (.inr iI))) (
   (rng (s8+1)).bind fun v15=>
   iF (.inl v15))) (
  iF (.inr (.inl ())))
def zPl(x0:SPr)(s7:Int):Option (Int⊕(Unit⊕Bool)):=
 cond (decide (s7<(x0.zA.length:Int))) (
  (ixO x0.zV s7).bind fun v7=>
  (zVo x0 s7 v7).bind fun r8=>
  cond (!r8) (
   iF (.inr (.inr iI))) (
   (ixO x0.zG s7).bind fun v9=>
   (rng ((x0.zA.length:Int)-1)).bind fun v10=>
   (rng (v10-s7)).bind fun v11=>
   cond ((v9.length:Int) != v11) (
    iF (.inr (.inr iI))) (
    (ixO x0.zG s7).bind fun v12=>
    (zI (zVp x0 s7 v12) 0).bind fun r16=>
    match r16 with
    |(.inl _)=>
     (rng (s7+1)).bind fun v17=>
     iF (.inl v17)
    |(.inr r16)=>
     iF (.inr (.inr r16))))) (
  iF (.inr (.inl ())))
def f_x(x0:SPr):Option Bool:=
 cond (decide ((x0.zA.length:Int)> 6)) (
  iF iI) (
  cond ((x0.zV.length:Int) != (x0.zA.length:Int)) (
   iF iI) (
   cond ((x0.zG.length:Int) != (x0.zA.length:Int)) (
    iF iI) (
    (zI (zPk x0) (1,0)).bind fun r6=>
    match r6 with
    |(.inl _)=>
     (zI (zPl x0) 0).bind fun r18=>
     match r18 with
     |(.inl _)=>
      iF iH
     |(.inr r18)=>
      iF r18
    |(.inr r6)=>
     iF r6)))
def f_F(x0:iM):Option iM:=
 (xS [] x0).bind fun v2=>
 iF v2
def zVq(x2:Int)(r3:(iM))(s1:(iM)×Int):Option ((iM×Int)⊕iM):=
 cond (decide (s1.2<(r3.length:Int))) (
  (rng (x2+1)).bind fun v4=>
  (rng (v4+s1.2)).bind fun v5=>
  (ixO s1.1 v5).bind fun _=>
  (rng (s1.2+1)).bind fun v7=>
  iF (.inl (s1.1.set v5.toNat 0,v7))) (
  iF (.inr s1.1))
def yA9(g_c:SPr→iM→iM→Option iM)(x0:SPr)(x2:Int)(s7:(iM)×Int)(v17:Int)(s8:(iM)×Int):Option ((iM×Int)⊕iM):=
 cond (decide (s8.2<v17)) (
  (ixO x0.zG x2).bind fun v18=>
  (ixO v18 s7.2).bind fun v19=>
  (g_c x0 s8.1 v19).bind fun r20=>
  (rng (s8.2+1)).bind fun v21=>
  iF (.inl (r20,v21))) (
  iF (.inr s8.1))
def yAA(g_c:SPr→iM→iM→Option iM)(x0:SPr)(x2:Int)(r3:(iM))(s7:(iM)×Int):Option ((iM×Int)⊕iM):=
 cond (decide (s7.2<(r3.length:Int))) (
  (ixO r3 s7.2).bind fun v17=>
  (zI (yA9 g_c x0 x2 s7 v17) (s7.1,0)).bind fun r22=>
  (rng (s7.2+1)).bind fun v23=>
  iF (.inl (r22,v23))) (
  iF (.inr s7.1))
def yAB(g_c:SPr→iM→iM→Option iM)(x0:SPr)(x2:Int)(s15:(iM)×Int)(v25:Int)(s16:(iM)×Int):Option ((iM×Int)⊕iM):=
 cond (decide (s16.2<v25)) (
  (ixO x0.zG x2).bind fun v26=>
  (ixO v26 s15.2).bind fun v27=>
  (g_c x0 s16.1 v27).bind fun r28=>
  (rng (s16.2+1)).bind fun v29=>
  iF (.inl (r28,v29))) (
  iF (.inr s16.1))
def yAC(g_c:SPr→iM→iM→Option iM)(x0:SPr)(x2:Int)(r3:(iM))(s15:(iM)×Int):Option ((iM×Int)⊕iM):=
 cond (decide (s15.2<(r3.length:Int))) (
  (ixO r3 s15.2).bind fun v25=>
  (zI (yAB g_c x0 x2 s15 v25) (s15.1,0)).bind fun r30=>
  (rng (s15.2+1)).bind fun v31=>
  iF (.inl (r30,v31))) (
  iF (.inr s15.1))
def b_b(g_c:SPr→iM→iM→Option iM)(x0:SPr)(x1:iM)(x2:Int):Option iM:=
 (rng (x2+1)).bind fun v1=>
 (yD x1 v1 x1.length).bind fun v2=>
 (f_F v2).bind fun r3=>
 (zI (zVq x2 r3) (x1,0)).bind fun r8=>
 (ixO r8 x2).bind fun v9=>
 (rng (v9+1)).bind fun v10=>
 (ixO r8 x2).bind fun _=>
 (ixO (r8.set x2.toNat v10) x2).bind fun v12=>
 (ixO x0.zA x2).bind fun v13=>
 cond (v12==v13) (
  (ixO (r8.set x2.toNat v10) x2).bind fun _=>
  (ixO x0.zV x2).bind fun v15=>
  (g_c x0 ((r8.set x2.toNat v10).set x2.toNat 0) v15).bind fun r16=>
  (zI (yAA g_c x0 x2 r3) (r16,0)).bind fun r24=>
  iF r24) (
  (zI (yAC g_c x0 x2 r3) (r8.set x2.toNat v10,0)).bind fun r32=>
  iF r32)
def zVr(g_b:SPr→iM→Int→Option iM)(x0:SPr)(s5:(iM)×Int)(v1:Int)(s6:(iM)×Int):Option ((iM×Int)⊕iM):=
 cond (decide (s6.2<v1)) (
  (g_b x0 s6.1 s5.2).bind fun r2=>
  (rng (s6.2+1)).bind fun v3=>
  iF (.inl (r2,v3))) (
  iF (.inr s6.1))
def zVs(g_b:SPr→iM→Int→Option iM)(x0:SPr)(x2:iM)(s5:(iM)×Int):Option ((iM×Int)⊕iM):=
 cond (decide (s5.2<(x2.length:Int))) (
  (ixO x2 s5.2).bind fun v1=>
  (zI (zVr g_b x0 s5 v1) (s5.1,0)).bind fun r4=>
  (rng (s5.2+1)).bind fun v5=>
  iF (.inl (r4,v5))) (
  iF (.inr s5.1))
def b_c(g_b:SPr→iM→Int→Option iM)(x0:SPr)(x1:iM)(x2:iM):Option iM:=
 (zI (zVs g_b x0 x2) (x1,0)).bind fun r6=>
 iF r6
mutual
def zVt:Nat→SPr→iM→Int→Option iM
 |0=>fun _ _ _=>iG
 |n+1=>b_b (zRW n)
def zRW:Nat→SPr→iM→iM→Option iM
 |0=>fun _ _ _=>iG
 |n+1=>b_c (zVt n)
end
def f_b(x0:SPr)(x1:iM)(x2:Int):Option iM:=zDT fun n=>zVt n x0 x1 x2
def f_c(x0:SPr)(x1:iM)(x2:iM):Option iM:=zDT fun n=>zRW n x0 x1 x2
def zNv(x0:SPr)(x1:iM)(x2:Int)(s1:(iM)×Int):Option ((iM×Int)⊕iM):=
 cond (decide (s1.2<x2)) (
  (f_c x0 s1.1 x1).bind fun r2=>
  (rng (s1.2+1)).bind fun v3=>
  iF (.inl (r2,v3))) (
  iF (.inr s1.1))
def zXH(x0:SPr)(x1:iM)(x2:Int):Option iM:=
 (xI (x1.length:Int)).bind fun m1=>
 (zI (zNv x0 x1 x2) (J1 m1 (0:Int),0)).bind fun r4=>
 iF r4
def zVu(x0:SPr)(v3:iM)(v6:Int)(s6:(iM)×Int):Option ((iM×Int)⊕iM):=
 cond (decide (s6.2<v6)) (
  (f_c x0 s6.1 v3).bind fun r7=>
  (rng (s6.2+1)).bind fun v8=>
  iF (.inl (r7,v8))) (
  iF (.inr s6.1))
def zVv(x0:SPr)(x1:Int)(x2:iM)(v2:iN)(s5:(iM)×Int):Option ((iM×Int)⊕iM):=
 cond (decide (s5.2<(v2.length:Int))) (
  (ixO v2 s5.2).bind fun v3=>
  (rng (x1+1)).bind fun v4=>
  (rng (v4+s5.2)).bind fun v5=>
  (ixO x2 v5).bind fun v6=>
  (zI (zVu x0 v3 v6) (s5.1,0)).bind fun r9=>
  (rng (s5.2+1)).bind fun v10=>
  iF (.inl (r9,v10))) (
  iF (.inr s5.1))
def f_J(x0:SPr)(x1:Int)(x2:iM):Option iM:=
 (xI (x2.length:Int)).bind fun m1=>
 (ixO x0.zG x1).bind fun v2=>
 (zI (zVv x0 x1 x2 v2) (J1 m1 (0:Int),0)).bind fun r11=>
 iF r11
def zVw(x0:iM)(x1:iM)(s1:Int):Option (Int⊕(Unit⊕Bool)):=
 cond (decide (s1<(x0.length:Int))) (
  (ixO x0 s1).bind fun v1=>
  (ixO x1 s1).bind fun v2=>
  cond (v1 != v2) (
   iF (.inr (.inr iI))) (
   (rng (s1+1)).bind fun v3=>
   iF (.inl v3))) (
  iF (.inr (.inl ())))
def zLz(x0:iM)(x1:iM):Option Bool:=
 cond ((x0.length:Int) != (x1.length:Int)) (
  iF iI) (
  (zI (zVw x0 x1) 0).bind fun r4=>
  match r4 with
  |(.inl _)=>
   iF iH
  |(.inr r4)=>
   iF r4)
def zRX(x0:SPr)(s5:(iM)×iM×Int)(s6:(iM)×iM):Option ((iM×iM)⊕(iM×iM)):=
 (ixO s6.1 s5.2.2).bind fun v3=>
 cond (v3 != 0) (
  (f_b x0 s6.1 s5.2.2).bind fun r4=>
  (f_b x0 s6.2 s5.2.2).bind fun r5=>
  iF (.inl (r4,r5))) (
  iF (.inr (s6.1,s6.2)))
def zVx(x0:SPr)(r1:(iM))(s5:(iM)×iM×Int):Option ((iM×iM×Int)⊕iM):=
 cond (decide (s5.2.2<(r1.length:Int))) (
  (zI (zRX x0 s5) (s5.1,s5.2.1)).bind fun r6=>
  (rng (s5.2.2+1)).bind fun v7=>
  iF (.inl (r6.1,r6.2,v7))) (
  iF (.inr s5.2.1))
def f_Q(x0:SPr)(x1:iM):Option iM:=
 (f_F x1).bind fun r1=>
 (xI (x1.length:Int)).bind fun m2=>
 (zI (zVx x0 r1) (r1,J1 m2 (0:Int),0)).bind fun r8=>
 iF r8
def zVy(x0:SPr)(x1:iM)(x2:iM):Option iM:=
 (f_F x1).bind fun r1=>
 (f_c x0 r1 x2).bind fun r2=>
 iF r2
def zVz(x0:SPr)(x1:iM)(x2:iM):Option iM:=
 (f_Q x0 x2).bind fun r1=>
 (zVy x0 x1 x2).bind fun r2=>
 (zVy x0 r1 r2).bind fun r3=>
 iF r3
def zL0(x0:Int)(x1:Int):Option iM:=
 (xI x0).bind fun m1=>
 (ixO (J1 m1 (0:Int)) x1).bind fun _=>
 iF ((J1 m1 (0:Int)).set x1.toNat 1)
def zV0(x0:SPr)(x1:Int)(s1:Int):Option (Int⊕(Unit⊕xM)):=
 cond (decide (s1<(x0.zA.length:Int))) (
  (ixO x0.zG x1).bind fun v2=>
  (rng (s1-x1)).bind fun v3=>
  (rng (v3-1)).bind fun v4=>
  (ixO v2 v4).bind fun v5=>
  (ixO x0.zA s1).bind fun v6=>
  (zXH x0 v5 v6).bind fun r7=>
  (ixO x0.zV s1).bind fun v8=>
  (f_J x0 x1 v8).bind fun r9=>
  (zLz r7 r9).bind fun r10=>
  cond (!r10) (
   iF (.inr (.inr (xM.mk 1 x1 s1 0)))) (
   (rng (s1+1)).bind fun v11=>
   iF (.inl v11))) (
  iF (.inr (.inl ())))
def zV1(x0:SPr)(x1:Int)(s7:Int)(s8:Int):Option (Int⊕(Unit⊕xM)):=
 cond (decide (s8<(x0.zA.length:Int))) (
  (ixO x0.zG x1).bind fun v15=>
  (rng (s8-x1)).bind fun v16=>
  (rng (v16-1)).bind fun v17=>
  (ixO v15 v17).bind fun v18=>
  (ixO x0.zG x1).bind fun v19=>
  (rng (s7-x1)).bind fun v20=>
  (rng (v20-1)).bind fun v21=>
  (ixO v19 v21).bind fun v22=>
  (zVz x0 v18 v22).bind fun r23=>
  (ixO x0.zG s7).bind fun v24=>
  (rng (s8-s7)).bind fun v25=>
  (rng (v25-1)).bind fun v26=>
  (ixO v24 v26).bind fun v27=>
  (f_J x0 x1 v27).bind fun r28=>
  (zLz r23 r28).bind fun r29=>
  cond (!r29) (
   iF (.inr (.inr (xM.mk 2 x1 s7 s8)))) (
   (rng (s8+1)).bind fun v30=>
   iF (.inl v30))) (
  iF (.inr (.inl ())))
def zV2(x0:SPr)(x1:Int)(s7:Int):Option (Int⊕(Unit⊕xM)):=
 cond (decide (s7<(x0.zA.length:Int))) (
  (rng (s7+1)).bind fun v14=>
  (zI (zV1 x0 x1 s7) v14).bind fun r31=>
  match r31 with
  |(.inl _)=>
   (rng (s7+1)).bind fun v32=>
   iF (.inl v32)
  |(.inr r31)=>
   iF (.inr (.inr r31))) (
  iF (.inr (.inl ())))
def zV3(x0:SPr)(x1:Int)(v39:Int)(s16:(iM)×Int):Option ((iM×Int)⊕iM):=
 cond (decide (s16.2<v39)) (
  (f_J x0 x1 s16.1).bind fun r40=>
  (rng (s16.2+1)).bind fun v41=>
  iF (.inl (r40,v41))) (
  iF (.inr s16.1))
def zV4(x0:SPr)(x1:Int)(v34:iM)(s15:Int):Option (Int⊕(Unit⊕xM)):=
 cond (decide (s15<(x0.zA.length:Int))) (
  (zL0 (x0.zA.length:Int) s15).bind fun r38=>
  (ixO x0.zA x1).bind fun v39=>
  (zI (zV3 x0 x1 v39) (r38,0)).bind fun r42=>
  (zL0 (x0.zA.length:Int) s15).bind fun r43=>
  (zVz x0 r43 v34).bind fun r44=>
  (zLz r42 r44).bind fun r45=>
  cond (!r45) (
   iF (.inr (.inr (xM.mk 4 x1 s15 0)))) (
   (rng (s15+1)).bind fun v46=>
   iF (.inl v46))) (
  iF (.inr (.inl ())))
def f_o(x0:SPr)(x1:Int):Option xM:=
 (rng (x1+1)).bind fun v1=>
 (zI (zV0 x0 x1) v1).bind fun r12=>
 match r12 with
 |(.inl _)=>
  (rng (x1+1)).bind fun v13=>
  (zI (zV2 x0 x1) v13).bind fun r33=>
  match r33 with
  |(.inl _)=>
   (ixO x0.zV x1).bind fun v34=>
   (f_J x0 x1 v34).bind fun r35=>
   (zLz r35 v34).bind fun r36=>
   cond (!r36) (
    iF (xM.mk 3 x1 0 0)) (
    (rng (x1+1)).bind fun v37=>
    (zI (zV4 x0 x1 v34) v37).bind fun r47=>
    match r47 with
    |(.inl _)=>
     iF (xM.mk 0 0 0 0)
    |(.inr r47)=>
     iF r47)
  |(.inr r33)=>
   iF r33
 |(.inr r12)=>
  iF r12
def zNw(x0:SPr)(s1:Int):Option (Int⊕Int):=
 cond (decide (s1> 0)) (
  (rng (s1-1)).bind fun v1=>
  (f_o x0 v1).bind fun r2=>
  cond (r2.Kind==0&&(r2.zZi==0&&(r2.zZk==0&&r2.zW9==0))) (
   (rng (s1-1)).bind fun v3=>
   iF (.inl v3)) (
   iF (.inr s1))) (
  iF (.inr s1))
def f_V(x0:SPr):Option Int:=
 (zI (zNw x0) (x0.zA.length:Int)).bind fun r4=>
 iF r4
def zPm(x0:SPr):Option Bool:=
 (f_x x0).bind fun r1=>
 cond r1 (
  (f_V x0).bind fun r2=>
  iF (r2==0)) (
  iF iI)
def zPn(x0:zB)(x1:Int):Option zO:=
 (ixO x0.zF x1).bind fun v1=>
 iF (zO.mk x0.Prime x0.Dim v1)
def zQW(x0:iM)(x1:Int)(s1:Int):Option (Int⊕(Unit⊕Bool)):=
 cond (decide (s1<(x0.length:Int))) (
  (ixO x0 s1).bind fun v1=>
  (rng (x1-1)).bind fun v2=>
  (zPj v1 0 v2).bind fun r3=>
  cond (!r3) (
   iF (.inr (.inr iI))) (
   (rng (s1+1)).bind fun v4=>
   iF (.inl v4))) (
  iF (.inr (.inl ())))
def zV5(x0:iM)(x1:Int)(x2:Int):Option Bool:=
 cond ((x0.length:Int) != x2) (
  iF iI) (
  (zI (zQW x0 x1) 0).bind fun r5=>
  match r5 with
  |(.inl _)=>
   iF iH
  |(.inr r5)=>
   iF r5)
def zNx(x0:zO)(s1:Int):Option (Int⊕(Unit⊕Bool)):=
 cond (decide (s1<(x0.Rows.length:Int))) (
  (ixO x0.Rows s1).bind fun v3=>
  (zV5 v3 x0.Prime x0.yR).bind fun r4=>
  cond (!r4) (
   iF (.inr (.inr iI))) (
   (rng (s1+1)).bind fun v5=>
   iF (.inl v5))) (
  iF (.inr (.inl ())))
def zXI(x0:zO):Option Bool:=
 (zRV x0.Prime).bind fun r1=>
 cond (!r1) (
  iF iI) (
  (zPj x0.yR 0 8).bind fun r2=>
  cond (!r2) (
   iF iI) (
   cond (decide ((x0.Rows.length:Int)> 8)) (
    iF iI) (
    (zI (zNx x0) 0).bind fun r6=>
    match r6 with
    |(.inl _)=>
     iF iH
    |(.inr r6)=>
     iF r6)))
def yCM(x0:Int)(x1:Int):Option (Int×Int):=
 iF ((IntKind.wrap .u64 ((IntKind.wrap .u64 ((IntKind.wrap .u64 ((G8 x0 (2 ^ (min (32:Int).toNat (IntKind.bits .u64))))*(G8 x1 (2 ^ (min (32:Int).toNat (IntKind.bits .u64))))))+(G8 (IntKind.wrap .u64 ((IntKind.wrap .u64 ((G8 x0 (2 ^ (min (32:Int).toNat (IntKind.bits .u64))))*(zGN .u64 x1 4294967295)))+(G8 (IntKind.wrap .u64 ((zGN .u64 x0 4294967295)*(zGN .u64 x1 4294967295))) (2 ^ (min (32:Int).toNat (IntKind.bits .u64)))))) (2 ^ (min (32:Int).toNat (IntKind.bits .u64))))))+(G8 (IntKind.wrap .u64 ((zGN .u64 (IntKind.wrap .u64 ((IntKind.wrap .u64 ((G8 x0 (2 ^ (min (32:Int).toNat (IntKind.bits .u64))))*(zGN .u64 x1 4294967295)))+(G8 (IntKind.wrap .u64 ((zGN .u64 x0 4294967295)*(zGN .u64 x1 4294967295))) (2 ^ (min (32:Int).toNat (IntKind.bits .u64)))))) 4294967295)+(IntKind.wrap .u64 ((zGN .u64 x0 4294967295)*(G8 x1 (2 ^ (min (32:Int).toNat (IntKind.bits .u64)))))))) (2 ^ (min (32:Int).toNat (IntKind.bits .u64)))))),(IntKind.wrap .u64 (x0*x1)))
def zV6(x0:Int)(x1:Int):Option (Int×Int):=
 (yCM x0 x1).bind fun r1=>
 iF (r1.1,r1.2)
def zCx(s1:(iM)×Int):Option ((iM×Int)⊕iM):=
 cond (decide (s1.2<(s1.1.length:Int))) (
  (yD s1.1 s1.2 s1.1.length).bind fun _=>
  (yD s1.1 0 s1.2).bind fun v4=>
  (rng (s1.2+((min v4.length (((s1.1.length:Int).toNat)-((s1.2:Int).toNat)):Nat):Int))).bind fun v5=>
  iF (.inl (wX s1.1 ((s1.2:Int).toNat) (v4.take (((s1.1.length:Int).toNat)-((s1.2:Int).toNat))),v5))) (
  iF (.inr s1.1))
def f_l(x0:iM)(x1:Int):Option iM:=
 cond (decide (x1<0)) (
  iG) (
  (zV6 (IntKind.wrap .u64 (x0.length:Int)) (IntKind.wrap .u64 x1)).bind fun r1=>
  cond (decide (r1.1> 0)) (
   iG) (
   cond (decide (r1.2> 9223372036854775807)) (
    iG) (
    (xI (IntKind.wrap .i64 r1.2)).bind fun m2=>
    (zI zCx (wX (J1 m2 (0:Int)) 0 (x0.take (((J1 m2 (0:Int)).length)-0)),((min x0.length (((J1 m2 (0:Int)).length)-0):Nat):Int))).bind fun r6=>
    iF r6)))
def zV7(s5:(iM)×Int)(v1:Int)(s6:(iM)×Int):Option ((iM×Int)⊕iM):=
 cond (decide (s6.2<v1)) (
  (rng (s5.2+1)).bind fun v2=>
  (xS s6.1 [v2]).bind fun v3=>
  (rng (s6.2+1)).bind fun v4=>
  iF (.inl (v3,v4))) (
  iF (.inr s6.1))
def zV8(x0:iM)(s5:(iM)×Int):Option ((iM×Int)⊕iM):=
 cond (decide (s5.2<(x0.length:Int))) (
  (ixO x0 s5.2).bind fun v1=>
  (zI (zV7 s5 v1) (s5.1,0)).bind fun r5=>
  (rng (s5.2+1)).bind fun v6=>
  iF (.inl (r5,v6))) (
  iF (.inr s5.1))
def f_z(x0:iM):Option iM:=
 (zI (zV8 x0) ([],0)).bind fun r7=>
 iF r7
def zV9(x0:SPr)(s1:(List (iM×iM))×Int):Option (((List (iM×iM))×Int)⊕(List (iM×iM))):=
 cond (decide (s1.2<(x0.zA.length:Int))) (
  (ixO x0.zA s1.2).bind fun v1=>
  (rng (s1.2+1)).bind fun v2=>
  (f_l [v2] v1).bind fun r3=>
  (ixO x0.zV s1.2).bind fun v4=>
  (f_z v4).bind fun r5=>
  (xS s1.1 [(r3,r5)]).bind fun v6=>
  (rng (s1.2+1)).bind fun v7=>
  iF (.inl (v6,v7))) (
  iF (.inr s1.1))
def zVA(s7:(List (iM×iM))×Int)(v9:iN)(s8:(List (iM×iM))×Int):Option (((List (iM×iM))×Int)⊕(List (iM×iM))):=
 cond (decide (s8.2<(v9.length:Int))) (
  (ixO v9 s8.2).bind fun v10=>
  (rng (s7.2+1)).bind fun v11=>
  (rng (s7.2+s8.2)).bind fun v12=>
  (rng (v12+2)).bind fun v13=>
  (f_z v10).bind fun r14=>
  (xS [v11] r14).bind fun v15=>
  (xS s8.1 [([v13,v11],v15)]).bind fun v16=>
  (rng (s8.2+1)).bind fun v17=>
  iF (.inl (v16,v17))) (
  iF (.inr s8.1))
def zVB(x0:SPr)(s7:(List (iM×iM))×Int):Option (((List (iM×iM))×Int)⊕(List (iM×iM))):=
 cond (decide (s7.2<(x0.zA.length:Int))) (
  (ixO x0.zG s7.2).bind fun v9=>
  (zI (zVA s7 v9) (s7.1,0)).bind fun r18=>
  (rng (s7.2+1)).bind fun v19=>
  iF (.inl (r18,v19))) (
  iF (.inr s7.1))
def f_D(x0:SPr):Option (List (iM×iM)):=
 (zI (zV9 x0) ([],0)).bind fun r8=>
 (zI (zVB x0) (r8,0)).bind fun r20=>
 iF r20
def zL1(x1:Int)(s1:(iN)×Int):Option ((iN×Int)⊕iN):=
 cond (decide (s1.2<x1)) (
  (xI x1).bind fun m1=>
  (ixO (J1 m1 (0:Int)) s1.2).bind fun _=>
  (xS s1.1 [(J1 m1 (0:Int)).set s1.2.toNat 1]).bind fun v3=>
  (rng (s1.2+1)).bind fun v4=>
  iF (.inl (v3,v4))) (
  iF (.inr s1.1))
def f_G(x0:Int)(x1:Int):Option zO:=
 (zI (zL1 x1) ([],0)).bind fun r5=>
 iF (zO.mk x0 x1 r5)
def zL2(x0:Int)(x1:Int):Option Int:=
 (tV x0 x1).bind fun v1=>
 (rng (v1+x1)).bind fun v2=>
 (tV v2 x1).bind fun v3=>
 iF v3
def zNy(x0:iM)(x1:iM)(x2:Int)(x3:Int)(s1:(iM)×Int):Option ((iM×Int)⊕iM):=
 cond (decide (s1.2<(x0.length:Int))) (
  (ixO s1.1 s1.2).bind fun v1=>
  (ixO x1 s1.2).bind fun v2=>
  (rng (x2*v2)).bind fun v3=>
  (rng (v1+v3)).bind fun v4=>
  (zL2 v4 x3).bind fun r5=>
  (ixO s1.1 s1.2).bind fun _=>
  (rng (s1.2+1)).bind fun v7=>
  iF (.inl (s1.1.set s1.2.toNat r5,v7))) (
  iF (.inr s1.1))
def f_v(x0:iM)(x1:iM)(x2:Int)(x3:Int):Option iM:=
 (zI (zNy x0 x1 x2 x3) (x0,0)).bind fun r8=>
 iF r8
def zNz(x0:iM)(x1:zO)(s1:(iM)×Int):Option ((iM×Int)⊕iM):=
 cond (decide (s1.2<(x0.length:Int))) (
  (ixO x0 s1.2).bind fun v2=>
  (ixO x1.Rows s1.2).bind fun v3=>
  (f_v s1.1 v3 v2 x1.Prime).bind fun r4=>
  (rng (s1.2+1)).bind fun v5=>
  iF (.inl (r4,v5))) (
  iF (.inr s1.1))
def zVC(x0:iM)(x1:zO):Option iM:=
 (xI x1.yR).bind fun m1=>
 (zI (zNz x0 x1) (J1 m1 (0:Int),0)).bind fun r6=>
 iF r6
def zN0(x0:zO)(x1:zO)(s1:(iN)×Int):Option ((iN×Int)⊕iN):=
 cond (decide (s1.2<(x0.Rows.length:Int))) (
  (ixO x0.Rows s1.2).bind fun v1=>
  (zVC v1 x1).bind fun r2=>
  (xS s1.1 [r2]).bind fun v3=>
  (rng (s1.2+1)).bind fun v4=>
  iF (.inl (v3,v4))) (
  iF (.inr s1.1))
def zXJ(x0:zO)(x1:zO):Option zO:=
 (zI (zN0 x0 x1) ([],0)).bind fun r5=>
 iF (zO.mk x0.Prime x1.yR r5)
def zVD(x0:zB)(x1:iM)(s1:Int×Int×iN×Int):Option ((Int×Int×iN×Int)⊕(Int×Int×iN)):=
 cond (decide (s1.2.2.2<(x1.length:Int))) (
  (ixO x1 s1.2.2.2).bind fun v2=>
  (rng (v2-1)).bind fun v3=>
  (zPn x0 v3).bind fun r4=>
  (zXJ (zO.mk s1.1 s1.2.1 s1.2.2.1) r4).bind fun r5=>
  (rng (s1.2.2.2+1)).bind fun v6=>
  iF (.inl (r5.Prime,r5.yR,r5.Rows,v6))) (
  iF (.inr (s1.1,s1.2.1,s1.2.2.1)))
def f_H(x0:zB)(x1:iM):Option zO:=
 (f_G x0.Prime x0.Dim).bind fun r1=>
 (zI (zVD x0 x1) (r1.Prime,r1.yR,r1.Rows,0)).bind fun r7=>
 iF (zO.mk r7.1 r7.2.1 r7.2.2)
def zVE(x0:iN)(x1:iN)(s1:Int):Option (Int⊕(Unit⊕Bool)):=
 cond (decide (s1<(x0.length:Int))) (
  (ixO x0 s1).bind fun v1=>
  (ixO x1 s1).bind fun v2=>
  (zLz v1 v2).bind fun r3=>
  cond (!r3) (
   iF (.inr (.inr iI))) (
   (rng (s1+1)).bind fun v4=>
   iF (.inl v4))) (
  iF (.inr (.inl ())))
def yAD(x0:iN)(x1:iN):Option Bool:=
 cond ((x0.length:Int) != (x1.length:Int)) (
  iF iI) (
  (zI (zVE x0 x1) 0).bind fun r5=>
  match r5 with
  |(.inl _)=>
   iF iH
  |(.inr r5)=>
   iF r5)
def zVF(x0:iN)(x1:iN):Option Bool:=
 (yAD x0 x1).bind fun r1=>
 iF r1
def zVG(x1:zB)(s1:Int):Option (Int⊕(Unit⊕Bool)):=
 cond (decide (s1<(x1.zF.length:Int))) (
  (ixO x1.zF s1).bind fun v4=>
  cond ((v4.length:Int) != x1.Dim) (
   iF (.inr (.inr iI))) (
   (zPn x1 s1).bind fun r5=>
   (zXI r5).bind fun r6=>
   cond (!r6) (
    iF (.inr (.inr iI))) (
    (rng (s1+1)).bind fun v7=>
    iF (.inl v7)))) (
  iF (.inr (.inl ())))
def zVH(x1:zB)(r9:(List (iM×iM)))(s3:Int):Option (Int⊕(Unit⊕Bool)):=
 cond (decide (s3<(r9.length:Int))) (
  (ixO r9 s3).bind fun v10=>
  (f_H x1 v10.1).bind fun r11=>
  (f_H x1 v10.2).bind fun r12=>
  (zVF r11.Rows r12.Rows).bind fun r13=>
  cond (!r13) (
   iF (.inr (.inr iI))) (
   (rng (s3+1)).bind fun v14=>
   iF (.inl v14))) (
  iF (.inr (.inl ())))
def f_K(x0:SPr)(x1:zB):Option Bool:=
 (zPm x0).bind fun r1=>
 cond (!r1) (
  iF iI) (
  (zRV x1.Prime).bind fun r2=>
  cond (!r2) (
   iF iI) (
   (zPj x1.Dim 1 3).bind fun r3=>
   cond (!r3) (
    iF iI) (
    cond ((x1.zF.length:Int) != (x0.zA.length:Int)) (
     iF iI) (
     (zI (zVG x1) 0).bind fun r8=>
     match r8 with
     |(.inl _)=>
      (f_D x0).bind fun r9=>
      (zI (zVH x1 r9) 0).bind fun r15=>
      match r15 with
      |(.inl _)=>
       iF iH
      |(.inr r15)=>
       iF r15
     |(.inr r8)=>
      iF r8))))
def zVI(x1:Int):Option iM:=
 cond (decide (x1<0)) (
  iG) (
  (rng (0-0)).bind fun v1=>
  (rng (x1-v1)).bind fun v2=>
  cond (decide (v2> 0)) (
   (tM [] v2 (0:Int)).bind fun v3=>
   (yD v3 0 0).bind fun v4=>
   iF v4) (
   iF []))
def zVJ(x0:iN)(s1:Int×Int):Option ((Int×Int)⊕Int):=
 cond (decide (s1.2<(x0.length:Int))) (
  (ixO x0 s1.2).bind fun v1=>
  (rng (s1.1+(v1.length:Int))).bind fun v2=>
  cond (decide (v2<0)) (
   iG) (
   (rng (s1.2+1)).bind fun v3=>
   iF (.inl (v2,v3)))) (
  iF (.inr s1.1))
def zVK(x0:iN)(s3:(iM)×Int):Option ((iM×Int)⊕iM):=
 cond (decide (s3.2<(x0.length:Int))) (
  (ixO x0 s3.2).bind fun v6=>
  (xS s3.1 v6).bind fun v7=>
  (rng (s3.2+1)).bind fun v8=>
  iF (.inl (v7,v8))) (
  iF (.inr s3.1))
def f_q(x0:iN):Option iM:=
 (zI (zVJ x0) (0,0)).bind fun r4=>
 (zVI r4).bind fun r5=>
 (zI (zVK x0) (r5,0)).bind fun r9=>
 iF r9
def zVL(x0:iM)(x1:Int)(x2:Int):Option iM:=
 (xI x1).bind fun m1=>
 (xI x2).bind fun m2=>
 (f_q [J1 m1 (0:Int),x0,J1 m2 (0:Int)]).bind fun r3=>
 iF r3
def zVM(x0:iM)(x1:iM)(s1:Int):Option (Int⊕(Unit⊕Bool)):=
 cond (decide (s1<(x0.length:Int))) (
  (ixO x0 s1).bind fun v1=>
  (ixO x1 s1).bind fun v2=>
  cond (v1 != v2) (
   iF (.inr (.inr iI))) (
   (rng (s1+1)).bind fun v3=>
   iF (.inl v3))) (
  iF (.inr (.inl ())))
def zVN(x0:iM)(x1:iM):Option Bool:=
 cond ((x0.length:Int) != (x1.length:Int)) (
  iF iI) (
  (zI (zVM x0 x1) 0).bind fun r4=>
  match r4 with
  |(.inl _)=>
   iF iH
  |(.inr r4)=>
   iF r4)
def zVO(x0:iN)(x1:iN)(s1:Int):Option (Int⊕(Unit⊕Bool)):=
 cond (decide (s1<(x0.length:Int))) (
  (ixO x0 s1).bind fun v1=>
  (ixO x1 s1).bind fun v2=>
  (zVN v1 v2).bind fun r3=>
  cond (!r3) (
   iF (.inr (.inr iI))) (
   (rng (s1+1)).bind fun v4=>
   iF (.inl v4))) (
  iF (.inr (.inl ())))
def zPo(x0:iN)(x1:iN):Option Bool:=
 cond ((x0.length:Int) != (x1.length:Int)) (
  iF iI) (
  (zI (zVO x0 x1) 0).bind fun r5=>
  match r5 with
  |(.inl _)=>
   iF iH
  |(.inr r5)=>
   iF r5)
def zVP(x0:List iN)(x1:List iN)(s1:Int):Option (Int⊕(Unit⊕Bool)):=
 cond (decide (s1<(x0.length:Int))) (
  (ixO x0 s1).bind fun v1=>
  (ixO x1 s1).bind fun v2=>
  (zPo v1 v2).bind fun r3=>
  cond (!r3) (
   iF (.inr (.inr iI))) (
   (rng (s1+1)).bind fun v4=>
   iF (.inl v4))) (
  iF (.inr (.inl ())))
def zXK(x0:List iN)(x1:List iN):Option Bool:=
 cond ((x0.length:Int) != (x1.length:Int)) (
  iF iI) (
  (zI (zVP x0 x1) 0).bind fun r5=>
  match r5 with
  |(.inl _)=>
   iF iH
  |(.inr r5)=>
   iF r5)
def zXL(x0:zB)(x1:zB):Option Bool:=
 cond (x0.Prime != x1.Prime) (
  iF iI) (
  cond (x0.Dim != x1.Dim) (
   iF iI) (
   (zXK x0.zF x1.zF).bind fun r1=>
   cond (!r1) (
    iF iI) (
    iF iH)))
def zXM(x0:SPr)(x1:SPr):Option Bool:=
 (zVN x0.zA x1.zA).bind fun r1=>
 cond (!r1) (
  iF iI) (
  (zPo x0.zV x1.zV).bind fun r2=>
  cond (!r2) (
   iF iI) (
   (zXK x0.zG x1.zG).bind fun r3=>
   cond (!r3) (
    iF iI) (
    iF iH)))
def zQX(s1:(iM)×Int×Int):Option ((iM×Int×Int)⊕(iM×Int)):=
 cond (decide (s1.2.2<(s1.1.length:Int))) (
  (ixO s1.1 s1.2.2).bind fun _=>
  (rng (s1.2.1+1)).bind fun v2=>
  (rng (s1.2.2+1)).bind fun v3=>
  iF (.inl (s1.1.set s1.2.2.toNat s1.2.1,v2,v3))) (
  iF (.inr (s1.1,s1.2.1)))
def zRY(x0:iM)(x1:Int):Option (Int×iM):=
 (zI zQX (x0,x1,0)).bind fun r4=>
 iF (r4.2,r4.1)
def zVQ(s1:(iN)×Int×Int):Option ((iN×Int×Int)⊕(iN×Int)):=
 cond (decide (s1.2.2<(s1.1.length:Int))) (
  (ixO s1.1 s1.2.2).bind fun v1=>
  (zRY v1 s1.2.1).bind fun r2=>
  (rng (s1.2.2+1)).bind fun v3=>
  iF (.inl (s1.1.set s1.2.2.toNat r2.2,r2.1,v3))) (
  iF (.inr (s1.1,s1.2.1)))
def zN1(x0:iN)(x1:Int):Option (Int×iN):=
 (zI zVQ (x0,x1,0)).bind fun r4=>
 iF (r4.2,r4.1)
def zVR(s1:(List iN)×Int×Int):Option (((List iN)×Int×Int)⊕((List iN)×Int)):=
 cond (decide (s1.2.2<(s1.1.length:Int))) (
  (ixO s1.1 s1.2.2).bind fun v1=>
  (zN1 v1 s1.2.1).bind fun r2=>
  (rng (s1.2.2+1)).bind fun v3=>
  iF (.inl (s1.1.set s1.2.2.toNat r2.2,r2.1,v3))) (
  iF (.inr (s1.1,s1.2.1)))
def zVS(x0:List iN)(x1:Int):Option (Int×(List iN)):=
 (zI zVR (x0,x1,0)).bind fun r4=>
 iF (r4.2,r4.1)
def zXN(x0:SPr)(x1:Int):Option (Int×SPr):=
 (zRY x0.zA x1).bind fun r1=>
 (zN1 x0.zV r1.1).bind fun r2=>
 (zVS x0.zG r2.1).bind fun r3=>
 iF (r3.1,(SPr.mk r1.2 r2.2 r3.2))
def zXO(x0:zB)(x1:Int):Option (Int×zB):=
 (zVS x0.zF x1).bind fun r1=>
 iF (r1.1,(zB.mk x0.Prime x0.Dim r1.2))
def zN2(x0:iM)(s1:Int×Int):Option ((Int×Int)⊕(Int⊕Int)):=
 cond (decide (s1.2<(x0.length:Int))) (
  (ixO x0 s1.2).bind fun v1=>
  cond (v1 != s1.1) (
   iF (.inr (.inr (-1)))) (
   (rng (s1.1+1)).bind fun v2=>
   (rng (s1.2+1)).bind fun v3=>
   iF (.inl (v2,v3)))) (
  iF (.inr (.inl s1.1)))
def zVT(x0:iM)(x1:Int):Option Int:=
 (zI (zN2 x0) (x1,0)).bind fun r4=>
 match r4 with
 |(.inl r4)=>
  iF r4
 |(.inr r4)=>
  iF r4
def zVU(x0:iN)(s1:Int×Int):Option ((Int×Int)⊕(Int⊕Int)):=
 cond (decide (s1.2<(x0.length:Int))) (
  (ixO x0 s1.2).bind fun v1=>
  (zVT v1 s1.1).bind fun r2=>
  cond (decide (r2<0)) (
   iF (.inr (.inr (-1)))) (
   (rng (s1.2+1)).bind fun v3=>
   iF (.inl (r2,v3)))) (
  iF (.inr (.inl s1.1)))
def yAE(x0:iN)(x1:Int):Option Int:=
 (zI (zVU x0) (x1,0)).bind fun r4=>
 match r4 with
 |(.inl r4)=>
  iF r4
 |(.inr r4)=>
  iF r4
def zN3(x0:iN)(s1:(iN)×Int):Option ((iN×Int)⊕iN):=
 cond (decide (s1.2<(x0.length:Int))) (
  (ixO x0 s1.2).bind fun v1=>
  (rng ((v1.length:Int)+(x0.length:Int))).bind fun v2=>
  (xI v2).bind fun m3=>
  (rng ((v1.length:Int)+s1.2)).bind fun v4=>
  (ixO (wX (J1 m3 (0:Int)) 0 (v1.take (((J1 m3 (0:Int)).length)-0))) v4).bind fun _=>
  (xS s1.1 [(wX (J1 m3 (0:Int)) 0 (v1.take (((J1 m3 (0:Int)).length)-0))).set v4.toNat 1]).bind fun v6=>
  (rng (s1.2+1)).bind fun v7=>
  iF (.inl (v6,v7))) (
  iF (.inr s1.1))
def zXP(x0:iN):Option iN:=
 (zI (zN3 x0) ([],0)).bind fun r8=>
 iF r8
def zN4(x0:iN)(s1:(iN)×Int):Option ((iN×Int)⊕iN):=
 cond (decide (s1.2<(x0.length:Int))) (
  (ixO x0 s1.2).bind fun v1=>
  (f_F v1).bind fun r2=>
  (xS s1.1 [r2]).bind fun v3=>
  (rng (s1.2+1)).bind fun v4=>
  iF (.inl (v3,v4))) (
  iF (.inr s1.1))
def zXQ(x0:iN):Option iN:=
 (zI (zN4 x0) ([],0)).bind fun r5=>
 iF r5
def zRZ(s1:Int×Int×Int×Int):Option ((Int×Int×Int×Int)⊕(Int×Int)):=
 cond (s1.2.1 != 0) (
  (sK s1.1 s1.2.1).bind fun v1=>
  (rng (v1*s1.2.1)).bind fun v2=>
  (rng (s1.1-v2)).bind fun v3=>
  (rng (v1*s1.2.2.2)).bind fun v4=>
  (rng (s1.2.2.1-v4)).bind fun v5=>
  iF (.inl (s1.2.1,v3,s1.2.2.2,v5))) (
  iF (.inr (s1.1,s1.2.2.1)))
def f_W(x0:Int)(x1:Int):Option (Int×Bool):=
 (zI zRZ (x1,x0,0,1)).bind fun r6=>
 (zL2 r6.2 x1).bind fun r7=>
 iF (r7,(r6.1==1))
def zJu(s13:(iN)×Int×Int)(s14:Int):Option (Int⊕Int):=
 cond (decide (s14<(s13.1.length:Int))) (
  (ixO s13.1 s14).bind fun v3=>
  (ixO v3 s13.2.2).bind fun v4=>
  cond (v4==0) (
   (rng (s14+1)).bind fun v5=>
   iF (.inl v5)) (
   iF (.inr s14))) (
  iF (.inr s14))
def zN5(x0:Int)(s13:(iN)×Int×Int)(r12:Int×Bool)(v13:iM)(s16:(iN)×Int):Option ((iN×Int)⊕iN):=
 cond (decide (s16.2<(v13.length:Int))) (
  (ixO s16.1 s13.2.1).bind fun v14=>
  (ixO s16.1 s13.2.1).bind fun v15=>
  (ixO v15 s16.2).bind fun v16=>
  (rng (v16*r12.1)).bind fun v17=>
  (tV v17 x0).bind fun v18=>
  (ixO v14 s16.2).bind fun _=>
  (rng (s16.2+1)).bind fun v20=>
  iF (.inl (s16.1.set s13.2.1.toNat (v14.set s16.2.toNat v18),v20))) (
  iF (.inr s16.1))
def zPp(x0:Int)(s13:(iN)×Int×Int)(r21:(iN))(s18:(iN)×Int):Option ((iN×Int)⊕iN):=
 cond (decide (s18.2<(r21.length:Int))) (
  cond (s18.2 != s13.2.1) (
   (ixO s18.1 s18.2).bind fun v22=>
   (ixO s18.1 s13.2.1).bind fun v23=>
   (ixO s18.1 s18.2).bind fun v24=>
   (ixO v24 s13.2.2).bind fun v25=>
   (rng (0-v25)).bind fun v26=>
   (f_v v22 v23 v26 x0).bind fun r27=>
   (rng (s18.2+1)).bind fun v28=>
   iF (.inl (s18.1.set s18.2.toNat r27,v28))) (
   (rng (s18.2+1)).bind fun v29=>
   iF (.inl (s18.1,v29)))) (
  iF (.inr s18.1))
def zPq(x0:Int)(s13:(iN)×Int×Int):Option ((iN×Int×Int)⊕(iN×Int)):=
 cond (decide ((s13.1.length:Int)> 0)) (
  (ixO s13.1 0).bind fun v2=>
  cond (decide (s13.2.2<(v2.length:Int))) (
   cond (decide (s13.2.1<(s13.1.length:Int))) (
    (zI (zJu s13) s13.2.1).bind fun r6=>
    cond (r6==(s13.1.length:Int)) (
     (rng (s13.2.2+1)).bind fun v7=>
     iF (.inl (s13.1,s13.2.1,v7))) (
     (ixO s13.1 r6).bind fun v8=>
     (ixO s13.1 s13.2.1).bind fun v9=>
     (ixO (kE s13.1 s13.2.1 r6 v8 v9) s13.2.1).bind fun v10=>
     (ixO v10 s13.2.2).bind fun v11=>
     (f_W v11 x0).bind fun r12=>
     (ixO (kE s13.1 s13.2.1 r6 v8 v9) s13.2.1).bind fun v13=>
     (zI (zN5 x0 s13 r12 v13) (kE s13.1 s13.2.1 r6 v8 v9,0)).bind fun r21=>
     (zI (zPp x0 s13 r21) (r21,0)).bind fun r30=>
     (rng (s13.2.1+1)).bind fun v31=>
     (rng (s13.2.2+1)).bind fun v32=>
     iF (.inl (r30,v31,v32)))) (
    iF (.inr (s13.1,s13.2.1)))) (
   iF (.inr (s13.1,s13.2.1)))) (
  iF (.inr (s13.1,s13.2.1)))
def f_i(x0:Int)(x1:iN):Option iN:=
 (zXQ x1).bind fun r1=>
 (zI (zPq x0) (r1,0,0)).bind fun r33=>
 (yD r33.1 0 r33.2).bind fun v34=>
 iF v34
def zVV(x0:Int)(x1:Int):Option Int:=
 (tV x0 x1).bind fun v1=>
 cond (decide (v1<0)) (
  (rng (v1+x1)).bind fun v2=>
  iF v2) (
  iF v1)
def zJv(x0:iM)(s1:Int):Option (Int⊕(Unit⊕Int)):=
 cond (decide (s1<(x0.length:Int))) (
  (ixO x0 s1).bind fun v1=>
  cond (v1 != 0) (
   iF (.inr (.inr s1))) (
   (rng (s1+1)).bind fun v2=>
   iF (.inl v2))) (
  iF (.inr (.inl ())))
def f_E(x0:iM):Option Int:=
 (zI (zJv x0) 0).bind fun r3=>
 match r3 with
 |(.inl _)=>
  iF (x0.length:Int)
 |(.inr r3)=>
  iF r3
def zVW(x0:Int)(x2:Int)(x3:iM)(s1:(iM)×Int):Option ((iM×Int)⊕iM):=
 cond (decide (s1.2<(s1.1.length:Int))) (
  cond (decide (s1.2<(x3.length:Int))) (
   (ixO s1.1 s1.2).bind fun v2=>
   (ixO x3 s1.2).bind fun v3=>
   (rng (x2*v3)).bind fun v4=>
   (rng (v2+v4)).bind fun v5=>
   (zVV v5 x0).bind fun r6=>
   (ixO s1.1 s1.2).bind fun _=>
   (rng (s1.2+1)).bind fun v8=>
   iF (.inl (s1.1.set s1.2.toNat r6,v8))) (
   iF (.inr s1.1))) (
  iF (.inr s1.1))
def f_A(x0:Int)(x1:iM)(x2:Int)(x3:iM):Option iM:=
 (f_y x1).bind fun r1=>
 (zI (zVW x0 x2 x3) (r1,0)).bind fun r9=>
 iF r9
def zN6(x0:Int)(x1:iN)(s1:(iM)×Int):Option ((iM×Int)⊕iM):=
 cond (decide (s1.2<(x1.length:Int))) (
  (ixO x1 s1.2).bind fun v2=>
  (f_E v2).bind fun r3=>
  cond (decide (r3<(s1.1.length:Int))) (
   (ixO s1.1 r3).bind fun v4=>
   cond (v4 != 0) (
    (ixO s1.1 r3).bind fun v5=>
    (rng (x0-v5)).bind fun v6=>
    (ixO x1 s1.2).bind fun v7=>
    (f_A x0 s1.1 v6 v7).bind fun r8=>
    (rng (s1.2+1)).bind fun v9=>
    iF (.inl (r8,v9))) (
    (rng (s1.2+1)).bind fun v10=>
    iF (.inl (s1.1,v10)))) (
   (rng (s1.2+1)).bind fun v11=>
   iF (.inl (s1.1,v11)))) (
  iF (.inr s1.1))
def zPr(x0:Int)(x1:iN)(x2:iM):Option iM:=
 (f_y x2).bind fun r1=>
 (zI (zN6 x0 x1) (r1,0)).bind fun r12=>
 iF r12
def zN7(x0:Int)(x1:Int)(s1:Int):Option (Int⊕(Unit⊕Int)):=
 cond (decide (s1<x1)) (
  (zVV x0 x1).bind fun r1=>
  (rng (r1*s1)).bind fun v2=>
  (tV v2 x1).bind fun v3=>
  cond (v3==1) (
   iF (.inr (.inr s1))) (
   (rng (s1+1)).bind fun v4=>
   iF (.inl v4))) (
  iF (.inr (.inl ())))
def zXR(x0:Int)(x1:Int):Option Int:=
 (zI (zN7 x0 x1) 1).bind fun r5=>
 match r5 with
 |(.inl _)=>
  iF 0
 |(.inr r5)=>
  iF r5
def zXS(x0:Int)(x1:Int)(x2:iM):Option iM:=
 (xI (x2.length:Int)).bind fun m1=>
 (f_A x0 (J1 m1 (0:Int)) x1 x2).bind fun r2=>
 iF r2
def zJw(x0:Int)(s5:(iN)×Int)(r3:Int)(r7:(iM))(s6:(iN)×Bool×Int):Option ((iN×Bool×Int)⊕(iN×Bool)):=
 cond (decide (s6.2.2<(s5.1.length:Int))) (
  cond (!s6.2.1) (
   (ixO s5.1 s6.2.2).bind fun v8=>
   (f_E v8).bind fun r9=>
   cond (decide (r9> r3)) (
    (xS s6.1 [r7]).bind fun v10=>
    (ixO s5.1 s6.2.2).bind fun v11=>
    (ixO s5.1 s6.2.2).bind fun v12=>
    (ixO v12 r3).bind fun v13=>
    (rng (x0-v13)).bind fun v14=>
    (f_A x0 v11 v14 r7).bind fun r15=>
    (xS v10 [r15]).bind fun v16=>
    (rng (s6.2.2+1)).bind fun v17=>
    iF (.inl (v16,iH,v17))) (
    (ixO s5.1 s6.2.2).bind fun v18=>
    (ixO s5.1 s6.2.2).bind fun v19=>
    (ixO v19 r3).bind fun v20=>
    (rng (x0-v20)).bind fun v21=>
    (f_A x0 v18 v21 r7).bind fun r22=>
    (xS s6.1 [r22]).bind fun v23=>
    (rng (s6.2.2+1)).bind fun v24=>
    iF (.inl (v23,s6.2.1,v24)))) (
   (ixO s5.1 s6.2.2).bind fun v25=>
   (ixO s5.1 s6.2.2).bind fun v26=>
   (ixO v26 r3).bind fun v27=>
   (rng (x0-v27)).bind fun v28=>
   (f_A x0 v25 v28 r7).bind fun r29=>
   (xS s6.1 [r29]).bind fun v30=>
   (rng (s6.2.2+1)).bind fun v31=>
   iF (.inl (v30,s6.2.1,v31)))) (
  iF (.inr (s6.1,s6.2.1)))
def zSa(x0:Int)(x1:iN)(s5:(iN)×Int):Option ((iN×Int)⊕iN):=
 cond (decide (s5.2<(x1.length:Int))) (
  (ixO x1 s5.2).bind fun v1=>
  (zPr x0 s5.1 v1).bind fun r2=>
  (f_E r2).bind fun r3=>
  cond (r3==(r2.length:Int)) (
   (rng (s5.2+1)).bind fun v4=>
   iF (.inl (s5.1,v4))) (
   (ixO r2 r3).bind fun v5=>
   (zXR v5 x0).bind fun r6=>
   (zXS x0 r6 r2).bind fun r7=>
   (zI (zJw x0 s5 r3 r7) ([],iI,0)).bind fun r32=>
   cond (!r32.2) (
    (xS r32.1 [r7]).bind fun v33=>
    (rng (s5.2+1)).bind fun v34=>
    iF (.inl (v33,v34))) (
    (rng (s5.2+1)).bind fun v35=>
    iF (.inl (r32.1,v35))))) (
  iF (.inr s5.1))
def f_r(x0:Int)(x1:iN):Option iN:=
 (zI (zSa x0 x1) ([],0)).bind fun r36=>
 iF r36
def zN8(x1:iN)(r1:(iN))(s1:(iN)×Int):Option ((iN×Int)⊕iN):=
 cond (decide (s1.2<(x1.length:Int))) (
  (ixO x1 s1.2).bind fun v2=>
  (f_y v2).bind fun r3=>
  (ixO r1 s1.2).bind fun v4=>
  (xS r3 v4).bind fun v5=>
  (xS s1.1 [v5]).bind fun v6=>
  (rng (s1.2+1)).bind fun v7=>
  iF (.inl (v6,v7))) (
  iF (.inr s1.1))
def zXT(x0:Int)(x1:iN):Option iN:=
 (f_C (x1.length:Int)).bind fun r1=>
 (zI (zN8 x1 r1) ([],0)).bind fun r8=>
 (f_r x0 r8).bind fun r9=>
 iF r9
def zKm(x2:Int)(r1:(iN))(s1:(iN)×Int):Option ((iN×Int)⊕iN):=
 cond (decide (s1.2<(r1.length:Int))) (
  (ixO r1 s1.2).bind fun v2=>
  (f_E v2).bind fun r3=>
  cond (decide (r3≥x2)) (
   (ixO r1 s1.2).bind fun v4=>
   (yD v4 x2 v4.length).bind fun v5=>
   (f_y v5).bind fun r6=>
   (xS s1.1 [r6]).bind fun v7=>
   (rng (s1.2+1)).bind fun v8=>
   iF (.inl (v7,v8))) (
   (rng (s1.2+1)).bind fun v9=>
   iF (.inl (s1.1,v9)))) (
  iF (.inr s1.1))
def zXU(x0:Int)(x1:iN)(x2:Int):Option iN:=
 (zXT x0 x1).bind fun r1=>
 (zI (zKm x2 r1) ([],0)).bind fun r10=>
 iF r10
def zVX(x0:SPr):Option Int:=
 (rng ((x0.zA.length:Int)-1)).bind fun v1=>
 (rng ((x0.zA.length:Int)*v1)).bind fun v2=>
 (sK v2 2).bind fun v3=>
 (rng ((x0.zA.length:Int)+v3)).bind fun v4=>
 iF v4
def yAF(x0:Int)(x1:Int)(x2:Int):Option Int:=
 (rng (x1*x0)).bind fun v1=>
 (rng (x0+v1)).bind fun v2=>
 (rng (x1+1)).bind fun v3=>
 (rng (x1*v3)).bind fun v4=>
 (sK v4 2).bind fun v5=>
 (rng (v2-v5)).bind fun v6=>
 (rng (v6+x2)).bind fun v7=>
 (rng (v7-x1)).bind fun v8=>
 (rng (v8-1)).bind fun v9=>
 iF v9
def zVY(x0:SPr):Option Int:=
 (rng ((x0.zA.length:Int)+1)).bind fun v1=>
 (rng ((x0.zA.length:Int)*v1)).bind fun v2=>
 (sK v2 2).bind fun v3=>
 iF v3
def zN9(x0:iM)(x1:Int)(s1:(iN)×Int):Option ((iN×Int)⊕iN):=
 cond (decide (s1.2<(x0.length:Int))) (
  (rng (s1.2+x1)).bind fun v1=>
  (yD x0 s1.2 v1).bind fun v2=>
  (f_F v2).bind fun r3=>
  (xS s1.1 [r3]).bind fun v4=>
  (rng (s1.2+x1)).bind fun v5=>
  iF (.inl (v4,v5))) (
  iF (.inr s1.1))
def zSb(x0:iM)(x1:Int):Option iN:=
 (zI (zN9 x0 x1) ([],0)).bind fun r6=>
 iF r6
def zSc(x0:iM)(s6:(iN)×Int):Option ((iN×Int)⊕iN):=
 cond (decide (s6.2<(x0.length:Int))) (
  (zL0 (x0.length:Int) s6.2).bind fun r5=>
  (xS s6.1 [r5]).bind fun v6=>
  (rng (s6.2+1)).bind fun v7=>
  iF (.inl (v6,v7))) (
  iF (.inr s6.1))
def zSd(x0:iM)(s5:(iN)×(List iN)×Int):Option ((iN×(List iN)×Int)⊕(iN×(List iN))):=
 cond (decide (s5.2.2<(x0.length:Int))) (
  (xI (x0.length:Int)).bind fun m2=>
  (xS s5.1 [J1 m2 (0:Int)]).bind fun v3=>
  (rng (s5.2.2+1)).bind fun v4=>
  (zI (zSc x0) ([],v4)).bind fun r8=>
  (xS s5.2.1 [r8]).bind fun v9=>
  (rng (s5.2.2+1)).bind fun v10=>
  iF (.inl (v3,v9,v10))) (
  iF (.inr (s5.1,s5.2.1)))
def f_N(x0:iM):Option SPr:=
 (f_F x0).bind fun r1=>
 (zI (zSd x0) ([],[],0)).bind fun r11=>
 iF (SPr.mk r1 r11.1 r11.2)
def zPs(x0:SPr)(x2:iN)(s1:(iN)×Int×Int):Option ((iN×Int×Int)⊕(iN×Int)):=
 cond (decide (s1.2.2<(x0.zV.length:Int))) (
  (ixO x0.zV s1.2.2).bind fun v5=>
  (ixO x2 s1.2.1).bind fun v6=>
  (f_q [v5,v6]).bind fun r7=>
  (ixO s1.1 s1.2.2).bind fun _=>
  (rng (s1.2.1+1)).bind fun v9=>
  (rng (s1.2.2+1)).bind fun v10=>
  iF (.inl (s1.1.set s1.2.2.toNat r7,v9,v10))) (
  iF (.inr (s1.1,s1.2.1)))
def zPt(x2:iN)(s11:(List iN)×Int×Int)(v12:iN)(s12:(List iN)×Int×Int):Option (((List iN)×Int×Int)⊕((List iN)×Int)):=
 cond (decide (s12.2.2<(v12.length:Int))) (
  (ixO v12 s12.2.2).bind fun v13=>
  (ixO s12.1 s11.2.2).bind fun v14=>
  (ixO x2 s12.2.1).bind fun v15=>
  (f_q [v13,v15]).bind fun r16=>
  (ixO v14 s12.2.2).bind fun _=>
  (rng (s12.2.1+1)).bind fun v18=>
  (rng (s12.2.2+1)).bind fun v19=>
  iF (.inl (s12.1.set s11.2.2.toNat (v14.set s12.2.2.toNat r16),v18,v19))) (
  iF (.inr (s12.1,s12.2.1)))
def zPu(x0:SPr)(s11:(List iN)×Int×Int)(v21:iN)(s14:(List iN)×Int):Option (((List iN)×Int)⊕(List iN)):=
 cond (decide (s14.2<(v21.length:Int))) (
  (ixO v21 s14.2).bind fun v22=>
  (ixO s14.1 s11.2.2).bind fun v23=>
  (rng ((x0.zA.length:Int)-1)).bind fun v24=>
  (rng (v24-s11.2.2)).bind fun v25=>
  (rng (v25+s14.2)).bind fun v26=>
  (zVL v22 (x0.zA.length:Int) 0).bind fun r27=>
  (ixO v23 v26).bind fun _=>
  (rng (s14.2+1)).bind fun v29=>
  iF (.inl (s14.1.set s11.2.2.toNat (v23.set v26.toNat r27),v29))) (
  iF (.inr s14.1))
def zPv(x0:SPr)(x1:zB)(x2:iN)(s11:(List iN)×Int×Int):Option (((List iN)×Int×Int)⊕(List iN)):=
 cond (decide (s11.2.2<(x0.zA.length:Int))) (
  (ixO x0.zG s11.2.2).bind fun v12=>
  (zI (zPt x2 s11 v12) (s11.1,s11.2.1,0)).bind fun r20=>
  (ixO x1.zF s11.2.2).bind fun v21=>
  (zI (zPu x0 s11 v21) (r20.1,0)).bind fun r30=>
  (rng (s11.2.2+1)).bind fun v31=>
  iF (.inl (r30,r20.2,v31))) (
  iF (.inr s11.1))
def f_n(x0:SPr)(x1:zB)(x2:iN):Option SPr:=
 (f_F x0.zA).bind fun r1=>
 (f_l [x1.Prime] x1.Dim).bind fun r2=>
 (xS r1 r2).bind fun v3=>
 (f_N v3).bind fun r4=>
 (zI (zPs x0 x2) (r4.zV,0,0)).bind fun r11=>
 (zI (zPv x0 x1 x2) (r4.zG,r11.2,0)).bind fun r32=>
 iF (SPr.mk r4.zA r11.1 r32)
def zNA(x0:zB)(x1:iN)(s1:Int):Option (Int⊕(Unit⊕Bool)):=
 cond (decide (s1<(x1.length:Int))) (
  (ixO x1 s1).bind fun v1=>
  (zVd x0.Prime x0.Dim v1).bind fun r2=>
  cond (!r2) (
   iF (.inr (.inr iI))) (
   (rng (s1+1)).bind fun v3=>
   iF (.inl v3))) (
  iF (.inr (.inl ())))
def yAG(x0:zB)(x1:iN):Option Bool:=
 (zI (zNA x0 x1) 0).bind fun r4=>
 match r4 with
 |(.inl _)=>
  iF iH
 |(.inr r4)=>
  iF r4
def zNB(x0:zB)(x1:iN)(x2:iM)(x3:Int):Option iM:=
 (ixO x0.zF x3).bind fun v1=>
 (f_M x0.Prime x2 v1 x0.Dim).bind fun r2=>
 (ixO x1 x3).bind fun v3=>
 (f_A x0.Prime r2 1 v3).bind fun r4=>
 iF r4
def zVZ(x0:zB)(x1:iN)(x3:iM)(s5:(iM)×Int)(s6:(iM)×Int):Option ((iM×Int)⊕iM):=
 (ixO x3 s5.2).bind fun v1=>
 cond (decide (s6.2<v1)) (
  (zNB x0 x1 s6.1 s5.2).bind fun r2=>
  (rng (s6.2+1)).bind fun v3=>
  iF (.inl (r2,v3))) (
  iF (.inr s6.1))
def zWa(x0:zB)(x1:iN)(x3:iM)(s5:(iM)×Int):Option ((iM×Int)⊕iM):=
 cond (decide (s5.2<(x3.length:Int))) (
  (zI (zVZ x0 x1 x3 s5) (s5.1,0)).bind fun r4=>
  (rng (s5.2+1)).bind fun v5=>
  iF (.inl (r4,v5))) (
  iF (.inr s5.1))
def f_S(x0:zB)(x1:iN)(x2:iM)(x3:iM):Option iM:=
 (zI (zWa x0 x1 x3) (x2,0)).bind fun r6=>
 iF r6
def zZf(x0:iM)(s1:Int):Option (Int⊕(Unit⊕Bool)):=
 cond (decide (s1<(x0.length:Int))) (
  (ixO x0 s1).bind fun v1=>
  cond (v1 != 0) (
   iF (.inr (.inr iI))) (
   (rng (s1+1)).bind fun v2=>
   iF (.inl v2))) (
  iF (.inr (.inl ())))
def yAH(x0:iM):Option Bool:=
 (zI (zZf x0) 0).bind fun r3=>
 match r3 with
 |(.inl _)=>
  iF iH
 |(.inr r3)=>
  iF r3
def zQY(x0:zB)(x1:iN)(s1:Int):Option (Int⊕(Unit⊕Bool)):=
 cond (decide (s1<(x1.length:Int))) (
  (ixO x1 s1).bind fun v1=>
  (zV5 v1 x0.Prime x0.Dim).bind fun r2=>
  cond (!r2) (
   iF (.inr (.inr iI))) (
   (rng (s1+1)).bind fun v3=>
   iF (.inl v3))) (
  iF (.inr (.inl ())))
def yAI(x0:zB)(x1:iN):Option Bool:=
 (zI (zQY x0 x1) 0).bind fun r4=>
 match r4 with
 |(.inl _)=>
  iF iH
 |(.inr r4)=>
  iF r4
def zNC(x0:zB)(x1:iN)(x2:iM)(s1:(iM)×Int):Option ((iM×Int)⊕iM):=
 cond (decide (s1.2<(x2.length:Int))) (
  (ixO x2 s1.2).bind fun v2=>
  (rng (v2-1)).bind fun v3=>
  (zPn x0 v3).bind fun r4=>
  (zVC s1.1 r4).bind fun r5=>
  (rng (v2-1)).bind fun v6=>
  (ixO x1 v6).bind fun v7=>
  (f_v r5 v7 1 x0.Prime).bind fun r8=>
  (rng (s1.2+1)).bind fun v9=>
  iF (.inl (r8,v9))) (
  iF (.inr s1.1))
def zWb(x0:zB)(x1:iN)(x2:iM):Option iM:=
 (xI x0.Dim).bind fun m1=>
 (zI (zNC x0 x1 x2) (J1 m1 (0:Int),0)).bind fun r10=>
 iF r10
def zND(x1:zB)(x2:iN)(r1:(List (iM×iM)))(s1:(iN)×Int):Option ((iN×Int)⊕iN):=
 cond (decide (s1.2<(r1.length:Int))) (
  (ixO r1 s1.2).bind fun v2=>
  (zWb x1 x2 v2.1).bind fun r3=>
  (zWb x1 x2 v2.2).bind fun r4=>
  (f_v r3 r4 (-1) x1.Prime).bind fun r5=>
  (xS s1.1 [r5]).bind fun v6=>
  (rng (s1.2+1)).bind fun v7=>
  iF (.inl (v6,v7))) (
  iF (.inr s1.1))
def zXV(x0:SPr)(x1:zB)(x2:iN):Option iN:=
 (f_D x0).bind fun r1=>
 (zI (zND x1 x2 r1) ([],0)).bind fun r8=>
 iF r8
def zXW(x0:SPr)(x1:zB)(x2:iN):Option Bool:=
 (zVX x0).bind fun r1=>
 cond ((x2.length:Int)==r1) (
  (yAG x1 x2).bind fun r2=>
  iF r2) (
  iF iI)
def zNE(x0:zZ):Option zJ:=
 cond (decide ((x0.zNU.length:Int)> 0)) (
  (ixO x0.zNU 0).bind fun v1=>
  (xI (x0.p.zA.length:Int)).bind fun m2=>
  (xI (v1.length:Int)).bind fun m3=>
  iF (zJ.mk (J1 m2 (0:Int)) (J1 m3 (0:Int)))) (
  (xI (x0.p.zA.length:Int)).bind fun m4=>
  (xI 0).bind fun m5=>
  iF (zJ.mk (J1 m4 (0:Int)) (J1 m5 (0:Int))))
def zL3(x0:zZ)(x1:Int)(x2:Int):Option zJ:=
 (ixO x0.p.zG x1).bind fun v1=>
 (rng (x2-x1)).bind fun v2=>
 (rng (v2-1)).bind fun v3=>
 (ixO v1 v3).bind fun v4=>
 (yAF (x0.p.zA.length:Int) x1 x2).bind fun r5=>
 (ixO x0.zNU r5).bind fun v6=>
 iF (zJ.mk v4 v6)
def zL4(x0:zB)(x1:iM)(x2:Int)(s1:(iM)×Int):Option ((iM×Int)⊕iM):=
 cond (decide (s1.2<(x1.length:Int))) (
  (rng (s1.2+x0.Dim)).bind fun v1=>
  (yD x1 s1.2 v1).bind fun v2=>
  (ixO x0.zF x2).bind fun v3=>
  (f_M x0.Prime v2 v3 x0.Dim).bind fun r4=>
  (xS s1.1 r4).bind fun v5=>
  (rng (s1.2+x0.Dim)).bind fun v6=>
  iF (.inl (v5,v6))) (
  iF (.inr s1.1))
def f_X(x0:zB)(x1:iM)(x2:Int):Option iM:=
 (zI (zL4 x0 x1 x2) ([],0)).bind fun r7=>
 iF r7
def zPw(x0:zZ)(x1:Int):Option zJ:=
 (ixO x0.p.zV x1).bind fun v1=>
 (ixO x0.zNU x1).bind fun v2=>
 iF (zJ.mk v1 v2)
def zXX(g_d:zZ→Int→zJ→zJ→Option zJ)(x0:zZ)(x1:Int)(x2:zJ)(s5:(iM)×iM×Int)(s6:(iM)×iM×Int):Option ((iM×iM×Int)⊕(iM×iM)):=
 (ixO x2.x s5.2.2).bind fun v3=>
 cond (decide (s6.2.2<v3)) (
  (rng (x1+1)).bind fun v4=>
  (zL3 x0 x1 s5.2.2).bind fun r5=>
  (g_d x0 v4 (zJ.mk s6.1 s6.2.1) r5).bind fun r6=>
  (rng (s6.2.2+1)).bind fun v7=>
  iF (.inl (r6.x,r6.v,v7))) (
  iF (.inr (s6.1,s6.2.1)))
def zWc(g_d:zZ→Int→zJ→zJ→Option zJ)(x0:zZ)(x1:Int)(x2:zJ)(s5:(iM)×iM×Int):Option ((iM×iM×Int)⊕(iM×iM)):=
 cond (decide (s5.2.2<(x2.x.length:Int))) (
  (zI (zXX g_d x0 x1 x2 s5) (s5.1,s5.2.1,0)).bind fun r8=>
  (rng (s5.2.2+1)).bind fun v9=>
  iF (.inl (r8.1,r8.2,v9))) (
  iF (.inr (s5.1,s5.2.1)))
def b_h(g_d:zZ→Int→zJ→zJ→Option zJ)(x0:zZ)(x1:Int)(x2:zJ):Option zJ:=
 (zNE x0).bind fun r1=>
 (rng (x1+1)).bind fun v2=>
 (zI (zWc g_d x0 x1 x2) (r1.x,r1.v,v2)).bind fun r10=>
 (f_X x0.m x2.v x1).bind fun r11=>
 (f_A x0.m.Prime r10.2 1 r11).bind fun r12=>
 iF (zJ.mk r10.1 r12)
def zSe(g_h:zZ→Int→zJ→Option zJ)(x0:zZ)(x1:Int)(x3:zJ)(s1:(iM)×iM×Int):Option ((iM×iM×Int)⊕(iM×iM)):=
 (ixO x3.x x1).bind fun v7=>
 cond (decide (s1.2.2<v7)) (
  (g_h x0 x1 (zJ.mk s1.1 s1.2.1)).bind fun r8=>
  (rng (s1.2.2+1)).bind fun v9=>
  iF (.inl (r8.x,r8.v,v9))) (
  iF (.inr (s1.1,s1.2.1)))
def b_d(g_h:zZ→Int→zJ→Option zJ)(g_d:zZ→Int→zJ→zJ→Option zJ)(x0:zZ)(x1:Int)(x2:zJ)(x3:zJ):Option zJ:=
 cond (decide (x1≥(x0.p.zA.length:Int))) (
  (xI (x0.p.zA.length:Int)).bind fun m1=>
  (f_A x0.m.Prime x2.v 1 x3.v).bind fun r2=>
  iF (zJ.mk (J1 m1 (0:Int)) r2)) (
  (f_y x2.x).bind fun r3=>
  (f_y x3.x).bind fun r4=>
  (ixO r3 x1).bind fun _=>
  (ixO r4 x1).bind fun _=>
  (zI (zSe g_h x0 x1 x3) (r3.set x1.toNat 0,x2.v,0)).bind fun r10=>
  (rng (x1+1)).bind fun v11=>
  (g_d x0 v11 (zJ.mk r10.1 r10.2) (zJ.mk (r4.set x1.toNat 0) x3.v)).bind fun r12=>
  (ixO x2.x x1).bind fun v13=>
  (ixO x3.x x1).bind fun v14=>
  (rng (v13+v14)).bind fun v15=>
  (ixO x0.p.zA x1).bind fun v16=>
  cond (decide (v15≥v16)) (
   (ixO x0.p.zA x1).bind fun v17=>
   (rng (v15-v17)).bind fun v18=>
   (rng (x1+1)).bind fun v19=>
   (zPw x0 x1).bind fun r20=>
   (g_d x0 v19 r20 r12).bind fun r21=>
   (f_y r21.x).bind fun r22=>
   (ixO r22 x1).bind fun _=>
   iF (zJ.mk (r22.set x1.toNat v18) r21.v)) (
   (f_y r12.x).bind fun r24=>
   (ixO r24 x1).bind fun _=>
   iF (zJ.mk (r24.set x1.toNat v15) r12.v)))
mutual
def zPx:Nat→zZ→Int→zJ→Option zJ
 |0=>fun _ _ _=>iG
 |n+1=>b_h (zPy n)
def zPy:Nat→zZ→Int→zJ→zJ→Option zJ
 |0=>fun _ _ _ _=>iG
 |n+1=>b_d (zPx n) (zPy n)
end
def f_h(x0:zZ)(x1:Int)(x2:zJ):Option zJ:=zDT fun n=>zPx n x0 x1 x2
def f_d(x0:zZ)(x1:Int)(x2:zJ)(x3:zJ):Option zJ:=zDT fun n=>zPy n x0 x1 x2 x3
def zNF(x0:zZ)(x1:zJ)(x2:zJ):Option iM:=
 (rng (x0.m.Prime-1)).bind fun v1=>
 (f_A x0.m.Prime x1.v v1 x2.v).bind fun r2=>
 iF r2
def zSf(x0:zZ)(x1:Int)(s9:(iN)×Int)(s10:(iM)×iM×Int):Option ((iM×iM×Int)⊕(iM×iM)):=
 (ixO x0.p.zA s9.2).bind fun v3=>
 cond (decide (s10.2.2<v3)) (
  (rng (x1+1)).bind fun v4=>
  (zL3 x0 x1 s9.2).bind fun r5=>
  (f_d x0 v4 (zJ.mk s10.1 s10.2.1) r5).bind fun r6=>
  (rng (s10.2.2+1)).bind fun v7=>
  iF (.inl (r6.x,r6.v,v7))) (
  iF (.inr (s10.1,s10.2.1)))
def zSg(x0:zZ)(x1:Int)(s9:(iN)×Int)(s12:(iN)×Int):Option ((iN×Int)⊕iN):=
 cond (decide (s12.2<(x0.p.zA.length:Int))) (
  (zL3 x0 x1 s9.2).bind fun r14=>
  (zL3 x0 x1 s12.2).bind fun r15=>
  (zL3 x0 s9.2 s12.2).bind fun r16=>
  (f_h x0 x1 r16).bind fun r17=>
  (rng (x1+1)).bind fun v18=>
  (f_d x0 v18 r15 r14).bind fun r19=>
  (rng (x1+1)).bind fun v20=>
  (f_d x0 v20 r14 r17).bind fun r21=>
  (zNF x0 r19 r21).bind fun r22=>
  (xS s12.1 [r22]).bind fun v23=>
  (rng (s12.2+1)).bind fun v24=>
  iF (.inl (v23,v24))) (
  iF (.inr s12.1))
def zWd(x0:zZ)(x1:Int)(s9:(iN)×Int):Option ((iN×Int)⊕iN):=
 cond (decide (s9.2<(x0.p.zA.length:Int))) (
  (zNE x0).bind fun r2=>
  (zI (zSf x0 x1 s9) (r2.x,r2.v,0)).bind fun r8=>
  (zPw x0 s9.2).bind fun r9=>
  (f_h x0 x1 r9).bind fun r10=>
  (zNF x0 (zJ.mk r8.1 r8.2) r10).bind fun r11=>
  (xS s9.1 [r11]).bind fun v12=>
  (rng (s9.2+1)).bind fun v13=>
  (zI (zSg x0 x1 s9) (v12,v13)).bind fun r25=>
  (rng (s9.2+1)).bind fun v26=>
  iF (.inl (r25,v26))) (
  iF (.inr s9.1))
def zWe(x0:zZ)(x1:Int)(s20:(iM)×iM×Int):Option ((iM×iM×Int)⊕(iM×iM)):=
 (ixO x0.p.zA x1).bind fun v35=>
 cond (decide (s20.2.2<v35)) (
  (f_h x0 x1 (zJ.mk s20.1 s20.2.1)).bind fun r36=>
  (rng (s20.2.2+1)).bind fun v37=>
  iF (.inl (r36.x,r36.v,v37))) (
  iF (.inr (s20.1,s20.2.1)))
def zSh(x0:zZ)(x1:Int)(r28:zJ)(s19:(iN)×Int):Option ((iN×Int)⊕iN):=
 cond (decide (s19.2<(x0.p.zA.length:Int))) (
  (zNE x0).bind fun r33=>
  (ixO r33.x s19.2).bind fun _=>
  (zI (zWe x0 x1) (r33.x.set s19.2.toNat 1,r33.v,0)).bind fun r38=>
  (rng (x1+1)).bind fun v39=>
  (f_d x0 v39 r28 (zJ.mk r38.1 r38.2)).bind fun r40=>
  (rng (x1+1)).bind fun v41=>
  (f_d x0 v41 (zJ.mk (r33.x.set s19.2.toNat 1) r33.v) r28).bind fun r42=>
  (zNF x0 r40 r42).bind fun r43=>
  (xS s19.1 [r43]).bind fun v44=>
  (rng (s19.2+1)).bind fun v45=>
  iF (.inl (v44,v45))) (
  iF (.inr s19.1))
def f_k(x0:zZ)(x1:Int):Option iN:=
 (rng (x1+1)).bind fun v1=>
 (zI (zWd x0 x1) ([],v1)).bind fun r27=>
 (zPw x0 x1).bind fun r28=>
 (f_h x0 x1 r28).bind fun r29=>
 (zNF x0 r29 r28).bind fun r30=>
 (xS r27 [r30]).bind fun v31=>
 (rng (x1+1)).bind fun v32=>
 (zI (zSh x0 x1 r28) (v31,v32)).bind fun r46=>
 iF r46
def zSi(x0:zZ)(s1:(iN)×Int):Option ((iN×Int)⊕iN):=
 cond (decide (s1.2<(x0.p.zA.length:Int))) (
  (f_k x0 s1.2).bind fun r1=>
  (xS s1.1 r1).bind fun v2=>
  (rng (s1.2+1)).bind fun v3=>
  iF (.inl (v2,v3))) (
  iF (.inr s1.1))
def f_P(x0:zZ):Option iN:=
 (zI (zSi x0) ([],0)).bind fun r4=>
 iF r4
def zNG(r1:(iN))(s1:Int):Option (Int⊕(Unit⊕Bool)):=
 cond (decide (s1<(r1.length:Int))) (
  (ixO r1 s1).bind fun v2=>
  (yAH v2).bind fun r3=>
  cond (!r3) (
   iF (.inr (.inr iI))) (
   (rng (s1+1)).bind fun v4=>
   iF (.inl v4))) (
  iF (.inr (.inl ())))
def zWf(x0:SPr)(x1:zB)(x2:iN):Option Bool:=
 (f_P (zZ.mk x0 x1 x2)).bind fun r1=>
 (zI (zNG r1) 0).bind fun r5=>
 match r5 with
 |(.inl _)=>
  iF iH
 |(.inr r5)=>
  iF r5
def zXY(x0:SPr)(x1:zB)(x2:iN):Option Bool:=
 (zVY x0).bind fun r1=>
 cond ((x2.length:Int)==r1) (
  (yAI x1 x2).bind fun r2=>
  iF r2) (
  iF iI)
def zXZ(x0:SPr)(x1:zB)(x2:iN):Option Bool:=
 (f_n x0 x1 x2).bind fun r1=>
 (f_V r1).bind fun r2=>
 iF (r2==0)
def zNH(x0:iN)(s1:(iN)×Int):Option ((iN×Int)⊕iN):=
 cond (decide (s1.2<(x0.length:Int))) (
  (ixO x0 s1.2).bind fun v1=>
  (f_y v1).bind fun r2=>
  (xS s1.1 [r2]).bind fun v3=>
  (rng (s1.2+1)).bind fun v4=>
  iF (.inl (v3,v4))) (
  iF (.inr s1.1))
def zYa(x0:iN):Option iN:=
 (zI (zNH x0) ([],0)).bind fun r5=>
 iF r5
def yAJ(x0:Int)(x1:Int)(x2:iN):Option zO:=
 (f_i x0 x2).bind fun r1=>
 iF (zO.mk x0 x1 r1)
def zYb(x0:Int):Option Bool:=
 iF (x0 != 0)
def zNI(x0:iM)(s1:Int):Option (Int⊕(Unit⊕Int)):=
 cond (decide (s1<(x0.length:Int))) (
  (ixO x0 s1).bind fun v1=>
  (zYb v1).bind fun r2=>
  cond r2 (
   iF (.inr (.inr s1))) (
   (rng (s1+1)).bind fun v3=>
   iF (.inl v3))) (
  iF (.inr (.inl ())))
def zYc(x0:iM):Option Int:=
 (zI (zNI x0) 0).bind fun r4=>
 match r4 with
 |(.inl _)=>
  iF (-1)
 |(.inr r4)=>
  iF r4
def zNJ(x0:iN)(s1:(iM)×Int):Option ((iM×Int)⊕iM):=
 cond (decide (s1.2<(x0.length:Int))) (
  (ixO x0 s1.2).bind fun v1=>
  (zYc v1).bind fun r2=>
  (xS s1.1 [r2]).bind fun v3=>
  (rng (s1.2+1)).bind fun v4=>
  iF (.inl (v3,v4))) (
  iF (.inr s1.1))
def zWg(x0:iN):Option iM:=
 (zI (zNJ x0) ([],0)).bind fun r5=>
 iF r5
def zKn(x0:zO)(r2:(iM))(s1:(iM)×Int):Option ((iM×Int)⊕iM):=
 cond (decide (s1.2<(r2.length:Int))) (
  (ixO r2 s1.2).bind fun v3=>
  (ixO x0.Rows s1.2).bind fun v4=>
  (ixO s1.1 v3).bind fun v5=>
  (rng (0-v5)).bind fun v6=>
  (f_v s1.1 v4 v6 x0.Prime).bind fun r7=>
  (rng (s1.2+1)).bind fun v8=>
  iF (.inl (r7,v8))) (
  iF (.inr s1.1))
def zYd(x0:zO)(x1:iM):Option iM:=
 (f_F x1).bind fun r1=>
 (zWg x0.Rows).bind fun r2=>
 (zI (zKn x0 r2) (r1,0)).bind fun r9=>
 iF r9
def zSj(x0:zO)(x1:zO):Option Bool:=
 cond (x0.Prime != x1.Prime) (
  iF iI) (
  cond (x0.yR != x1.yR) (
   iF iI) (
   (zPo x0.Rows x1.Rows).bind fun r1=>
   cond (!r1) (
    iF iI) (
    iF iH)))
def zNK(x0:iN)(s1:(iM)×Int):Option ((iM×Int)⊕iM):=
 cond (decide (s1.2<(x0.length:Int))) (
  (ixO x0 s1.2).bind fun v1=>
  (xS s1.1 v1).bind fun v2=>
  (rng (s1.2+1)).bind fun v3=>
  iF (.inl (v2,v3))) (
  iF (.inr s1.1))
def zWh(x0:iN):Option iM:=
 (zI (zNK x0) ([],0)).bind fun r4=>
 iF r4
def yAK(x0:Int)(x1:Int)(x2:iN):Option zO:=
 (zYa x2).bind fun r1=>
 iF (zO.mk x0 x1 r1)
def zYe(x0:zO)(x1:Int):Option (Int×zO):=
 (zN1 x0.Rows x1).bind fun r1=>
 iF (r1.1,(zO.mk x0.Prime x0.yR r1.2))
def zWi(x0:zO)(x1:Int):Option Int:=
 (yAE x0.Rows x1).bind fun r1=>
 cond (decide (r1<0)) (
  iF (-1)) (
  iF r1)
def zSk(x2:Int)(r2:(iN))(s1:(iN)×Int):Option ((iN×Int)⊕iN):=
 cond (decide (s1.2<(r2.length:Int))) (
  (ixO r2 s1.2).bind fun v3=>
  (yD v3 0 x2).bind fun v4=>
  (f_U v4).bind fun r5=>
  cond r5 (
   (yD v3 x2 v3.length).bind fun v6=>
   (xS s1.1 [v6]).bind fun v7=>
   (rng (s1.2+1)).bind fun v8=>
   iF (.inl (v7,v8))) (
   (rng (s1.2+1)).bind fun v9=>
   iF (.inl (s1.1,v9)))) (
  iF (.inr s1.1))
def f_O(x0:Int)(x1:iN)(x2:Int):Option iN:=
 (zXP x1).bind fun r1=>
 (f_i x0 r1).bind fun r2=>
 (zI (zSk x2 r2) ([],0)).bind fun r10=>
 (f_i x0 r10).bind fun r11=>
 iF r11
def zNL(x0:iM)(x1:Int)(s1:(iN)×Int):Option ((iN×Int)⊕iN):=
 (rng (s1.2+x1)).bind fun v1=>
 cond (decide (v1≤(x0.length:Int))) (
  (rng (s1.2+x1)).bind fun v2=>
  (yD x0 s1.2 v2).bind fun v3=>
  (f_y v3).bind fun r4=>
  (xS s1.1 [r4]).bind fun v5=>
  (rng (s1.2+x1)).bind fun v6=>
  iF (.inl (v5,v6))) (
  iF (.inr s1.1))
def zWj(x0:iM)(x1:Int):Option iN:=
 (zI (zNL x0 x1) ([],0)).bind fun r7=>
 iF r7
def zWk(x0:SPr)(x1:zB)(x2:iN)(s5:(iN)×Int)(s6:(iM)×Int):Option ((iM×Int)⊕iM):=
 (ixO x0.zA s5.2).bind fun v2=>
 cond (decide (s6.2<v2)) (
  (zNB x1 x2 s6.1 s5.2).bind fun r3=>
  (rng (s6.2+1)).bind fun v4=>
  iF (.inl (r3,v4))) (
  iF (.inr s6.1))
def zWl(x0:SPr)(x1:zB)(x2:iN)(m1:Nat)(s5:(iN)×Int):Option ((iN×Int)⊕iN):=
 cond (decide (s5.2<(x0.zA.length:Int))) (
  (zI (zWk x0 x1 x2 s5) (J1 m1 (0:Int),0)).bind fun r5=>
  (rng (x1.Prime-1)).bind fun v6=>
  (ixO x0.zV s5.2).bind fun v7=>
  (f_S x1 x2 (J1 m1 (0:Int)) v7).bind fun r8=>
  (f_A x1.Prime r5 v6 r8).bind fun r9=>
  (xS s5.1 [r9]).bind fun v10=>
  (rng (s5.2+1)).bind fun v11=>
  iF (.inl (v10,v11))) (
  iF (.inr s5.1))
def zWm(x0:SPr)(x1:zB)(x2:iN)(m1:Nat)(s13:(iN)×Int)(s14:(iN)×Int):Option ((iN×Int)⊕iN):=
 cond (decide (s14.2<(x0.zA.length:Int))) (
  (zNB x1 x2 (J1 m1 (0:Int)) s14.2).bind fun r14=>
  (zNB x1 x2 r14 s13.2).bind fun r15=>
  (zNB x1 x2 (J1 m1 (0:Int)) s13.2).bind fun r16=>
  (ixO x0.zG s13.2).bind fun v17=>
  (rng (s14.2-s13.2)).bind fun v18=>
  (rng (v18-1)).bind fun v19=>
  (ixO v17 v19).bind fun v20=>
  (f_S x1 x2 r16 v20).bind fun r21=>
  (rng (x1.Prime-1)).bind fun v22=>
  (f_A x1.Prime r15 v22 r21).bind fun r23=>
  (xS s14.1 [r23]).bind fun v24=>
  (rng (s14.2+1)).bind fun v25=>
  iF (.inl (v24,v25))) (
  iF (.inr s14.1))
def zWn(x0:SPr)(x1:zB)(x2:iN)(m1:Nat)(s13:(iN)×Int):Option ((iN×Int)⊕iN):=
 cond (decide (s13.2<(x0.zA.length:Int))) (
  (rng (s13.2+1)).bind fun v13=>
  (zI (zWm x0 x1 x2 m1 s13) (s13.1,v13)).bind fun r26=>
  (rng (s13.2+1)).bind fun v27=>
  iF (.inl (r26,v27))) (
  iF (.inr s13.1))
def f_t(x0:SPr)(x1:zB)(x2:iN):Option iN:=
 (xI x1.Dim).bind fun m1=>
 (zI (zWl x0 x1 x2 m1) ([],0)).bind fun r12=>
 (zI (zWn x0 x1 x2 m1) (r12,0)).bind fun r28=>
 iF r28
def zNM(x0:SPr)(x1:zB)(v1:Int)(s1:(iN)×Int):Option ((iN×Int)⊕iN):=
 cond (decide (s1.2<v1)) (
  (xI v1).bind fun m2=>
  (ixO (J1 m2 (0:Int)) s1.2).bind fun _=>
  (zWj ((J1 m2 (0:Int)).set s1.2.toNat 1) x1.Dim).bind fun r4=>
  (f_t x0 x1 r4).bind fun r5=>
  (zWh r5).bind fun r6=>
  (xS s1.1 [r6]).bind fun v7=>
  (rng (s1.2+1)).bind fun v8=>
  iF (.inl (v7,v8))) (
  iF (.inr s1.1))
def zYf(x0:SPr)(x1:zB):Option iN:=
 (rng ((x0.zA.length:Int)*x1.Dim)).bind fun v1=>
 (zI (zNM x0 x1 v1) ([],0)).bind fun r9=>
 iF r9
def zNN(x0:SPr)(x1:zB):Option iN:=
 (zYf x0 x1).bind fun r1=>
 (f_r x1.Prime r1).bind fun r2=>
 iF r2
def zNO(x0:SPr)(x1:zB)(v1:Int)(s1:(iN)×Int):Option ((iN×Int)⊕iN):=
 cond (decide (s1.2<v1)) (
  (zL0 v1 s1.2).bind fun r2=>
  (zSb r2 x1.Dim).bind fun r3=>
  (zXV x0 x1 r3).bind fun r4=>
  (f_q r4).bind fun r5=>
  (xS s1.1 [r5]).bind fun v6=>
  (rng (s1.2+1)).bind fun v7=>
  iF (.inl (v6,v7))) (
  iF (.inr s1.1))
def zWo(x0:SPr)(x1:zB):Option iN:=
 (rng ((x0.zA.length:Int)*x1.Dim)).bind fun v1=>
 (zI (zNO x0 x1 v1) ([],0)).bind fun r8=>
 iF r8
def zSl(x0:SPr)(x1:zB)(x2:iM):Option iN:=
 (zWo x0 x1).bind fun r1=>
 (yAJ x1.Prime x1.Dim r1).bind fun r2=>
 (zYd r2 x2).bind fun r3=>
 (zSb r3 x1.Dim).bind fun r4=>
 iF r4
structure zN where
 Word:iM
 Left:iM
 zZj:iM
abbrev zH(x:zN):T:=.agg [(L 1 I) x.Word,(L 1 I) x.Left,(L 1 I) x.zZj]
instance:Enc zH:=.of fun _=>zOj ⟨Enc.t (f:=(L 1 I)) inferInstance _,Enc.t (f:=(L 1 I)) inferInstance _,Enc.t (f:=(L 1 I)) inferInstance _,trivial⟩
structure xR where
 p:SPr
 m:zB
 sums:List zO
abbrev zKo(x:xR):T:=.agg [(Pt yH) x.p,(Pt zR) x.m,(L 3 zK) x.sums]
instance:Enc zKo:=.of fun _=>zOj ⟨Enc.t (f:=(Pt yH)) inferInstance _,Enc.t (f:=(Pt zR)) inferInstance _,Enc.t (f:=(L 3 zK)) inferInstance _,trivial⟩
def zSm(x1:zB)(s5:(iN)×Int)(s6:(iM)×Int):Option ((iM×Int)⊕iM):=
 cond (decide (s6.2<x1.Dim)) (
  (rng (s5.2*x1.Dim)).bind fun v5=>
  (rng (v5+s6.2)).bind fun v6=>
  (rng (v6*x1.Dim)).bind fun v7=>
  (rng (v7+s6.2)).bind fun v8=>
  (ixO s6.1 v8).bind fun _=>
  (rng (s6.2+1)).bind fun v10=>
  iF (.inl (s6.1.set v8.toNat 1,v10))) (
  iF (.inr s6.1))
def zWp(x1:zB)(r1:Int)(v2:Int)(s5:(iN)×Int):Option ((iN×Int)⊕iN):=
 cond (decide (s5.2<r1)) (
  (rng (v2*x1.Dim)).bind fun v3=>
  (xI v3).bind fun m4=>
  (zI (zSm x1 s5) (J1 m4 (0:Int),0)).bind fun r11=>
  (xS s5.1 [r11]).bind fun v12=>
  (rng (s5.2+1)).bind fun v13=>
  iF (.inl (v12,v13))) (
  iF (.inr s5.1))
def zSn(x1:zB)(r15:(iN))(s13:(iN)×Int)(s14:(iM)×Int):Option ((iM×Int)⊕iM):=
 cond (decide (s14.2<(r15.length:Int))) (
  (ixO r15 s14.2).bind fun v16=>
  (rng (s13.2*x1.Dim)).bind fun v17=>
  (rng (s13.2+1)).bind fun v18=>
  (rng (v18*x1.Dim)).bind fun v19=>
  (yD v16 v17 v19).bind fun v20=>
  (xS s14.1 v20).bind fun v21=>
  (rng (s14.2+1)).bind fun v22=>
  iF (.inl (v21,v22))) (
  iF (.inr s14.1))
def zWq(x1:zB)(v2:Int)(r15:(iN))(s13:(iN)×Int):Option ((iN×Int)⊕iN):=
 cond (decide (s13.2<v2)) (
  (zI (zSn x1 r15 s13) ([],0)).bind fun r23=>
  (xS s13.1 [r23]).bind fun v24=>
  (rng (s13.2+1)).bind fun v25=>
  iF (.inl (v24,v25))) (
  iF (.inr s13.1))
def f_m(x0:SPr)(x1:zB):Option iN:=
 (zVX x0).bind fun r1=>
 (rng (r1*x1.Dim)).bind fun v2=>
 (zI (zWp x1 r1 v2) ([],0)).bind fun r14=>
 (f_P (zZ.mk x0 x1 r14)).bind fun r15=>
 (zI (zWq x1 v2 r15) ([],0)).bind fun r26=>
 (rng ((r15.length:Int)*x1.Dim)).bind fun v27=>
 (zXU x1.Prime r26 v27).bind fun r28=>
 iF r28
def zPz(x0:SPr)(x1:iM)(x2:Int):Option iM:=
 (rng (x2+1)).bind fun v1=>
 cond (decide (v1<(x1.length:Int))) (
  (ixO x1 x2).bind fun v2=>
  (rng (x2+1)).bind fun v3=>
  (ixO x1 v3).bind fun v4=>
  cond (decide (v2> v4)) (
   (ixO x1 x2).bind fun v5=>
   (rng (v5-1)).bind fun v6=>
   (rng (x2+1)).bind fun v7=>
   (ixO x1 v7).bind fun v8=>
   (rng (v8-1)).bind fun v9=>
   (yD x1 0 x2).bind fun v10=>
   (rng (v9+1)).bind fun v11=>
   (ixO x0.zG v9).bind fun v12=>
   (rng (v6-v9)).bind fun v13=>
   (rng (v13-1)).bind fun v14=>
   (ixO v12 v14).bind fun v15=>
   (f_z v15).bind fun r16=>
   (rng (x2+2)).bind fun v17=>
   (yD x1 v17 x1.length).bind fun v18=>
   (f_q [v10,[v11],r16,v18]).bind fun r19=>
   iF r19) (
   (ixO x1 x2).bind fun v20=>
   (rng (v20-1)).bind fun v21=>
   (yD x1 0 x2).bind fun v22=>
   (ixO x0.zV v21).bind fun v23=>
   (f_z v23).bind fun r24=>
   (ixO x0.zA v21).bind fun v25=>
   (rng (x2+v25)).bind fun v26=>
   (yD x1 v26 x1.length).bind fun v27=>
   (f_q [v22,r24,v27]).bind fun r28=>
   iF r28)) (
  (ixO x1 x2).bind fun v2=>
  (rng (v2-1)).bind fun v3=>
  (yD x1 0 x2).bind fun v4=>
  (ixO x0.zV v3).bind fun v5=>
  (f_z v5).bind fun r6=>
  (ixO x0.zA v3).bind fun v7=>
  (rng (x2+v7)).bind fun v8=>
  (yD x1 v8 x1.length).bind fun v9=>
  (f_q [v4,r6,v9]).bind fun r10=>
  iF r10)
def f_Z(x0:iM)(x1:Int)(x2:List zN)(x3:SPr):Option (List zN):=
 (zPz x3 x0 0).bind fun r1=>
 (zPz x3 x0 x1).bind fun r2=>
 (xS x2 [(zN.mk x0 r1 r2)]).bind fun v3=>
 iF v3
def zNP(x0:Int)(x1:Int):Option iM:=
 (f_l [x0] x1).bind fun r1=>
 iF r1
def zSo(x0:SPr)(s17:(List zN)×Int)(s22:(List zN)×Int)(s23:(List zN)×Int):Option (((List zN)×Int)⊕(List zN)):=
 cond (decide (s23.2≤(x0.zA.length:Int))) (
  (f_Z [s23.2,s22.2,s17.2] 1 s23.1 x0).bind fun r3=>
  (rng (s23.2+1)).bind fun v4=>
  iF (.inl (r3,v4))) (
  iF (.inr s23.1))
def zSp(x0:SPr)(s17:(List zN)×Int)(s22:(List zN)×Int):Option (((List zN)×Int)⊕(List zN)):=
 cond (decide (s22.2≤(x0.zA.length:Int))) (
  (rng (s22.2+1)).bind fun v2=>
  (zI (zSo x0 s17 s22) (s22.1,v2)).bind fun r5=>
  (rng (s22.2+1)).bind fun v6=>
  iF (.inl (r5,v6))) (
  iF (.inr s22.1))
def zSq(x0:SPr)(s17:(List zN)×Int):Option (((List zN)×Int)⊕(List zN)):=
 cond (decide (s17.2≤(x0.zA.length:Int))) (
  (rng (s17.2+1)).bind fun v1=>
  (zI (zSp x0 s17) (s17.1,v1)).bind fun r7=>
  (rng (s17.2+1)).bind fun v8=>
  iF (.inl (r7,v8))) (
  iF (.inr s17.1))
def zSr(x0:SPr)(s31:(List zN)×Int)(s32:(List zN)×Int):Option (((List zN)×Int)⊕(List zN)):=
 cond (decide (s32.2≤(x0.zA.length:Int))) (
  (rng (s32.2-1)).bind fun v11=>
  (ixO x0.zA v11).bind fun v12=>
  (zNP s32.2 v12).bind fun r13=>
  (xS r13 [s31.2]).bind fun v14=>
  (rng (s32.2-1)).bind fun v15=>
  (ixO x0.zA v15).bind fun v16=>
  (rng (v16-1)).bind fun v17=>
  (f_Z v14 v17 s32.1 x0).bind fun r18=>
  (rng (s32.2+1)).bind fun v19=>
  iF (.inl (r18,v19))) (
  iF (.inr s32.1))
def zSs(x0:SPr)(s31:(List zN)×Int):Option (((List zN)×Int)⊕(List zN)):=
 cond (decide (s31.2≤(x0.zA.length:Int))) (
  (rng (s31.2+1)).bind fun v10=>
  (zI (zSr x0 s31) (s31.1,v10)).bind fun r20=>
  (rng (s31.2+1)).bind fun v21=>
  iF (.inl (r20,v21))) (
  iF (.inr s31.1))
def zSt(x0:SPr)(s39:(List zN)×Int)(s40:(List zN)×Int):Option (((List zN)×Int)⊕(List zN)):=
 cond (decide (s40.2≤(x0.zA.length:Int))) (
  (rng (s39.2-1)).bind fun v24=>
  (ixO x0.zA v24).bind fun v25=>
  (zNP s39.2 v25).bind fun r26=>
  (xS [s40.2] r26).bind fun v27=>
  (f_Z v27 1 s40.1 x0).bind fun r28=>
  (rng (s40.2+1)).bind fun v29=>
  iF (.inl (r28,v29))) (
  iF (.inr s40.1))
def zSu(x0:SPr)(s39:(List zN)×Int):Option (((List zN)×Int)⊕(List zN)):=
 cond (decide (s39.2≤(x0.zA.length:Int))) (
  (rng (s39.2+1)).bind fun v23=>
  (zI (zSt x0 s39) (s39.1,v23)).bind fun r30=>
  (rng (s39.2+1)).bind fun v31=>
  iF (.inl (r30,v31))) (
  iF (.inr s39.1))
def zSv(x0:SPr)(s43:(List zN)×Int):Option (((List zN)×Int)⊕(List zN)):=
 cond (decide (s43.2≤(x0.zA.length:Int))) (
  (rng (s43.2-1)).bind fun v33=>
  (ixO x0.zA v33).bind fun v34=>
  (rng (v34+1)).bind fun v35=>
  (zNP s43.2 v35).bind fun r36=>
  (f_Z r36 1 s43.1 x0).bind fun r37=>
  (rng (s43.2+1)).bind fun v38=>
  iF (.inl (r37,v38))) (
  iF (.inr s43.1))
def f_e(x0:SPr):Option (List zN):=
 (zI (zSq x0) ([],1)).bind fun r9=>
 (zI (zSs x0) (r9,1)).bind fun r22=>
 (zI (zSu x0) (r22,1)).bind fun r32=>
 (zI (zSv x0) (r32,1)).bind fun r39=>
 iF r39
def zYg(x0:xR)(x1:iM)(x2:Int):Option Int:=
 (rng (x2+1)).bind fun v1=>
 cond (decide (v1<(x1.length:Int))) (
  (ixO x1 x2).bind fun v2=>
  (rng (x2+1)).bind fun v3=>
  (ixO x1 v3).bind fun v4=>
  cond (decide (v2> v4)) (
   (ixO x1 x2).bind fun v5=>
   (rng (v5-1)).bind fun v6=>
   (rng (x2+1)).bind fun v7=>
   (ixO x1 v7).bind fun v8=>
   (rng (v8-1)).bind fun v9=>
   (rng ((x0.p.zA.length:Int)-1)).bind fun v10=>
   (rng (v9*v10)).bind fun v11=>
   (rng ((x0.p.zA.length:Int)+v11)).bind fun v12=>
   (rng (v9-1)).bind fun v13=>
   (rng (v9*v13)).bind fun v14=>
   (sK v14 2).bind fun v15=>
   (rng (v12-v15)).bind fun v16=>
   (rng (v16+v6)).bind fun v17=>
   (rng (v17-v9)).bind fun v18=>
   (rng (v18-1)).bind fun v19=>
   iF v19) (
   (ixO x1 x2).bind fun v20=>
   (rng (v20-1)).bind fun v21=>
   iF v21)) (
  (ixO x1 x2).bind fun v2=>
  (rng (v2-1)).bind fun v3=>
  iF v3)
def zWr(x0:xR)(x3:Int)(r1:Int)(r9:zO)(s1:(List zO)×Int):Option (((List zO)×Int)⊕(List zO)):=
 cond (decide (s1.2<(r9.Rows.length:Int))) (
  (ixO r9.Rows s1.2).bind fun v10=>
  (ixO s1.1 r1).bind fun v11=>
  (ixO v11.Rows s1.2).bind fun v12=>
  (f_v v12 v10 x3 x0.m.Prime).bind fun r13=>
  (rng (s1.2+1)).bind fun v14=>
  iF (.inl (s1.1.set r1.toNat (zO.mk v11.Prime v11.yR (v11.Rows.set s1.2.toNat r13)),v14))) (
  iF (.inr s1.1))
def zWs(x0:xR)(x3:Int)(r1:Int)(r12:zO)(s3:(List zO)×Int):Option (((List zO)×Int)⊕(List zO)):=
 cond (decide (s3.2<(r12.Rows.length:Int))) (
  (ixO r12.Rows s3.2).bind fun v13=>
  (ixO s3.1 r1).bind fun v14=>
  (ixO v14.Rows s3.2).bind fun v15=>
  (f_v v15 v13 x3 x0.m.Prime).bind fun r16=>
  (rng (s3.2+1)).bind fun v17=>
  iF (.inl (s3.1.set r1.toNat (zO.mk v14.Prime v14.yR (v14.Rows.set s3.2.toNat r16)),v17))) (
  iF (.inr s3.1))
def zWt(x0:xR)(x3:Int)(r1:Int)(r21:zO)(s5:(List zO)×Int):Option (((List zO)×Int)⊕(List zO)):=
 cond (decide (s5.2<(r21.Rows.length:Int))) (
  (ixO r21.Rows s5.2).bind fun v22=>
  (ixO s5.1 r1).bind fun v23=>
  (ixO v23.Rows s5.2).bind fun v24=>
  (f_v v24 v22 x3 x0.m.Prime).bind fun r25=>
  (rng (s5.2+1)).bind fun v26=>
  iF (.inl (s5.1.set r1.toNat (zO.mk v23.Prime v23.yR (v23.Rows.set s5.2.toNat r25)),v26))) (
  iF (.inr s5.1))
def f_j(x0:xR)(x1:iM)(x2:Int)(x3:Int):Option (iM×xR):=
 (zYg x0 x1 x2).bind fun r1=>
 (zPz x0.p x1 x2).bind fun r2=>
 (rng (x2+1)).bind fun v3=>
 cond (decide (v3≥(x1.length:Int))) (
  (ixO x1 x2).bind fun v4=>
  (rng (v4-1)).bind fun v5=>
  (ixO x0.p.zA v5).bind fun v6=>
  (rng (x2+v6)).bind fun v7=>
  (yD x1 v7 x1.length).bind fun v8=>
  (f_H x0.m v8).bind fun r9=>
  (zI (zWr x0 x3 r1 r9) (x0.sums,0)).bind fun r15=>
  iF (r2,(xR.mk x0.p x0.m r15))) (
  (ixO x1 x2).bind fun v4=>
  (rng (x2+1)).bind fun v5=>
  (ixO x1 v5).bind fun v6=>
  cond (decide (v4≤v6)) (
   (ixO x1 x2).bind fun v7=>
   (rng (v7-1)).bind fun v8=>
   (ixO x0.p.zA v8).bind fun v9=>
   (rng (x2+v9)).bind fun v10=>
   (yD x1 v10 x1.length).bind fun v11=>
   (f_H x0.m v11).bind fun r12=>
   (zI (zWs x0 x3 r1 r12) (x0.sums,0)).bind fun r18=>
   iF (r2,(xR.mk x0.p x0.m r18))) (
   (rng (x2+2)).bind fun v19=>
   (yD x1 v19 x1.length).bind fun v20=>
   (f_H x0.m v20).bind fun r21=>
   (zI (zWt x0 x3 r1 r21) (x0.sums,0)).bind fun r27=>
   iF (r2,(xR.mk x0.p x0.m r27))))
def zP0(x1:iM)(x2:Int)(v10:iM)(s1:Int):Option (Int⊕(Unit⊕Bool)):=
 cond (decide (s1<(v10.length:Int))) (
  (ixO v10 s1).bind fun v11=>
  (ixO x1 x2).bind fun v12=>
  cond (v11 != v12) (
   iF (.inr (.inr iI))) (
   (rng (s1+1)).bind fun v13=>
   iF (.inl v13))) (
  iF (.inr (.inl ())))
def zP1(x1:iM)(x2:Int)(v7:iM)(s3:Int):Option (Int⊕(Unit⊕Bool)):=
 cond (decide (s3<(v7.length:Int))) (
  (ixO v7 s3).bind fun v8=>
  (ixO x1 x2).bind fun v9=>
  cond (v8 != v9) (
   iF (.inr (.inr iI))) (
   (rng (s3+1)).bind fun v10=>
   iF (.inl v10))) (
  iF (.inr (.inl ())))
def f_I(x0:SPr)(x1:iM)(x2:Int):Option Bool:=
 (rng (x2+1)).bind fun v1=>
 cond (decide (v1<(x1.length:Int))) (
  (ixO x1 x2).bind fun v2=>
  (rng (x2+1)).bind fun v3=>
  (ixO x1 v3).bind fun v4=>
  cond (decide (v2> v4)) (
   iF iH) (
   (ixO x1 x2).bind fun v5=>
   (rng (v5-1)).bind fun v6=>
   (ixO x0.zA v6).bind fun v7=>
   (rng (x2+v7)).bind fun v8=>
   cond (decide (v8> (x1.length:Int))) (
    iF iI) (
    (rng (x2+v7)).bind fun v9=>
    (yD x1 x2 v9).bind fun v10=>
    (zI (zP0 x1 x2 v10) 0).bind fun r14=>
    match r14 with
    |(.inl _)=>
     iF iH
    |(.inr r14)=>
     iF r14))) (
  (ixO x1 x2).bind fun v2=>
  (rng (v2-1)).bind fun v3=>
  (ixO x0.zA v3).bind fun v4=>
  (rng (x2+v4)).bind fun v5=>
  cond (decide (v5> (x1.length:Int))) (
   iF iI) (
   (rng (x2+v4)).bind fun v6=>
   (yD x1 x2 v6).bind fun v7=>
   (zI (zP1 x1 x2 v7) 0).bind fun r11=>
   match r11 with
   |(.inl _)=>
    iF iH
   |(.inr r11)=>
    iF r11))
def zWu(x0:SPr)(x1:iM)(s1:Int):Option (Int⊕(Unit⊕Int)):=
 cond (decide (s1<(x1.length:Int))) (
  (f_I x0 x1 s1).bind fun r1=>
  cond r1 (
   iF (.inr (.inr s1))) (
   (rng (s1+1)).bind fun v2=>
   iF (.inl v2))) (
  iF (.inr (.inl ())))
def f_Y(x0:SPr)(x1:iM):Option Int:=
 (zI (zWu x0 x1) 0).bind fun r3=>
 match r3 with
 |(.inl _)=>
  iF (-1)
 |(.inr r3)=>
  iF r3
def zWv(x2:Int)(s1:SPr×zB×(List zO)×iM×Int):Option ((SPr×zB×(List zO)×iM×Int)⊕(SPr×zB×(List zO))):=
 cond (decide (s1.2.2.2.2≥0)) (
  (f_j (xR.mk s1.1 s1.2.1 s1.2.2.1) s1.2.2.2.1 s1.2.2.2.2 x2).bind fun r2=>
  (f_Y r2.2.p r2.1).bind fun r3=>
  iF (.inl (r2.2.p,r2.2.m,r2.2.sums,r2.1,r3))) (
  iF (.inr (s1.1,s1.2.1,s1.2.2.1)))
def f_u(x0:xR)(x1:iM)(x2:Int):Option xR:=
 (f_Y x0.p x1).bind fun r1=>
 (zI (zWv x2) (x0.p,x0.m,x0.sums,x1,r1)).bind fun r4=>
 iF (xR.mk r4.1 r4.2.1 r4.2.2)
def zSw(r6:zO)(s71:(iN)×Int):Option ((iN×Int)⊕iN):=
 cond (decide (s71.2<(r6.Rows.length:Int))) (
  (ixO s71.1 s71.2).bind fun v7=>
  (ixO v7 s71.2).bind fun _=>
  (rng (s71.2+1)).bind fun v9=>
  iF (.inl (s71.1.set s71.2.toNat (v7.set s71.2.toNat 0),v9))) (
  iF (.inr s71.1))
def zSx(x1:zB)(r1:Int)(s70:(List zO)×Int):Option (((List zO)×Int)⊕(List zO)):=
 cond (decide (s70.2<r1)) (
  (f_G x1.Prime x1.Dim).bind fun r6=>
  (zI (zSw r6) (r6.Rows,0)).bind fun r10=>
  (xS s70.1 [(zO.mk r6.Prime r6.yR r10)]).bind fun v11=>
  (rng (s70.2+1)).bind fun v12=>
  iF (.inl (v11,v12))) (
  iF (.inr s70.1))
def zSy(x1:zB)(s78:(iN)×Int)(v23:zO)(s79:(iN)×Int):Option ((iN×Int)⊕iN):=
 cond (decide (s79.2<(v23.Rows.length:Int))) (
  (ixO v23.Rows s79.2).bind fun v24=>
  (rng (s78.2*x1.Dim)).bind fun v25=>
  (rng (v25+s79.2)).bind fun v26=>
  (ixO s79.1 v26).bind fun v27=>
  (xS v27 v24).bind fun v28=>
  (rng (s79.2+1)).bind fun v29=>
  iF (.inl (s79.1.set v26.toNat v28,v29))) (
  iF (.inr s79.1))
def zNQ(x1:zB)(r22:xR)(s78:(iN)×Int):Option ((iN×Int)⊕iN):=
 cond (decide (s78.2<(r22.sums.length:Int))) (
  (ixO r22.sums s78.2).bind fun v23=>
  (zI (zSy x1 s78 v23) (s78.1,0)).bind fun r30=>
  (rng (s78.2+1)).bind fun v31=>
  iF (.inl (r30,v31))) (
  iF (.inr s78.1))
def yCN(x1:zB)(s86:(iN)×Int)(v38:zO)(s87:(iN)×Int):Option ((iN×Int)⊕iN):=
 cond (decide (s87.2<(v38.Rows.length:Int))) (
  (ixO v38.Rows s87.2).bind fun v39=>
  (rng (s86.2*x1.Dim)).bind fun v40=>
  (rng (v40+s87.2)).bind fun v41=>
  (ixO s87.1 v41).bind fun v42=>
  (xS v42 v39).bind fun v43=>
  (rng (s87.2+1)).bind fun v44=>
  iF (.inl (s87.1.set v41.toNat v43,v44))) (
  iF (.inr s87.1))
def yAL(x1:zB)(r37:xR)(s86:(iN)×Int):Option ((iN×Int)⊕iN):=
 cond (decide (s86.2<(r37.sums.length:Int))) (
  (ixO r37.sums s86.2).bind fun v38=>
  (zI (yCN x1 s86 v38) (s86.1,0)).bind fun r45=>
  (rng (s86.2+1)).bind fun v46=>
  iF (.inl (r45,v46))) (
  iF (.inr s86.1))
def yCO(x1:zB)(s94:(iN)×Int)(v20:zO)(s95:(iN)×Int):Option ((iN×Int)⊕iN):=
 cond (decide (s95.2<(v20.Rows.length:Int))) (
  (ixO v20.Rows s95.2).bind fun v21=>
  (rng (s94.2*x1.Dim)).bind fun v22=>
  (rng (v22+s95.2)).bind fun v23=>
  (ixO s95.1 v23).bind fun v24=>
  (xS v24 v21).bind fun v25=>
  (rng (s95.2+1)).bind fun v26=>
  iF (.inl (s95.1.set v23.toNat v25,v26))) (
  iF (.inr s95.1))
def yAM(x1:zB)(r19:xR)(s94:(iN)×Int):Option ((iN×Int)⊕iN):=
 cond (decide (s94.2<(r19.sums.length:Int))) (
  (ixO r19.sums s94.2).bind fun v20=>
  (zI (yCO x1 s94 v20) (s94.1,0)).bind fun r27=>
  (rng (s94.2+1)).bind fun v28=>
  iF (.inl (r27,v28))) (
  iF (.inr s94.1))
def zSz(x0:SPr)(x1:zB)(r1:Int)(r4:(List zN))(s65:(iN)×Int):Option ((iN×Int)⊕iN):=
 cond (decide (s65.2<(r4.length:Int))) (
  (ixO r4 s65.2).bind fun v5=>
  (zI (zSx x1 r1) ([],0)).bind fun r13=>
  (ixO v5.Word 0).bind fun v14=>
  (ixO v5.Word 1).bind fun v15=>
  cond (v14==v15) (
   (rng ((v5.Word.length:Int)-1)).bind fun v16=>
   (ixO v5.Word v16).bind fun v17=>
   cond (v17 != v14) (
    (rng ((v5.Word.length:Int)-2)).bind fun v18=>
    (f_j (xR.mk x0 x1 r13) v5.Word 0 1).bind fun r19=>
    (f_u r19.2 r19.1 1).bind fun r20=>
    (f_j r20 v5.Word v18 (-1)).bind fun r21=>
    (f_u r21.2 r21.1 (-1)).bind fun r22=>
    (zI (zNQ x1 r22) (s65.1,0)).bind fun r32=>
    (rng (s65.2+1)).bind fun v33=>
    iF (.inl (r32,v33))) (
    (f_j (xR.mk x0 x1 r13) v5.Word 0 1).bind fun r34=>
    (f_u r34.2 r34.1 1).bind fun r35=>
    (f_j r35 v5.Word 1 (-1)).bind fun r36=>
    (f_u r36.2 r36.1 (-1)).bind fun r37=>
    (zI (yAL x1 r37) (s65.1,0)).bind fun r47=>
    (rng (s65.2+1)).bind fun v48=>
    iF (.inl (r47,v48)))) (
   (f_j (xR.mk x0 x1 r13) v5.Word 0 1).bind fun r16=>
   (f_u r16.2 r16.1 1).bind fun r17=>
   (f_j r17 v5.Word 1 (-1)).bind fun r18=>
   (f_u r18.2 r18.1 (-1)).bind fun r19=>
   (zI (yAM x1 r19) (s65.1,0)).bind fun r29=>
   (rng (s65.2+1)).bind fun v30=>
   iF (.inl (r29,v30)))) (
  iF (.inr s65.1))
def f_f(x0:SPr)(x1:zB):Option iN:=
 (zVY x0).bind fun r1=>
 (rng (r1*x1.Dim)).bind fun v2=>
 (xI v2).bind fun m3=>
 (f_e x0).bind fun r4=>
 (zI (zSz x0 x1 r1 r4) (J1 m3 ([]:iM),0)).bind fun r31=>
 cond (decide ((r31.length:Int)> 0)) (
  (ixO r31 0).bind fun v32=>
  (f_O x1.Prime r31 (v32.length:Int)).bind fun r33=>
  iF r33) (
  (f_O x1.Prime r31 0).bind fun r34=>
  iF r34)
def zZg(x0:SPr)(s1:Int):Option (Int⊕(Unit⊕Bool)):=
 cond (decide (s1<(x0.zA.length:Int))) (
  (ixO x0.zA s1).bind fun v2=>
  (ixO x0.zA 0).bind fun v3=>
  cond (v2 != v3) (
   iF (.inr (.inr iI))) (
   (rng (s1+1)).bind fun v4=>
   iF (.inl v4))) (
  iF (.inr (.inl ())))
def zYh(x0:SPr):Option Bool:=
 (zVc x0).bind fun r1=>
 cond (!r1) (
  iF iI) (
  cond ((x0.zA.length:Int)==0) (
   iF iI) (
   (zI (zZg x0) 0).bind fun r5=>
   match r5 with
   |(.inl _)=>
    iF iH
   |(.inr r5)=>
    iF r5))
def zWw(x0:SPr)(s1:Int×Int):Option ((Int×Int)⊕Int):=
 cond (decide (s1.2<(x0.zA.length:Int))) (
  (ixO x0.zA s1.2).bind fun v1=>
  (rng (s1.1*v1)).bind fun v2=>
  (rng (s1.2+1)).bind fun v3=>
  iF (.inl (v2,v3))) (
  iF (.inr s1.1))
def zYi(x0:SPr):Option Int:=
 (zI (zWw x0) (1,0)).bind fun r4=>
 iF r4
def zL5(x0:SPr)(x2:Int)(s1:(List iN)×Int):Option (((List iN)×Int)⊕(List iN)):=
 cond (decide (s1.2<(x0.zA.length:Int))) (
  (f_C x2).bind fun r1=>
  (xS s1.1 [r1]).bind fun v2=>
  (rng (s1.2+1)).bind fun v3=>
  iF (.inl (v2,v3))) (
  iF (.inr s1.1))
def f_T(x0:SPr)(x1:Int)(x2:Int):Option zB:=
 (zI (zL5 x0 x2) ([],0)).bind fun r4=>
 iF (zB.mk x1 x2 r4)
def zWx(x0:SPr):Option zB:=
 (ixO x0.zA 0).bind fun v1=>
 (f_T x0 v1 1).bind fun r2=>
 iF r2
def zNR(x1:zB)(r1:(iN))(r2:(iN))(s1:(iN)×Int):Option ((iN×Int)⊕iN):=
 cond (decide (s1.2<(r2.length:Int))) (
  (ixO r2 s1.2).bind fun v3=>
  (zPr x1.Prime r1 v3).bind fun r4=>
  (xS s1.1 [r4]).bind fun v5=>
  (rng (s1.2+1)).bind fun v6=>
  iF (.inl (v5,v6))) (
  iF (.inr s1.1))
def zYj(x0:SPr)(x1:zB):Option iN:=
 (zNN x0 x1).bind fun r1=>
 (f_m x0 x1).bind fun r2=>
 (zI (zNR x1 r1 r2) ([],0)).bind fun r7=>
 (f_r x1.Prime r7).bind fun r8=>
 iF r8
def zYk(x0:SPr):Option iN:=
 (zWx x0).bind fun r1=>
 (zYj x0 r1).bind fun r2=>
 iF r2
def zZh(x0:SPr)(s1:Int):Option (Int⊕(Unit⊕Bool)):=
 cond (decide (s1<(x0.zA.length:Int))) (
  (ixO x0.zA s1).bind fun v2=>
  (ixO x0.zA 0).bind fun v3=>
  cond (v2 != v3) (
   iF (.inr (.inr iI))) (
   (rng (s1+1)).bind fun v4=>
   iF (.inl v4))) (
  iF (.inr (.inl ())))
def zWy(x0:SPr):Option Bool:=
 (zPm x0).bind fun r1=>
 cond (!r1) (
  iF iI) (
  cond ((x0.zA.length:Int)==0) (
   iF iI) (
   (zI (zZh x0) 0).bind fun r5=>
   match r5 with
   |(.inl _)=>
    iF iH
   |(.inr r5)=>
    iF r5))
def zWz(x0:SPr)(s1:Int×Int):Option ((Int×Int)⊕Int):=
 cond (decide (s1.2<(x0.zA.length:Int))) (
  (ixO x0.zA s1.2).bind fun v1=>
  (rng (s1.1*v1)).bind fun v2=>
  (rng (s1.2+1)).bind fun v3=>
  iF (.inl (v2,v3))) (
  iF (.inr s1.1))
def yAN(x0:SPr):Option Int:=
 (zI (zWz x0) (1,0)).bind fun r4=>
 iF r4
def zYl(x0:SPr):Option Int:=
 (zPm x0).bind fun r1=>
 cond (!r1) (
  iF 1) (
  (zWy x0).bind fun r2=>
  cond (!r2) (
   iF 5) (
   (yAN x0).bind fun r3=>
   cond (decide (r3> 81)) (
    iF 3) (
    iF 0)))
def zNS(x0:SPr)(x1:Int)(x2:Int)(s1:(List iN)×Int):Option (((List iN)×Int)⊕(List iN)):=
 cond (decide (s1.2<(x0.zA.length:Int))) (
  (f_G x1 x2).bind fun r1=>
  (xS s1.1 [r1.Rows]).bind fun v2=>
  (rng (s1.2+1)).bind fun v3=>
  iF (.inl (v2,v3))) (
  iF (.inr s1.1))
def zYm(x0:SPr)(x1:Int)(x2:Int):Option zB:=
 (zI (zNS x0 x1 x2) ([],0)).bind fun r4=>
 iF (zB.mk x1 x2 r4)
def zW0(x0:SPr)(r2:zB)(r3:(iN))(s1:(iN)×Int):Option ((iN×Int)⊕iN):=
 cond (decide (s1.2<(r3.length:Int))) (
  (ixO r3 s1.2).bind fun v4=>
  (zSl x0 r2 v4).bind fun r5=>
  (f_q r5).bind fun r6=>
  (xS s1.1 [r6]).bind fun v7=>
  (rng (s1.2+1)).bind fun v8=>
  iF (.inl (v7,v8))) (
  iF (.inr s1.1))
def zYn(x0:SPr):Option iN:=
 (ixO x0.zA 0).bind fun v1=>
 (zYm x0 v1 1).bind fun r2=>
 (f_f x0 r2).bind fun r3=>
 (zI (zW0 x0 r2 r3) ([],0)).bind fun r9=>
 (f_i r2.Prime r9).bind fun r10=>
 iF r10
def zNT(x0:SPr)(x1:zB)(r2:(iN))(s1:(iN)×Int):Option ((iN×Int)⊕iN):=
 cond (decide (s1.2<(r2.length:Int))) (
  (ixO r2 s1.2).bind fun v3=>
  (zSl x0 x1 v3).bind fun r4=>
  (f_q r4).bind fun r5=>
  (xS s1.1 [r5]).bind fun v6=>
  (rng (s1.2+1)).bind fun v7=>
  iF (.inl (v6,v7))) (
  iF (.inr s1.1))
def zIX(x1:zB)(s1:Int):Option (Int⊕(Unit⊕Bool)):=
 cond (decide (s1<(x1.zF.length:Int))) (
  (ixO x1.zF s1).bind fun v1=>
  (f_C x1.Dim).bind fun r2=>
  (zVj v1 r2).bind fun r3=>
  cond (!r3) (
   iF (.inr (.inr iI))) (
   (rng (s1+1)).bind fun v4=>
   iF (.inl v4))) (
  iF (.inr (.inl ())))
def yAO(x0:SPr)(x1:zB):Option Bool:=
 (zI (zIX x1) 0).bind fun r5=>
 match r5 with
 |(.inl _)=>
  (ixO x0.zA 0).bind fun v6=>
  iF (x1.Prime==v6)
 |(.inr r5)=>
  iF r5
def zYo(x0:SPr)(x1:zB)(x2:iN):Option Int:=
 (zXF x0 x1).bind fun r1=>
 cond (!r1) (
  iF 1) (
  (zXW x0 x1 x2).bind fun r2=>
  cond (!r2) (
   iF 1) (
   (zYh x0).bind fun r3=>
   cond (!r3) (
    iF 5) (
    (yAO x0 x1).bind fun r4=>
    cond (!r4) (
     iF 5) (
     (zYi x0).bind fun r5=>
     cond (decide (r5> 81)) (
      (zWf x0 x1 x2).bind fun r6=>
      cond (!r6) (
       iF 5) (
       iF 3)) (
      (zWf x0 x1 x2).bind fun r7=>
      cond (!r7) (
       iF 5) (
       iF 0))))))
def zW1(x1:zB)(r1:(iN))(s1:(iN)×Int):Option ((iN×Int)⊕iN):=
 cond (decide (s1.2<(r1.length:Int))) (
  (xI x1.Dim).bind fun m4=>
  (xS s1.1 [J1 m4 (0:Int)]).bind fun v5=>
  (rng (s1.2+1)).bind fun v6=>
  iF (.inl (v5,v6))) (
  iF (.inr s1.1))
def zS0(x2:iN)(s11:(iN)×Int)(s12:(iM)×Int):Option ((iM×Int)⊕iM):=
 cond (decide (s12.2<(x2.length:Int))) (
  (ixO x2 s12.2).bind fun v8=>
  (ixO v8 s11.2).bind fun v9=>
  (xS s12.1 [v9]).bind fun v10=>
  (rng (s12.2+1)).bind fun v11=>
  iF (.inl (v10,v11))) (
  iF (.inr s12.1))
def zW2(r1:(iN))(s11:(iN)×Int)(r13:(iM))(s14:(iN)×Int):Option ((iN×Int)⊕iN):=
 cond (decide (s14.2<(r1.length:Int))) (
  (ixO s14.1 s14.2).bind fun v14=>
  (ixO r1 s14.2).bind fun v15=>
  (f_E v15).bind fun r16=>
  (ixO r13 r16).bind fun v17=>
  (ixO v14 s11.2).bind fun _=>
  (rng (s14.2+1)).bind fun v19=>
  iF (.inl (s14.1.set s14.2.toNat (v14.set s11.2.toNat v17),v19))) (
  iF (.inr s14.1))
def zW3(x1:zB)(x2:iN)(r1:(iN))(r3:(iN))(s11:(iN)×Int):Option ((iN×Int)⊕iN):=
 cond (decide (s11.2<x1.Dim)) (
  (zI (zS0 x2 s11) ([],0)).bind fun r12=>
  (zPr x1.Prime r3 r12).bind fun r13=>
  (zI (zW2 r1 s11 r13) (s11.1,0)).bind fun r20=>
  (rng (s11.2+1)).bind fun v21=>
  iF (.inl (r20,v21))) (
  iF (.inr s11.1))
def f_s(x0:SPr)(x1:zB)(x2:iN):Option iN:=
 (zYk x0).bind fun r1=>
 (zWx x0).bind fun r2=>
 (zNN x0 r2).bind fun r3=>
 (zI (zW1 x1 r1) ([],0)).bind fun r7=>
 (zI (zW3 x1 x2 r1 r3) (r7,0)).bind fun r22=>
 iF r22
def zIY(x0:SPr)(x1:zB)(s1:Int):Option (Int⊕(Unit⊕Int)):=
 cond (decide (s1<(x0.zA.length:Int))) (
  (ixO x1.zF s1).bind fun v6=>
  (f_G x1.Prime x1.Dim).bind fun r7=>
  (zVF v6 r7.Rows).bind fun r8=>
  cond (!r8) (
   iF (.inr (.inr 5))) (
   (rng (s1+1)).bind fun v9=>
   iF (.inl v9))) (
  iF (.inr (.inl ())))
def zYp(x0:SPr)(x1:zB)(x2:iN):Option Int:=
 (f_K x0 x1).bind fun r1=>
 cond (!r1) (
  iF 1) (
  (zXY x0 x1 x2).bind fun r2=>
  cond (!r2) (
   iF 1) (
   (zWy x0).bind fun r3=>
   cond (!r3) (
    iF 5) (
    (ixO x0.zA 0).bind fun v4=>
    cond (x1.Prime != v4) (
     iF 5) (
     (zXZ x0 x1 x2).bind fun r5=>
     cond (!r5) (
      iF 5) (
      (zI (zIY x0 x1) 0).bind fun r10=>
      match r10 with
      |(.inl _)=>
       (zYl x0).bind fun r11=>
       iF r11
      |(.inr r10)=>
       iF r10)))))
def zKp(r2:(iN))(r4:(iM))(s1:(iN)×Int):Option ((iN×Int)⊕iN):=
 cond (decide (s1.2<(r4.length:Int))) (
  (ixO r4 s1.2).bind fun v5=>
  (ixO r2 v5).bind fun v6=>
  (f_F v6).bind fun r7=>
  (xS s1.1 [r7]).bind fun v8=>
  (rng (s1.2+1)).bind fun v9=>
  iF (.inl (v8,v9))) (
  iF (.inr s1.1))
def zYq(x0:SPr)(x1:zB)(x2:iN):Option zO:=
 (f_q x2).bind fun r1=>
 (zSl x0 x1 r1).bind fun r2=>
 (zYn x0).bind fun r3=>
 (zWg r3).bind fun r4=>
 (zI (zKp r2 r4) ([],0)).bind fun r10=>
 iF (zO.mk x1.Prime x1.Dim r10)
def zW4(x0:SPr)(x1:zB)(x2:iN):Option (zO×Int):=
 (zYo x0 x1 x2).bind fun r1=>
 cond (r1 != 0) (
  iF ((zO.mk 0 0 []),r1)) (
  (f_s x0 x1 x2).bind fun r2=>
  cond (decide ((r2.length:Int)> 8)) (
   iF ((zO.mk 0 0 []),3)) (
   (yAK x1.Prime x1.Dim r2).bind fun r3=>
   iF (r3,0)))
def zS1(x0:SPr)(x1:zB)(x2:iN):Option (zO×Int):=
 (zYp x0 x1 x2).bind fun r1=>
 cond (r1 != 0) (
  iF ((zO.mk 0 0 []),r1)) (
  (zYq x0 x1 x2).bind fun r2=>
  cond (decide ((r2.Rows.length:Int)> 8)) (
   iF ((zO.mk 0 0 []),3)) (
   iF (r2,0)))
def zW5(x0:SPr)(x1:zB)(x2:iN):Option Bool:=
 (zX8 x0 1048576).bind fun r1=>
 cond (decide (r1<0)) (
  iF iH) (
  (zX9 x1 r1).bind fun r2=>
  cond (decide (r2<0)) (
   iF iH) (
   (zUN x2 r2).bind fun r3=>
   cond (decide (r3<0)) (
    iF iH) (
    (zPd x0).bind fun r4=>
    (zPe x1).bind fun r5=>
    (f_L x2).bind fun r6=>
    (zW4 r4 r5 r6).bind fun r7=>
    (zPd x0).bind fun r8=>
    (zPe x1).bind fun r9=>
    (f_L x2).bind fun r10=>
    (zS1 r8 r9 r10).bind fun r11=>
    (zSj r11.1 r7.1).bind fun r12=>
    cond (!r12) (
     iF iI) (
     cond (r11.2 != r7.2) (
      iF iI) (
      (zPd x0).bind fun r13=>
      (zXM r8 r13).bind fun r14=>
      cond (!r14) (
       iF iI) (
       (zPe x1).bind fun r15=>
       (zXL r9 r15).bind fun r16=>
       cond (!r16) (
        iF iI) (
        (f_L x2).bind fun r17=>
        (zPo r10 r17).bind fun r18=>
        cond (!r18) (
         iF iI) (
         (zXN r8 1).bind fun r19=>
         (zXO r9 r19.1).bind fun r20=>
         (zN1 r10 r20.1).bind fun r21=>
         cond (decide (r21.1<0)) (
          iF iI) (
          (zSj r11.1 r7.1).bind fun r22=>
          cond (!r22) (
           iF iI) (
           cond (r11.2 != r7.2) (
            iF iI) (
            (zYe r11.1 1).bind fun r23=>
            (zWi (zO.mk r11.1.Prime r11.1.yR r23.2.Rows) 1).bind fun r24=>
            cond (decide (r24<0)) (
             iF iI) (
             cond (r24 != r23.1) (
              iF iI) (
              (zPd x0).bind fun r25=>
              (zPe x1).bind fun r26=>
              (f_L x2).bind fun r27=>
              (zS1 r25 r26 r27).bind fun r28=>
              (zSj r28.1 r7.1).bind fun r29=>
              cond (!r29) (
               iF iI) (
               cond (r28.2 != r7.2) (
                iF iI) (
                (zWi (zO.mk r11.1.Prime r11.1.yR r23.2.Rows) 1).bind fun r30=>
                cond (decide (r30<0)) (
                 iF iI) (
                 cond (r30 != r23.1) (
                  iF iI) (
                  iF iH)))))))))))))))))
end Go.Wk
