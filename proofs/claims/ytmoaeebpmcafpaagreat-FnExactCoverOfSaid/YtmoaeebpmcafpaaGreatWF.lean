/- The program's CoverOf returns what the reference's returns,for all arguments;no conditions. -/
import Derived.Test.YtmoaeebpmcafpaaGreatAbC
open List renaming replicate→J0
open Int renaming fdiv→Gz
open Option renaming some→iz,none→iA
open Bool renaming true→iB,false→iC
noncomputable section
namespace Go.Wk
open Go Go.Ab
abbrev iF:=List Int
abbrev iG:=List iF
structure SPr where
 zA:iF
 zR:iG
 zE:List iG
abbrev yF(x:SPr):T:=.agg [(L 1 I) x.zA,(L 1 (L 1 I)) x.zR,(L 1 (L 1 (L 1 I))) x.zE]
instance:Enc yF:=.of fun _=>zNn ⟨Enc.t (f:=(L 1 I)) inferInstance _,Enc.t (f:=(L 1 (L 1 I))) inferInstance _,Enc.t (f:=(L 1 (L 1 (L 1 I)))) inferInstance _,trivial⟩
structure zF where
 Prime:Int
 Dim:Int
 zP:List iG
abbrev zW(x:zF):T:=.agg [I x.Prime,I x.Dim,(L 1 (L 1 (L 1 I))) x.zP]
instance:Enc zW:=.of fun _=>zNn ⟨Enc.t (f:=I) inferInstance _,Enc.t (f:=I) inferInstance _,Enc.t (f:=(L 1 (L 1 (L 1 I)))) inferInstance _,trivial⟩
structure xM where
 Kind:Int
 zXv:Int
 zXw:Int
 zVi:Int
abbrev zGB(x:xM):T:=.agg [I x.Kind,I x.zXv,I x.zXw,I x.zVi]
instance:Enc zGB:=.of fun _=>zNn ⟨Enc.t (f:=I) inferInstance _,Enc.t (f:=I) inferInstance _,Enc.t (f:=I) inferInstance _,Enc.t (f:=I) inferInstance _,trivial⟩
structure zU where
 Prime:Int
 xU:Int
 Rows:iG
abbrev zO(x:zU):T:=.agg [I x.Prime,I x.xU,(L 1 (L 1 I)) x.Rows]
instance:Enc zO:=.of fun _=>zNn ⟨Enc.t (f:=I) inferInstance _,Enc.t (f:=I) inferInstance _,Enc.t (f:=(L 1 (L 1 I))) inferInstance _,trivial⟩
structure zY where
 p:SPr
 m:zF
 zMY:iG
structure zJ where
 x:iF
 v:iF
abbrev xG(x:zJ):T:=.agg [(L 1 I) x.x,(L 1 I) x.v]
instance:Enc xG:=.of fun _=>zNn ⟨Enc.t (f:=(L 1 I)) inferInstance _,Enc.t (f:=(L 1 I)) inferInstance _,trivial⟩
def zTA(x0:iF)(x1:Int):Option Int:=
 (rng (x1-(x0.length:Int))).bind fun v1=>
 cond (decide (v1<0)) (
  iz (-1)) (
  iz v1)
def zXq(x0:iG)(s1:Int×Int):Option ((Int×Int)⊕(Int⊕Int)):=
 cond (decide (s1.2<(x0.length:Int))) (
  (ixO x0 s1.2).bind fun v2=>
  (zTA v2 s1.1).bind fun r3=>
  cond (decide (r3<0)) (
   iz (.inr (.inr (-1)))) (
   (rng (s1.2+1)).bind fun v4=>
   iz (.inl (r3,v4)))) (
  iz (.inr (.inl s1.1)))
def zVY(x0:iG)(x1:Int):Option Int:=
 (rng (x1-(x0.length:Int))).bind fun v1=>
 cond (decide (v1<0)) (
  iz (-1)) (
  (zH (zXq x0) (v1,0)).bind fun r5=>
  match r5 with
  |(.inl r5)=>
   iz r5
  |(.inr r5)=>
   iz r5)
def zXr(x0:List iG)(s1:Int×Int):Option ((Int×Int)⊕(Int⊕Int)):=
 cond (decide (s1.2<(x0.length:Int))) (
  (ixO x0 s1.2).bind fun v2=>
  (zVY v2 s1.1).bind fun r3=>
  cond (decide (r3<0)) (
   iz (.inr (.inr (-1)))) (
   (rng (s1.2+1)).bind fun v4=>
   iz (.inl (r3,v4)))) (
  iz (.inr (.inl s1.1)))
def zYK(x0:List iG)(x1:Int):Option Int:=
 (rng (x1-(x0.length:Int))).bind fun v1=>
 cond (decide (v1<0)) (
  iz (-1)) (
  (zH (zXr x0) (v1,0)).bind fun r5=>
  match r5 with
  |(.inl r5)=>
   iz r5
  |(.inr r5)=>
   iz r5)
def zVZ(x0:SPr)(x1:Int):Option Int:=
 (zTA x0.zA x1).bind fun r1=>
 cond (decide (r1<0)) (
  iz (-1)) (
  (zVY x0.zR r1).bind fun r2=>
  cond (decide (r2<0)) (
   iz (-1)) (
   (zYK x0.zE r2).bind fun r3=>
   cond (decide (r3<0)) (
    iz (-1)) (
    iz r3)))
def zTB(x0:iF)(s1:(iF)×Int):Option ((iF×Int)⊕iF):=
 cond (decide (s1.2<(x0.length:Int))) (
  (ixO x0 s1.2).bind fun v2=>
  (ixO s1.1 s1.2).bind fun _=>
  (rng (s1.2+1)).bind fun v4=>
  iz (.inl (s1.1.set s1.2.toNat v2,v4))) (
  iz (.inr s1.1))
def zQO(x0:iF):Option iF:=
 (xH (x0.length:Int)).bind fun m1=>
 (zH (zTB x0) (J0 m1 (0:Int),0)).bind fun r5=>
 iz r5
def zTC(x0:iG)(s1:(iG)×Int):Option ((iG×Int)⊕iG):=
 cond (decide (s1.2<(x0.length:Int))) (
  (ixO x0 s1.2).bind fun v2=>
  (zQO v2).bind fun r3=>
  (ixO s1.1 s1.2).bind fun _=>
  (rng (s1.2+1)).bind fun v5=>
  iz (.inl (s1.1.set s1.2.toNat r3,v5))) (
  iz (.inr s1.1))
def zQP(x0:iG):Option iG:=
 (xH (x0.length:Int)).bind fun m1=>
 (zH (zTC x0) (J0 m1 ([]:iF),0)).bind fun r6=>
 iz r6
def zTD(x0:List iG)(s1:(List iG)×Int):Option (((List iG)×Int)⊕(List iG)):=
 cond (decide (s1.2<(x0.length:Int))) (
  (ixO x0 s1.2).bind fun v2=>
  (zQP v2).bind fun r3=>
  (ixO s1.1 s1.2).bind fun _=>
  (rng (s1.2+1)).bind fun v5=>
  iz (.inl (s1.1.set s1.2.toNat r3,v5))) (
  iz (.inr s1.1))
def zWa(x0:List iG):Option (List iG):=
 (xH (x0.length:Int)).bind fun m1=>
 (zH (zTD x0) (J0 m1 ([]:iG),0)).bind fun r6=>
 iz r6
def zOe(x0:SPr):Option SPr:=
 (zQO x0.zA).bind fun r1=>
 (zQP x0.zR).bind fun r2=>
 (zWa x0.zE).bind fun r3=>
 iz (SPr.mk r1 r2 r3)
def zYL(x0:Int):Option Bool:=
 cond (x0==2) (
  iz iB) (
  cond (x0==3) (
   iz iB) (
   cond (x0==5) (
    iz iB) (
    iz (x0==7))))
def zM5(x0:iF)(s1:Int×Int):Option ((Int×Int)⊕Int):=
 cond (decide (s1.2<(x0.length:Int))) (
  cond (decide (s1.1≤729)) (
   (ixO x0 s1.2).bind fun v1=>
   (rng (s1.1*v1)).bind fun v2=>
   (rng (s1.2+1)).bind fun v3=>
   iz (.inl (v2,v3))) (
   (rng (s1.2+1)).bind fun v4=>
   iz (.inl (s1.1,v4)))) (
  iz (.inr s1.1))
def zWb(x0:iF):Option Int:=
 (zH (zM5 x0) (1,0)).bind fun r5=>
 iz r5
def zYM(x0:Int)(x1:Int)(x2:Int):Option Bool:=
 cond (decide (x0≥x1)) (
  iz (decide (x0≤x2))) (
  iz iC)
def zPS(x0:iF)(x1:iF)(x2:Int)(s1:Int):Option (Int⊕(Unit⊕Bool)):=
 cond (decide (s1<(x1.length:Int))) (
  (ixO x1 s1).bind fun v1=>
  (ixO x0 s1).bind fun v2=>
  (rng (v2-1)).bind fun v3=>
  (zYM v1 0 v3).bind fun r4=>
  cond (!r4) (
   iz (.inr (.inr iC))) (
   cond (decide (s1≤x2)) (
    (ixO x1 s1).bind fun v5=>
    cond (v5 != 0) (
     iz (.inr (.inr iC))) (
     (rng (s1+1)).bind fun v6=>
     iz (.inl v6))) (
    (rng (s1+1)).bind fun v5=>
    iz (.inl v5)))) (
  iz (.inr (.inl ())))
def zTE(x0:iF)(x1:iF)(x2:Int):Option Bool:=
 cond ((x1.length:Int) != (x0.length:Int)) (
  iz iC) (
  (zH (zPS x0 x1 x2) 0).bind fun r6=>
  match r6 with
  |(.inl r6)=>
   iz iB
  |(.inr r6)=>
   iz r6)
def zTF(x0:SPr)(s1:Int):Option (Int⊕(Unit⊕Bool)):=
 cond (decide (s1<(x0.zA.length:Int))) (
  (ixO x0.zA s1).bind fun v1=>
  (zYL v1).bind fun r2=>
  cond (!r2) (
   iz (.inr (.inr iC))) (
   (rng (s1+1)).bind fun v3=>
   iz (.inl v3))) (
  iz (.inr (.inl ())))
def zTG(x0:SPr)(s7:Int)(s8:Int):Option (Int⊕(Unit⊕Bool)):=
 (ixO x0.zE s7).bind fun v11=>
 cond (decide (s8<(v11.length:Int))) (
  (ixO x0.zE s7).bind fun v12=>
  (ixO v12 s8).bind fun v13=>
  (zTE x0.zA v13 s7).bind fun r14=>
  cond (!r14) (
   iz (.inr (.inr iC))) (
   (rng (s8+1)).bind fun v15=>
   iz (.inl v15))) (
  iz (.inr (.inl ())))
def zOf(x0:SPr)(s7:Int):Option (Int⊕(Unit⊕Bool)):=
 cond (decide (s7<(x0.zA.length:Int))) (
  (ixO x0.zR s7).bind fun v6=>
  (zTE x0.zA v6 s7).bind fun r7=>
  cond (!r7) (
   iz (.inr (.inr iC))) (
   (ixO x0.zE s7).bind fun v8=>
   (rng ((x0.zA.length:Int)-1)).bind fun v9=>
   (rng (v9-s7)).bind fun v10=>
   cond ((v8.length:Int) != v10) (
    iz (.inr (.inr iC))) (
    (zH (zTG x0 s7) 0).bind fun r16=>
    match r16 with
    |(.inl r16)=>
     (rng (s7+1)).bind fun v17=>
     iz (.inl v17)
    |(.inr r16)=>
     iz (.inr (.inr r16))))) (
  iz (.inr (.inl ())))
def f_y(x0:SPr):Option Bool:=
 cond (decide ((x0.zA.length:Int)> 6)) (
  iz iC) (
  cond ((x0.zR.length:Int) != (x0.zA.length:Int)) (
   iz iC) (
   cond ((x0.zE.length:Int) != (x0.zA.length:Int)) (
    iz iC) (
    (zH (zTF x0) 0).bind fun r4=>
    match r4 with
    |(.inl r4)=>
     (zWb x0.zA).bind fun r5=>
     cond (decide (r5> 729)) (
      iz iC) (
      (zH (zOf x0) 0).bind fun r18=>
      match r18 with
      |(.inl r18)=>
       iz iB
      |(.inr r18)=>
       iz r18)
    |(.inr r4)=>
     iz r4)))
def f_w(x0:iF):Option iF:=
 (xI [] x0).bind fun v1=>
 iz v1
def zTH(g_a:SPr→Int→iF→iF→Option iF)(x0:SPr)(x1:Int)(x2:iF)(s5:(iF)×Int)(s6:(iF)×Int):Option ((iF×Int)⊕iF):=
 (ixO x2 s5.2).bind fun v3=>
 cond (decide (s6.2<v3)) (
  (rng (x1+1)).bind fun v4=>
  (ixO x0.zE x1).bind fun v5=>
  (rng (s5.2-x1)).bind fun v6=>
  (rng (v6-1)).bind fun v7=>
  (ixO v5 v7).bind fun v8=>
  (g_a x0 v4 s6.1 v8).bind fun r9=>
  (rng (s6.2+1)).bind fun v10=>
  iz (.inl (r9,v10))) (
  iz (.inr s6.1))
def zTI(g_a:SPr→Int→iF→iF→Option iF)(x0:SPr)(x1:Int)(x2:iF)(s5:(iF)×Int):Option ((iF×Int)⊕iF):=
 cond (decide (s5.2<(x0.zA.length:Int))) (
  (zH (zTH g_a x0 x1 x2 s5) (s5.1,0)).bind fun r11=>
  (rng (s5.2+1)).bind fun v12=>
  iz (.inl (r11,v12))) (
  iz (.inr s5.1))
def b_h(g_a:SPr→Int→iF→iF→Option iF)(x0:SPr)(x1:Int)(x2:iF):Option iF:=
 (xH (x0.zA.length:Int)).bind fun m1=>
 (rng (x1+1)).bind fun v2=>
 (zH (zTI g_a x0 x1 x2) (J0 m1 (0:Int),v2)).bind fun r13=>
 iz r13
def zWc(g_h:SPr→Int→iF→Option iF)(x0:SPr)(x1:Int)(x3:iF)(s1:(iF)×Int):Option ((iF×Int)⊕iF):=
 (ixO x3 x1).bind fun v6=>
 cond (decide (s1.2<v6)) (
  (g_h x0 x1 s1.1).bind fun r7=>
  (rng (s1.2+1)).bind fun v8=>
  iz (.inl (r7,v8))) (
  iz (.inr s1.1))
def b_a(g_h:SPr→Int→iF→Option iF)(g_a:SPr→Int→iF→iF→Option iF)(x0:SPr)(x1:Int)(x2:iF)(x3:iF):Option iF:=
 cond (decide (x1≥(x0.zA.length:Int))) (
  (xH (x0.zA.length:Int)).bind fun m1=>
  iz (J0 m1 (0:Int))) (
  (f_w x2).bind fun r2=>
  (f_w x3).bind fun r3=>
  (ixO r2 x1).bind fun _=>
  (ixO r3 x1).bind fun _=>
  (zH (zWc g_h x0 x1 x3) (r2.set x1.toNat 0,0)).bind fun r9=>
  (rng (x1+1)).bind fun v10=>
  (g_a x0 v10 r9 (r3.set x1.toNat 0)).bind fun r11=>
  (ixO x2 x1).bind fun v12=>
  (ixO x3 x1).bind fun v13=>
  (rng (v12+v13)).bind fun v14=>
  (ixO x0.zA x1).bind fun v15=>
  cond (decide (v14≥v15)) (
   (ixO x0.zA x1).bind fun v16=>
   (rng (v14-v16)).bind fun v17=>
   (rng (x1+1)).bind fun v18=>
   (ixO x0.zR x1).bind fun v19=>
   (g_a x0 v18 v19 r11).bind fun r20=>
   (f_w r20).bind fun r21=>
   (ixO r21 x1).bind fun _=>
   iz (r21.set x1.toNat v17)) (
   (f_w r11).bind fun r23=>
   (ixO r23 x1).bind fun _=>
   iz (r23.set x1.toNat v14)))
mutual
def zOg:Nat→SPr→Int→iF→Option iF
 |0=>fun _ _ _=>iA
 |n+1=>b_h (zOh n)
def zOh:Nat→SPr→Int→iF→iF→Option iF
 |0=>fun _ _ _ _=>iA
 |n+1=>b_a (zOg n) (zOh n)
end
def f_h(x0:SPr)(x1:Int)(x2:iF):Option iF:=zD4 fun n=>zOg n x0 x1 x2
def f_a(x0:SPr)(x1:Int)(x2:iF)(x3:iF):Option iF:=zD4 fun n=>zOh n x0 x1 x2 x3
def zPT(x0:SPr)(x1:Int)(s1:Int×iF×iF):Option ((Int×iF×iF)⊕iF):=
 cond (decide (s1.1> 0)) (
  (tT s1.1 2).bind fun v2=>
  cond (v2==1) (
   (f_a x0 x1 s1.2.1 s1.2.2).bind fun r3=>
   (f_a x0 x1 s1.2.2 s1.2.2).bind fun r4=>
   (sL s1.1 2).bind fun v5=>
   iz (.inl (v5,r3,r4))) (
   (f_a x0 x1 s1.2.2 s1.2.2).bind fun r6=>
   (sL s1.1 2).bind fun v7=>
   iz (.inl (v7,s1.2.1,r6)))) (
  iz (.inr s1.2.1))
def zWd(x0:SPr)(x1:Int)(x2:iF)(x3:Int):Option iF:=
 (xH (x0.zA.length:Int)).bind fun m1=>
 (zH (zPT x0 x1) (x3,J0 m1 (0:Int),x2)).bind fun r8=>
 iz r8
def zXs(x0:iF)(x1:iF)(s1:Int):Option (Int⊕(Unit⊕Bool)):=
 cond (decide (s1<(x0.length:Int))) (
  (ixO x0 s1).bind fun v1=>
  (ixO x1 s1).bind fun v2=>
  cond (v1 != v2) (
   iz (.inr (.inr iC))) (
   (rng (s1+1)).bind fun v3=>
   iz (.inl v3))) (
  iz (.inr (.inl ())))
def zQQ(x0:iF)(x1:iF):Option Bool:=
 cond ((x0.length:Int) != (x1.length:Int)) (
  iz iC) (
  (zH (zXs x0 x1) 0).bind fun r4=>
  match r4 with
  |(.inl r4)=>
   iz iB
  |(.inr r4)=>
   iz r4)
def zQR(x0:Int)(x1:Int):Option iF:=
 (xH x0).bind fun m1=>
 (ixO (J0 m1 (0:Int)) x1).bind fun _=>
 iz ((J0 m1 (0:Int)).set x1.toNat 1)
def zTJ(x0:SPr)(x1:Int)(s1:Int):Option (Int⊕(Unit⊕xM)):=
 cond (decide (s1<(x0.zA.length:Int))) (
  (rng (x1+1)).bind fun v2=>
  (ixO x0.zE x1).bind fun v3=>
  (rng (s1-x1)).bind fun v4=>
  (rng (v4-1)).bind fun v5=>
  (ixO v3 v5).bind fun v6=>
  (ixO x0.zA s1).bind fun v7=>
  (zWd x0 v2 v6 v7).bind fun r8=>
  (ixO x0.zR s1).bind fun v9=>
  (f_h x0 x1 v9).bind fun r10=>
  (zQQ r8 r10).bind fun r11=>
  cond (!r11) (
   iz (.inr (.inr (xM.mk 1 x1 s1 0)))) (
   (rng (s1+1)).bind fun v12=>
   iz (.inl v12))) (
  iz (.inr (.inl ())))
def zTK(x0:SPr)(x1:Int)(s7:Int)(s8:Int):Option (Int⊕(Unit⊕xM)):=
 cond (decide (s8<(x0.zA.length:Int))) (
  (ixO x0.zE x1).bind fun v16=>
  (rng (s7-x1)).bind fun v17=>
  (rng (v17-1)).bind fun v18=>
  (ixO v16 v18).bind fun v19=>
  (ixO x0.zE x1).bind fun v20=>
  (rng (s8-x1)).bind fun v21=>
  (rng (v21-1)).bind fun v22=>
  (ixO v20 v22).bind fun v23=>
  (ixO x0.zE s7).bind fun v24=>
  (rng (s8-s7)).bind fun v25=>
  (rng (v25-1)).bind fun v26=>
  (ixO v24 v26).bind fun v27=>
  (f_h x0 x1 v27).bind fun r28=>
  (rng (x1+1)).bind fun v29=>
  (f_a x0 v29 v23 v19).bind fun r30=>
  (rng (x1+1)).bind fun v31=>
  (f_a x0 v31 v19 r28).bind fun r32=>
  (zQQ r30 r32).bind fun r33=>
  cond (!r33) (
   iz (.inr (.inr (xM.mk 2 x1 s7 s8)))) (
   (rng (s8+1)).bind fun v34=>
   iz (.inl v34))) (
  iz (.inr (.inl ())))
def zTL(x0:SPr)(x1:Int)(s7:Int):Option (Int⊕(Unit⊕xM)):=
 cond (decide (s7<(x0.zA.length:Int))) (
  (rng (s7+1)).bind fun v15=>
  (zH (zTK x0 x1 s7) v15).bind fun r35=>
  match r35 with
  |(.inl r35)=>
   (rng (s7+1)).bind fun v36=>
   iz (.inl v36)
  |(.inr r35)=>
   iz (.inr (.inr r35))) (
  iz (.inr (.inl ())))
def zTM(x0:SPr)(x1:Int)(s16:(iF)×Int):Option ((iF×Int)⊕iF):=
 (ixO x0.zA x1).bind fun v43=>
 cond (decide (s16.2<v43)) (
  (f_h x0 x1 s16.1).bind fun r44=>
  (rng (s16.2+1)).bind fun v45=>
  iz (.inl (r44,v45))) (
  iz (.inr s16.1))
def zTN(x0:SPr)(x1:Int)(v38:iF)(s15:Int):Option (Int⊕(Unit⊕xM)):=
 cond (decide (s15<(x0.zA.length:Int))) (
  (zQR (x0.zA.length:Int) s15).bind fun r42=>
  (zH (zTM x0 x1) (r42,0)).bind fun r46=>
  (rng (x1+1)).bind fun v47=>
  (f_a x0 v47 v38 r46).bind fun r48=>
  (rng (x1+1)).bind fun v49=>
  (f_a x0 v49 r42 v38).bind fun r50=>
  (zQQ r48 r50).bind fun r51=>
  cond (!r51) (
   iz (.inr (.inr (xM.mk 4 x1 s15 0)))) (
   (rng (s15+1)).bind fun v52=>
   iz (.inl v52))) (
  iz (.inr (.inl ())))
def f_q(x0:SPr)(x1:Int):Option xM:=
 (rng (x1+1)).bind fun v1=>
 (zH (zTJ x0 x1) v1).bind fun r13=>
 match r13 with
 |(.inl r13)=>
  (rng (x1+1)).bind fun v14=>
  (zH (zTL x0 x1) v14).bind fun r37=>
  match r37 with
  |(.inl r37)=>
   (ixO x0.zR x1).bind fun v38=>
   (f_h x0 x1 v38).bind fun r39=>
   (zQQ r39 v38).bind fun r40=>
   cond (!r40) (
    iz (xM.mk 3 x1 0 0)) (
    (rng (x1+1)).bind fun v41=>
    (zH (zTN x0 x1 v38) v41).bind fun r53=>
    match r53 with
    |(.inl r53)=>
     iz (xM.mk 0 0 0 0)
    |(.inr r53)=>
     iz r53)
  |(.inr r37)=>
   iz r37
 |(.inr r13)=>
  iz r13
def zM6(x0:SPr)(s1:Int):Option (Int⊕(Unit⊕xM)):=
 cond (decide (s1≥0)) (
  (f_q x0 s1).bind fun r2=>
  cond (r2.Kind != 0) (
   iz (.inr (.inr r2))) (
   (rng (s1-1)).bind fun v3=>
   iz (.inl v3))) (
  iz (.inr (.inl ())))
def zYN(x0:SPr):Option xM:=
 (rng ((x0.zA.length:Int)-1)).bind fun v1=>
 (zH (zM6 x0) v1).bind fun r4=>
 match r4 with
 |(.inl r4)=>
  iz (xM.mk 0 0 0 0)
 |(.inr r4)=>
  iz r4
def zYO(x0:SPr):Option Bool:=
 (zYN x0).bind fun r1=>
 iz (r1.Kind==0)
def zTO(x0:SPr):Option Bool:=
 (f_y x0).bind fun r1=>
 cond r1 (
  (zYO x0).bind fun r2=>
  iz r2) (
  iz iC)
def zIq(x0:Int)(s1:(iG)×Int):Option ((iG×Int)⊕iG):=
 cond (decide (s1.2<x0)) (
  (xH x0).bind fun m1=>
  (ixO (J0 m1 (0:Int)) s1.2).bind fun _=>
  (xI s1.1 [(J0 m1 (0:Int)).set s1.2.toNat 1]).bind fun v3=>
  (rng (s1.2+1)).bind fun v4=>
  iz (.inl (v3,v4))) (
  iz (.inr s1.1))
def f_C(x0:Int):Option iG:=
 (zH (zIq x0) ([],0)).bind fun r5=>
 iz r5
def zTP(x0:Int)(x1:iF)(x2:iG)(s5:(iF)×Int)(s6:(iF)×Int):Option ((iF×Int)⊕iF):=
 cond (decide (s6.2<(s6.1.length:Int))) (
  (ixO x2 s5.2).bind fun v2=>
  cond (decide (s6.2<(v2.length:Int))) (
   (ixO s6.1 s6.2).bind fun v3=>
   (ixO x1 s5.2).bind fun v4=>
   (ixO x2 s5.2).bind fun v5=>
   (ixO v5 s6.2).bind fun v6=>
   (rng (v4*v6)).bind fun v7=>
   (rng (v3+v7)).bind fun v8=>
   (tT v8 x0).bind fun v9=>
   (ixO s6.1 s6.2).bind fun _=>
   (rng (s6.2+1)).bind fun v11=>
   iz (.inl (s6.1.set s6.2.toNat v9,v11))) (
   iz (.inr s6.1))) (
  iz (.inr s6.1))
def zTQ(x0:Int)(x1:iF)(x2:iG)(s5:(iF)×Int):Option ((iF×Int)⊕iF):=
 cond (decide (s5.2<(x1.length:Int))) (
  cond (decide (s5.2<(x2.length:Int))) (
   (zH (zTP x0 x1 x2 s5) (s5.1,0)).bind fun r12=>
   (rng (s5.2+1)).bind fun v13=>
   iz (.inl (r12,v13))) (
   iz (.inr s5.1))) (
  iz (.inr s5.1))
def f_M(x0:Int)(x1:iF)(x2:iG)(x3:Int):Option iF:=
 (xH x3).bind fun m1=>
 (zH (zTQ x0 x1 x2) (J0 m1 (0:Int),0)).bind fun r14=>
 iz r14
def zWe(x0:Int):Option Bool:=
 cond (x0==2) (
  iz iB) (
  cond (x0==3) (
   iz iB) (
   cond (x0==5) (
    iz iB) (
    iz (x0==7))))
def zWf(x0:Int)(x1:Int)(x2:Int):Option Bool:=
 cond (decide (x0≥x1)) (
  iz (decide (x0≤x2))) (
  iz iC)
def zPU(x0:SPr)(x1:iF)(s1:Int):Option (Int⊕(Unit⊕Bool)):=
 cond (decide (s1<(x1.length:Int))) (
  (ixO x1 s1).bind fun v1=>
  (ixO x0.zA s1).bind fun v2=>
  (rng (v2-1)).bind fun v3=>
  (zWf v1 0 v3).bind fun r4=>
  cond (!r4) (
   iz (.inr (.inr iC))) (
   (rng (s1+1)).bind fun v5=>
   iz (.inl v5))) (
  iz (.inr (.inl ())))
def zWg(x0:SPr)(x1:iF):Option Bool:=
 cond ((x1.length:Int) != (x0.zA.length:Int)) (
  iz iC) (
  (zH (zPU x0 x1) 0).bind fun r6=>
  match r6 with
  |(.inl r6)=>
   iz iB
  |(.inr r6)=>
   iz r6)
def zQS(x0:iF)(s1:Int):Option (Int⊕(Unit⊕Bool)):=
 cond (decide (s1<(x0.length:Int))) (
  (ixO x0 s1).bind fun v1=>
  cond (v1 != 0) (
   iz (.inr (.inr iC))) (
   (rng (s1+1)).bind fun v2=>
   iz (.inl v2))) (
  iz (.inr (.inl ())))
def f_Y(x0:iF):Option Bool:=
 (zH (zQS x0) 0).bind fun r3=>
 match r3 with
 |(.inl r3)=>
  iz iB
 |(.inr r3)=>
  iz r3
def zTR(x0:SPr)(x1:Int)(x2:iF):Option Bool:=
 (zWg x0 x2).bind fun r1=>
 cond r1 (
  (rng (x1+1)).bind fun v2=>
  (yB x2 0 v2).bind fun v3=>
  (f_Y v3).bind fun r4=>
  iz r4) (
  iz iC)
def zOi(x0:SPr)(s1:Int×Int):Option ((Int×Int)⊕(Unit⊕Bool)):=
 cond (decide (s1.2<(x0.zA.length:Int))) (
  (ixO x0.zA s1.2).bind fun v1=>
  (zWe v1).bind fun r2=>
  cond (!r2) (
   iz (.inr (.inr iC))) (
   (rng (s1.1*v1)).bind fun v3=>
   cond (decide (v3> 729)) (
    iz (.inr (.inr iC))) (
    (rng (s1.1*v1)).bind fun v4=>
    (rng (s1.2+1)).bind fun v5=>
    iz (.inl (v4,v5))))) (
  iz (.inr (.inl ())))
def zTS(x0:SPr)(s7:Int)(v12:iG)(s8:Int):Option (Int⊕(Unit⊕Bool)):=
 cond (decide (s8<(v12.length:Int))) (
  (ixO v12 s8).bind fun v13=>
  (zTR x0 s7 v13).bind fun r14=>
  cond (!r14) (
   iz (.inr (.inr iC))) (
   (rng (s8+1)).bind fun v15=>
   iz (.inl v15))) (
  iz (.inr (.inl ())))
def zOj(x0:SPr)(s7:Int):Option (Int⊕(Unit⊕Bool)):=
 cond (decide (s7<(x0.zA.length:Int))) (
  (ixO x0.zR s7).bind fun v7=>
  (zTR x0 s7 v7).bind fun r8=>
  cond (!r8) (
   iz (.inr (.inr iC))) (
   (ixO x0.zE s7).bind fun v9=>
   (rng ((x0.zA.length:Int)-1)).bind fun v10=>
   (rng (v10-s7)).bind fun v11=>
   cond ((v9.length:Int) != v11) (
    iz (.inr (.inr iC))) (
    (ixO x0.zE s7).bind fun v12=>
    (zH (zTS x0 s7 v12) 0).bind fun r16=>
    match r16 with
    |(.inl r16)=>
     (rng (s7+1)).bind fun v17=>
     iz (.inl v17)
    |(.inr r16)=>
     iz (.inr (.inr r16))))) (
  iz (.inr (.inl ())))
def f_v(x0:SPr):Option Bool:=
 cond (decide ((x0.zA.length:Int)> 6)) (
  iz iC) (
  cond ((x0.zR.length:Int) != (x0.zA.length:Int)) (
   iz iC) (
   cond ((x0.zE.length:Int) != (x0.zA.length:Int)) (
    iz iC) (
    (zH (zOi x0) (1,0)).bind fun r6=>
    match r6 with
    |(.inl r6)=>
     (zH (zOj x0) 0).bind fun r18=>
     match r18 with
     |(.inl r18)=>
      iz iB
     |(.inr r18)=>
      iz r18
    |(.inr r6)=>
     iz r6)))
def f_F(x0:iF):Option iF:=
 (xI [] x0).bind fun v2=>
 iz v2
def zTT(x2:Int)(r3:(iF))(s1:(iF)×Int):Option ((iF×Int)⊕iF):=
 cond (decide (s1.2<(r3.length:Int))) (
  (rng (x2+1)).bind fun v4=>
  (rng (v4+s1.2)).bind fun v5=>
  (ixO s1.1 v5).bind fun _=>
  (rng (s1.2+1)).bind fun v7=>
  iz (.inl (s1.1.set v5.toNat 0,v7))) (
  iz (.inr s1.1))
def zYP(g_c:SPr→iF→iF→Option iF)(x0:SPr)(x2:Int)(s7:(iF)×Int)(v17:Int)(s8:(iF)×Int):Option ((iF×Int)⊕iF):=
 cond (decide (s8.2<v17)) (
  (ixO x0.zE x2).bind fun v18=>
  (ixO v18 s7.2).bind fun v19=>
  (g_c x0 s8.1 v19).bind fun r20=>
  (rng (s8.2+1)).bind fun v21=>
  iz (.inl (r20,v21))) (
  iz (.inr s8.1))
def zYQ(g_c:SPr→iF→iF→Option iF)(x0:SPr)(x2:Int)(r3:(iF))(s7:(iF)×Int):Option ((iF×Int)⊕iF):=
 cond (decide (s7.2<(r3.length:Int))) (
  (ixO r3 s7.2).bind fun v17=>
  (zH (zYP g_c x0 x2 s7 v17) (s7.1,0)).bind fun r22=>
  (rng (s7.2+1)).bind fun v23=>
  iz (.inl (r22,v23))) (
  iz (.inr s7.1))
def zYR(g_c:SPr→iF→iF→Option iF)(x0:SPr)(x2:Int)(s15:(iF)×Int)(v25:Int)(s16:(iF)×Int):Option ((iF×Int)⊕iF):=
 cond (decide (s16.2<v25)) (
  (ixO x0.zE x2).bind fun v26=>
  (ixO v26 s15.2).bind fun v27=>
  (g_c x0 s16.1 v27).bind fun r28=>
  (rng (s16.2+1)).bind fun v29=>
  iz (.inl (r28,v29))) (
  iz (.inr s16.1))
def zYS(g_c:SPr→iF→iF→Option iF)(x0:SPr)(x2:Int)(r3:(iF))(s15:(iF)×Int):Option ((iF×Int)⊕iF):=
 cond (decide (s15.2<(r3.length:Int))) (
  (ixO r3 s15.2).bind fun v25=>
  (zH (zYR g_c x0 x2 s15 v25) (s15.1,0)).bind fun r30=>
  (rng (s15.2+1)).bind fun v31=>
  iz (.inl (r30,v31))) (
  iz (.inr s15.1))
def b_b(g_c:SPr→iF→iF→Option iF)(x0:SPr)(x1:iF)(x2:Int):Option iF:=
 (rng (x2+1)).bind fun v1=>
 (yB x1 v1 x1.length).bind fun v2=>
 (f_F v2).bind fun r3=>
 (zH (zTT x2 r3) (x1,0)).bind fun r8=>
 (ixO r8 x2).bind fun v9=>
 (rng (v9+1)).bind fun v10=>
 (ixO r8 x2).bind fun _=>
 (ixO (r8.set x2.toNat v10) x2).bind fun v12=>
 (ixO x0.zA x2).bind fun v13=>
 cond (v12==v13) (
  (ixO (r8.set x2.toNat v10) x2).bind fun _=>
  (ixO x0.zR x2).bind fun v15=>
  (g_c x0 ((r8.set x2.toNat v10).set x2.toNat 0) v15).bind fun r16=>
  (zH (zYQ g_c x0 x2 r3) (r16,0)).bind fun r24=>
  iz r24) (
  (zH (zYS g_c x0 x2 r3) (r8.set x2.toNat v10,0)).bind fun r32=>
  iz r32)
def zTU(g_b:SPr→iF→Int→Option iF)(x0:SPr)(s5:(iF)×Int)(v1:Int)(s6:(iF)×Int):Option ((iF×Int)⊕iF):=
 cond (decide (s6.2<v1)) (
  (g_b x0 s6.1 s5.2).bind fun r2=>
  (rng (s6.2+1)).bind fun v3=>
  iz (.inl (r2,v3))) (
  iz (.inr s6.1))
def zTV(g_b:SPr→iF→Int→Option iF)(x0:SPr)(x2:iF)(s5:(iF)×Int):Option ((iF×Int)⊕iF):=
 cond (decide (s5.2<(x2.length:Int))) (
  (ixO x2 s5.2).bind fun v1=>
  (zH (zTU g_b x0 s5 v1) (s5.1,0)).bind fun r4=>
  (rng (s5.2+1)).bind fun v5=>
  iz (.inl (r4,v5))) (
  iz (.inr s5.1))
def b_c(g_b:SPr→iF→Int→Option iF)(x0:SPr)(x1:iF)(x2:iF):Option iF:=
 (zH (zTV g_b x0 x2) (x1,0)).bind fun r6=>
 iz r6
mutual
def zTW:Nat→SPr→iF→Int→Option iF
 |0=>fun _ _ _=>iA
 |n+1=>b_b (zQT n)
def zQT:Nat→SPr→iF→iF→Option iF
 |0=>fun _ _ _=>iA
 |n+1=>b_c (zTW n)
end
def f_b(x0:SPr)(x1:iF)(x2:Int):Option iF:=zD4 fun n=>zTW n x0 x1 x2
def f_c(x0:SPr)(x1:iF)(x2:iF):Option iF:=zD4 fun n=>zQT n x0 x1 x2
def zM7(x0:SPr)(x1:iF)(x2:Int)(s1:(iF)×Int):Option ((iF×Int)⊕iF):=
 cond (decide (s1.2<x2)) (
  (f_c x0 s1.1 x1).bind fun r2=>
  (rng (s1.2+1)).bind fun v3=>
  iz (.inl (r2,v3))) (
  iz (.inr s1.1))
def zWh(x0:SPr)(x1:iF)(x2:Int):Option iF:=
 (xH (x1.length:Int)).bind fun m1=>
 (zH (zM7 x0 x1 x2) (J0 m1 (0:Int),0)).bind fun r4=>
 iz r4
def zTX(x0:SPr)(v3:iF)(v6:Int)(s6:(iF)×Int):Option ((iF×Int)⊕iF):=
 cond (decide (s6.2<v6)) (
  (f_c x0 s6.1 v3).bind fun r7=>
  (rng (s6.2+1)).bind fun v8=>
  iz (.inl (r7,v8))) (
  iz (.inr s6.1))
def zTY(x0:SPr)(x1:Int)(x2:iF)(v2:iG)(s5:(iF)×Int):Option ((iF×Int)⊕iF):=
 cond (decide (s5.2<(v2.length:Int))) (
  (ixO v2 s5.2).bind fun v3=>
  (rng (x1+1)).bind fun v4=>
  (rng (v4+s5.2)).bind fun v5=>
  (ixO x2 v5).bind fun v6=>
  (zH (zTX x0 v3 v6) (s5.1,0)).bind fun r9=>
  (rng (s5.2+1)).bind fun v10=>
  iz (.inl (r9,v10))) (
  iz (.inr s5.1))
def f_G(x0:SPr)(x1:Int)(x2:iF):Option iF:=
 (xH (x2.length:Int)).bind fun m1=>
 (ixO x0.zE x1).bind fun v2=>
 (zH (zTY x0 x1 x2 v2) (J0 m1 (0:Int),0)).bind fun r11=>
 iz r11
def zTZ(x0:iF)(x1:iF)(s1:Int):Option (Int⊕(Unit⊕Bool)):=
 cond (decide (s1<(x0.length:Int))) (
  (ixO x0 s1).bind fun v1=>
  (ixO x1 s1).bind fun v2=>
  cond (v1 != v2) (
   iz (.inr (.inr iC))) (
   (rng (s1+1)).bind fun v3=>
   iz (.inl v3))) (
  iz (.inr (.inl ())))
def zOl(x0:iF)(x1:iF):Option Bool:=
 cond ((x0.length:Int) != (x1.length:Int)) (
  iz iC) (
  (zH (zTZ x0 x1) 0).bind fun r4=>
  match r4 with
  |(.inl r4)=>
   iz iB
  |(.inr r4)=>
   iz r4)
def zQU(x0:SPr)(s5:(iF)×iF×Int)(s6:(iF)×iF):Option ((iF×iF)⊕(iF×iF)):=
 (ixO s6.1 s5.2.2).bind fun v3=>
 cond (v3 != 0) (
  (f_b x0 s6.1 s5.2.2).bind fun r4=>
  (f_b x0 s6.2 s5.2.2).bind fun r5=>
  iz (.inl (r4,r5))) (
  iz (.inr (s6.1,s6.2)))
def zUa(x0:SPr)(r1:(iF))(s5:(iF)×iF×Int):Option ((iF×iF×Int)⊕iF):=
 cond (decide (s5.2.2<(r1.length:Int))) (
  (zH (zQU x0 s5) (s5.1,s5.2.1)).bind fun r6=>
  (rng (s5.2.2+1)).bind fun v7=>
  iz (.inl (r6.1,r6.2,v7))) (
  iz (.inr s5.2.1))
def f_L(x0:SPr)(x1:iF):Option iF:=
 (f_F x1).bind fun r1=>
 (xH (x1.length:Int)).bind fun m2=>
 (zH (zUa x0 r1) (r1,J0 m2 (0:Int),0)).bind fun r8=>
 iz r8
def zUb(x0:SPr)(x1:iF)(x2:iF):Option iF:=
 (f_F x1).bind fun r1=>
 (f_c x0 r1 x2).bind fun r2=>
 iz r2
def zUc(x0:SPr)(x1:iF)(x2:iF):Option iF:=
 (f_L x0 x2).bind fun r1=>
 (zUb x0 x1 x2).bind fun r2=>
 (zUb x0 r1 r2).bind fun r3=>
 iz r3
def zKE(x0:Int)(x1:Int):Option iF:=
 (xH x0).bind fun m1=>
 (ixO (J0 m1 (0:Int)) x1).bind fun _=>
 iz ((J0 m1 (0:Int)).set x1.toNat 1)
def zUd(x0:SPr)(x1:Int)(s1:Int):Option (Int⊕(Unit⊕xM)):=
 cond (decide (s1<(x0.zA.length:Int))) (
  (ixO x0.zE x1).bind fun v2=>
  (rng (s1-x1)).bind fun v3=>
  (rng (v3-1)).bind fun v4=>
  (ixO v2 v4).bind fun v5=>
  (ixO x0.zA s1).bind fun v6=>
  (zWh x0 v5 v6).bind fun r7=>
  (ixO x0.zR s1).bind fun v8=>
  (f_G x0 x1 v8).bind fun r9=>
  (zOl r7 r9).bind fun r10=>
  cond (!r10) (
   iz (.inr (.inr (xM.mk 1 x1 s1 0)))) (
   (rng (s1+1)).bind fun v11=>
   iz (.inl v11))) (
  iz (.inr (.inl ())))
def zUe(x0:SPr)(x1:Int)(s7:Int)(s8:Int):Option (Int⊕(Unit⊕xM)):=
 cond (decide (s8<(x0.zA.length:Int))) (
  (ixO x0.zE x1).bind fun v15=>
  (rng (s8-x1)).bind fun v16=>
  (rng (v16-1)).bind fun v17=>
  (ixO v15 v17).bind fun v18=>
  (ixO x0.zE x1).bind fun v19=>
  (rng (s7-x1)).bind fun v20=>
  (rng (v20-1)).bind fun v21=>
  (ixO v19 v21).bind fun v22=>
  (zUc x0 v18 v22).bind fun r23=>
  (ixO x0.zE s7).bind fun v24=>
  (rng (s8-s7)).bind fun v25=>
  (rng (v25-1)).bind fun v26=>
  (ixO v24 v26).bind fun v27=>
  (f_G x0 x1 v27).bind fun r28=>
  (zOl r23 r28).bind fun r29=>
  cond (!r29) (
   iz (.inr (.inr (xM.mk 2 x1 s7 s8)))) (
   (rng (s8+1)).bind fun v30=>
   iz (.inl v30))) (
  iz (.inr (.inl ())))
def zUf(x0:SPr)(x1:Int)(s7:Int):Option (Int⊕(Unit⊕xM)):=
 cond (decide (s7<(x0.zA.length:Int))) (
  (rng (s7+1)).bind fun v14=>
  (zH (zUe x0 x1 s7) v14).bind fun r31=>
  match r31 with
  |(.inl r31)=>
   (rng (s7+1)).bind fun v32=>
   iz (.inl v32)
  |(.inr r31)=>
   iz (.inr (.inr r31))) (
  iz (.inr (.inl ())))
def zUg(x0:SPr)(x1:Int)(v39:Int)(s16:(iF)×Int):Option ((iF×Int)⊕iF):=
 cond (decide (s16.2<v39)) (
  (f_G x0 x1 s16.1).bind fun r40=>
  (rng (s16.2+1)).bind fun v41=>
  iz (.inl (r40,v41))) (
  iz (.inr s16.1))
def zUh(x0:SPr)(x1:Int)(v34:iF)(s15:Int):Option (Int⊕(Unit⊕xM)):=
 cond (decide (s15<(x0.zA.length:Int))) (
  (zKE (x0.zA.length:Int) s15).bind fun r38=>
  (ixO x0.zA x1).bind fun v39=>
  (zH (zUg x0 x1 v39) (r38,0)).bind fun r42=>
  (zKE (x0.zA.length:Int) s15).bind fun r43=>
  (zUc x0 r43 v34).bind fun r44=>
  (zOl r42 r44).bind fun r45=>
  cond (!r45) (
   iz (.inr (.inr (xM.mk 4 x1 s15 0)))) (
   (rng (s15+1)).bind fun v46=>
   iz (.inl v46))) (
  iz (.inr (.inl ())))
def f_p(x0:SPr)(x1:Int):Option xM:=
 (rng (x1+1)).bind fun v1=>
 (zH (zUd x0 x1) v1).bind fun r12=>
 match r12 with
 |(.inl r12)=>
  (rng (x1+1)).bind fun v13=>
  (zH (zUf x0 x1) v13).bind fun r33=>
  match r33 with
  |(.inl r33)=>
   (ixO x0.zR x1).bind fun v34=>
   (f_G x0 x1 v34).bind fun r35=>
   (zOl r35 v34).bind fun r36=>
   cond (!r36) (
    iz (xM.mk 3 x1 0 0)) (
    (rng (x1+1)).bind fun v37=>
    (zH (zUh x0 x1 v34) v37).bind fun r47=>
    match r47 with
    |(.inl r47)=>
     iz (xM.mk 0 0 0 0)
    |(.inr r47)=>
     iz r47)
  |(.inr r33)=>
   iz r33
 |(.inr r12)=>
  iz r12
def zM8(x0:SPr)(s1:Int):Option (Int⊕Int):=
 cond (decide (s1> 0)) (
  (rng (s1-1)).bind fun v1=>
  (f_p x0 v1).bind fun r2=>
  cond (r2.Kind==0&&(r2.zXv==0&&(r2.zXw==0&&r2.zVi==0))) (
   (rng (s1-1)).bind fun v3=>
   iz (.inl v3)) (
   iz (.inr s1))) (
  iz (.inr s1))
def zYT(x0:SPr):Option Int:=
 (zH (zM8 x0) (x0.zA.length:Int)).bind fun r4=>
 iz r4
def zUi(x0:SPr):Option Bool:=
 (f_v x0).bind fun r1=>
 cond r1 (
  (zYT x0).bind fun r2=>
  iz (r2==0)) (
  iz iC)
def zUj(x0:zF)(x1:Int):Option zU:=
 (ixO x0.zP x1).bind fun v1=>
 iz (zU.mk x0.Prime x0.Dim v1)
def yBh(x0:Int)(x1:Int):Option (Int×Int):=
 iz ((IntKind.wrap .u64 ((IntKind.wrap .u64 ((IntKind.wrap .u64 ((Gz x0 (2 ^ (min (32:Int).toNat (IntKind.bits .u64))))*(Gz x1 (2 ^ (min (32:Int).toNat (IntKind.bits .u64))))))+(Gz (IntKind.wrap .u64 ((IntKind.wrap .u64 ((Gz x0 (2 ^ (min (32:Int).toNat (IntKind.bits .u64))))*(zGm .u64 x1 4294967295)))+(Gz (IntKind.wrap .u64 ((zGm .u64 x0 4294967295)*(zGm .u64 x1 4294967295))) (2 ^ (min (32:Int).toNat (IntKind.bits .u64)))))) (2 ^ (min (32:Int).toNat (IntKind.bits .u64))))))+(Gz (IntKind.wrap .u64 ((zGm .u64 (IntKind.wrap .u64 ((IntKind.wrap .u64 ((Gz x0 (2 ^ (min (32:Int).toNat (IntKind.bits .u64))))*(zGm .u64 x1 4294967295)))+(Gz (IntKind.wrap .u64 ((zGm .u64 x0 4294967295)*(zGm .u64 x1 4294967295))) (2 ^ (min (32:Int).toNat (IntKind.bits .u64)))))) 4294967295)+(IntKind.wrap .u64 ((zGm .u64 x0 4294967295)*(Gz x1 (2 ^ (min (32:Int).toNat (IntKind.bits .u64)))))))) (2 ^ (min (32:Int).toNat (IntKind.bits .u64)))))),(IntKind.wrap .u64 (x0*x1)))
def zUk(x0:Int)(x1:Int):Option (Int×Int):=
 (yBh x0 x1).bind fun r1=>
 iz (r1.1,r1.2)
def uN(s1:(iF)×Int):Option ((iF×Int)⊕iF):=
 cond (decide (s1.2<(s1.1.length:Int))) (
  (yB s1.1 s1.2 s1.1.length).bind fun _=>
  (yB s1.1 0 s1.2).bind fun v4=>
  (rng (s1.2+((min v4.length (((s1.1.length:Int).toNat)-((s1.2:Int).toNat)):Nat):Int))).bind fun v5=>
  iz (.inl (xJ s1.1 ((s1.2:Int).toNat) (v4.take (((s1.1.length:Int).toNat)-((s1.2:Int).toNat))),v5))) (
  iz (.inr s1.1))
def f_e(x0:iF)(x1:Int):Option iF:=
 cond (decide (x1<0)) (
  iA) (
  (zUk (IntKind.wrap .u64 (x0.length:Int)) (IntKind.wrap .u64 x1)).bind fun r1=>
  cond (decide (r1.1> 0)) (
   iA) (
   cond (decide (r1.2> 9223372036854775807)) (
    iA) (
    (xH (IntKind.wrap .i64 r1.2)).bind fun m2=>
    (zH uN (xJ (J0 m2 (0:Int)) 0 (x0.take (((J0 m2 (0:Int)).length)-0)),((min x0.length (((J0 m2 (0:Int)).length)-0):Nat):Int))).bind fun r6=>
    iz r6)))
def zUl(s5:(iF)×Int)(v1:Int)(s6:(iF)×Int):Option ((iF×Int)⊕iF):=
 cond (decide (s6.2<v1)) (
  (rng (s5.2+1)).bind fun v2=>
  (xI s6.1 [v2]).bind fun v3=>
  (rng (s6.2+1)).bind fun v4=>
  iz (.inl (v3,v4))) (
  iz (.inr s6.1))
def zUm(x0:iF)(s5:(iF)×Int):Option ((iF×Int)⊕iF):=
 cond (decide (s5.2<(x0.length:Int))) (
  (ixO x0 s5.2).bind fun v1=>
  (zH (zUl s5 v1) (s5.1,0)).bind fun r5=>
  (rng (s5.2+1)).bind fun v6=>
  iz (.inl (r5,v6))) (
  iz (.inr s5.1))
def f_z(x0:iF):Option iF:=
 (zH (zUm x0) ([],0)).bind fun r7=>
 iz r7
def zUn(x0:SPr)(s1:(List (iF×iF))×Int):Option (((List (iF×iF))×Int)⊕(List (iF×iF))):=
 cond (decide (s1.2<(x0.zA.length:Int))) (
  (ixO x0.zA s1.2).bind fun v1=>
  (rng (s1.2+1)).bind fun v2=>
  (f_e [v2] v1).bind fun r3=>
  (ixO x0.zR s1.2).bind fun v4=>
  (f_z v4).bind fun r5=>
  (xI s1.1 [(r3,r5)]).bind fun v6=>
  (rng (s1.2+1)).bind fun v7=>
  iz (.inl (v6,v7))) (
  iz (.inr s1.1))
def zUo(s7:(List (iF×iF))×Int)(v9:iG)(s8:(List (iF×iF))×Int):Option (((List (iF×iF))×Int)⊕(List (iF×iF))):=
 cond (decide (s8.2<(v9.length:Int))) (
  (ixO v9 s8.2).bind fun v10=>
  (rng (s7.2+1)).bind fun v11=>
  (rng (s7.2+s8.2)).bind fun v12=>
  (rng (v12+2)).bind fun v13=>
  (f_z v10).bind fun r14=>
  (xI [v11] r14).bind fun v15=>
  (xI s8.1 [([v13,v11],v15)]).bind fun v16=>
  (rng (s8.2+1)).bind fun v17=>
  iz (.inl (v16,v17))) (
  iz (.inr s8.1))
def zUp(x0:SPr)(s7:(List (iF×iF))×Int):Option (((List (iF×iF))×Int)⊕(List (iF×iF))):=
 cond (decide (s7.2<(x0.zA.length:Int))) (
  (ixO x0.zE s7.2).bind fun v9=>
  (zH (zUo s7 v9) (s7.1,0)).bind fun r18=>
  (rng (s7.2+1)).bind fun v19=>
  iz (.inl (r18,v19))) (
  iz (.inr s7.1))
def f_B(x0:SPr):Option (List (iF×iF)):=
 (zH (zUn x0) ([],0)).bind fun r8=>
 (zH (zUp x0) (r8,0)).bind fun r20=>
 iz r20
def zKF(x1:Int)(s1:(iG)×Int):Option ((iG×Int)⊕iG):=
 cond (decide (s1.2<x1)) (
  (xH x1).bind fun m1=>
  (ixO (J0 m1 (0:Int)) s1.2).bind fun _=>
  (xI s1.1 [(J0 m1 (0:Int)).set s1.2.toNat 1]).bind fun v3=>
  (rng (s1.2+1)).bind fun v4=>
  iz (.inl (v3,v4))) (
  iz (.inr s1.1))
def f_H(x0:Int)(x1:Int):Option zU:=
 (zH (zKF x1) ([],0)).bind fun r5=>
 iz (zU.mk x0 x1 r5)
def zKG(x0:Int)(x1:Int):Option Int:=
 (tT x0 x1).bind fun v1=>
 (rng (v1+x1)).bind fun v2=>
 (tT v2 x1).bind fun v3=>
 iz v3
def zM9(x0:iF)(x1:iF)(x2:Int)(x3:Int)(s1:(iF)×Int):Option ((iF×Int)⊕iF):=
 cond (decide (s1.2<(x0.length:Int))) (
  (ixO s1.1 s1.2).bind fun v1=>
  (ixO x1 s1.2).bind fun v2=>
  (rng (x2*v2)).bind fun v3=>
  (rng (v1+v3)).bind fun v4=>
  (zKG v4 x3).bind fun r5=>
  (ixO s1.1 s1.2).bind fun _=>
  (rng (s1.2+1)).bind fun v7=>
  iz (.inl (s1.1.set s1.2.toNat r5,v7))) (
  iz (.inr s1.1))
def f_x(x0:iF)(x1:iF)(x2:Int)(x3:Int):Option iF:=
 (zH (zM9 x0 x1 x2 x3) (x0,0)).bind fun r8=>
 iz r8
def zMA(x0:iF)(x1:zU)(s1:(iF)×Int):Option ((iF×Int)⊕iF):=
 cond (decide (s1.2<(x0.length:Int))) (
  (ixO x0 s1.2).bind fun v2=>
  (ixO x1.Rows s1.2).bind fun v3=>
  (f_x s1.1 v3 v2 x1.Prime).bind fun r4=>
  (rng (s1.2+1)).bind fun v5=>
  iz (.inl (r4,v5))) (
  iz (.inr s1.1))
def zUq(x0:iF)(x1:zU):Option iF:=
 (xH x1.xU).bind fun m1=>
 (zH (zMA x0 x1) (J0 m1 (0:Int),0)).bind fun r6=>
 iz r6
def zMB(x0:zU)(x1:zU)(s1:(iG)×Int):Option ((iG×Int)⊕iG):=
 cond (decide (s1.2<(x0.Rows.length:Int))) (
  (ixO x0.Rows s1.2).bind fun v1=>
  (zUq v1 x1).bind fun r2=>
  (xI s1.1 [r2]).bind fun v3=>
  (rng (s1.2+1)).bind fun v4=>
  iz (.inl (v3,v4))) (
  iz (.inr s1.1))
def zWi(x0:zU)(x1:zU):Option zU:=
 (zH (zMB x0 x1) ([],0)).bind fun r5=>
 iz (zU.mk x0.Prime x1.xU r5)
def zUr(x0:zF)(x1:iF)(s1:Int×Int×iG×Int):Option ((Int×Int×iG×Int)⊕(Int×Int×iG)):=
 cond (decide (s1.2.2.2<(x1.length:Int))) (
  (ixO x1 s1.2.2.2).bind fun v2=>
  (rng (v2-1)).bind fun v3=>
  (zUj x0 v3).bind fun r4=>
  (zWi (zU.mk s1.1 s1.2.1 s1.2.2.1) r4).bind fun r5=>
  (rng (s1.2.2.2+1)).bind fun v6=>
  iz (.inl (r5.Prime,r5.xU,r5.Rows,v6))) (
  iz (.inr (s1.1,s1.2.1,s1.2.2.1)))
def f_Q(x0:zF)(x1:iF):Option zU:=
 (f_H x0.Prime x0.Dim).bind fun r1=>
 (zH (zUr x0 x1) (r1.Prime,r1.xU,r1.Rows,0)).bind fun r7=>
 iz (zU.mk r7.1 r7.2.1 r7.2.2)
def zUs(x1:Int):Option iF:=
 cond (decide (x1<0)) (
  iA) (
  (rng (0-0)).bind fun v1=>
  (rng (x1-v1)).bind fun v2=>
  cond (decide (v2> 0)) (
   (tI [] v2 (0:Int)).bind fun v3=>
   (yB v3 0 0).bind fun v4=>
   iz v4) (
   iz []))
def zUt(x0:iG)(s1:Int×Int):Option ((Int×Int)⊕Int):=
 cond (decide (s1.2<(x0.length:Int))) (
  (ixO x0 s1.2).bind fun v1=>
  (rng (s1.1+(v1.length:Int))).bind fun v2=>
  cond (decide (v2<0)) (
   iA) (
   (rng (s1.2+1)).bind fun v3=>
   iz (.inl (v2,v3)))) (
  iz (.inr s1.1))
def zUu(x0:iG)(s3:(iF)×Int):Option ((iF×Int)⊕iF):=
 cond (decide (s3.2<(x0.length:Int))) (
  (ixO x0 s3.2).bind fun v6=>
  (xI s3.1 v6).bind fun v7=>
  (rng (s3.2+1)).bind fun v8=>
  iz (.inl (v7,v8))) (
  iz (.inr s3.1))
def f_s(x0:iG):Option iF:=
 (zH (zUt x0) (0,0)).bind fun r4=>
 (zUs r4).bind fun r5=>
 (zH (zUu x0) (r5,0)).bind fun r9=>
 iz r9
def zUv(x0:iF)(x1:Int)(x2:Int):Option iF:=
 (xH x1).bind fun m1=>
 (xH x2).bind fun m2=>
 (f_s [J0 m1 (0:Int),x0,J0 m2 (0:Int)]).bind fun r3=>
 iz r3
def zUw(x0:iF)(x1:iF)(s1:Int):Option (Int⊕(Unit⊕Bool)):=
 cond (decide (s1<(x0.length:Int))) (
  (ixO x0 s1).bind fun v1=>
  (ixO x1 s1).bind fun v2=>
  cond (v1 != v2) (
   iz (.inr (.inr iC))) (
   (rng (s1+1)).bind fun v3=>
   iz (.inl v3))) (
  iz (.inr (.inl ())))
def zUx(x0:iF)(x1:iF):Option Bool:=
 cond ((x0.length:Int) != (x1.length:Int)) (
  iz iC) (
  (zH (zUw x0 x1) 0).bind fun r4=>
  match r4 with
  |(.inl r4)=>
   iz iB
  |(.inr r4)=>
   iz r4)
def zUy(x0:iG)(x1:iG)(s1:Int):Option (Int⊕(Unit⊕Bool)):=
 cond (decide (s1<(x0.length:Int))) (
  (ixO x0 s1).bind fun v1=>
  (ixO x1 s1).bind fun v2=>
  (zUx v1 v2).bind fun r3=>
  cond (!r3) (
   iz (.inr (.inr iC))) (
   (rng (s1+1)).bind fun v4=>
   iz (.inl v4))) (
  iz (.inr (.inl ())))
def zUz(x0:iG)(x1:iG):Option Bool:=
 cond ((x0.length:Int) != (x1.length:Int)) (
  iz iC) (
  (zH (zUy x0 x1) 0).bind fun r5=>
  match r5 with
  |(.inl r5)=>
   iz iB
  |(.inr r5)=>
   iz r5)
def zU0(x0:List iG)(x1:List iG)(s1:Int):Option (Int⊕(Unit⊕Bool)):=
 cond (decide (s1<(x0.length:Int))) (
  (ixO x0 s1).bind fun v1=>
  (ixO x1 s1).bind fun v2=>
  (zUz v1 v2).bind fun r3=>
  cond (!r3) (
   iz (.inr (.inr iC))) (
   (rng (s1+1)).bind fun v4=>
   iz (.inl v4))) (
  iz (.inr (.inl ())))
def zYU(x0:List iG)(x1:List iG):Option Bool:=
 cond ((x0.length:Int) != (x1.length:Int)) (
  iz iC) (
  (zH (zU0 x0 x1) 0).bind fun r5=>
  match r5 with
  |(.inl r5)=>
   iz iB
  |(.inr r5)=>
   iz r5)
def zOm(x0:SPr)(x1:SPr):Option Bool:=
 (zUx x0.zA x1.zA).bind fun r1=>
 cond (!r1) (
  iz iC) (
  (zUz x0.zR x1.zR).bind fun r2=>
  cond (!r2) (
   iz iC) (
   (zYU x0.zE x1.zE).bind fun r3=>
   cond (!r3) (
    iz iC) (
    iz iB)))
def zPV(s1:(iF)×Int×Int):Option ((iF×Int×Int)⊕(iF×Int)):=
 cond (decide (s1.2.2<(s1.1.length:Int))) (
  (ixO s1.1 s1.2.2).bind fun _=>
  (rng (s1.2.1+1)).bind fun v2=>
  (rng (s1.2.2+1)).bind fun v3=>
  iz (.inl (s1.1.set s1.2.2.toNat s1.2.1,v2,v3))) (
  iz (.inr (s1.1,s1.2.1)))
def zQV(x0:iF)(x1:Int):Option (Int×iF):=
 (zH zPV (x0,x1,0)).bind fun r4=>
 iz (r4.2,r4.1)
def zU1(s1:(iG)×Int×Int):Option ((iG×Int×Int)⊕(iG×Int)):=
 cond (decide (s1.2.2<(s1.1.length:Int))) (
  (ixO s1.1 s1.2.2).bind fun v1=>
  (zQV v1 s1.2.1).bind fun r2=>
  (rng (s1.2.2+1)).bind fun v3=>
  iz (.inl (s1.1.set s1.2.2.toNat r2.2,r2.1,v3))) (
  iz (.inr (s1.1,s1.2.1)))
def zQW(x0:iG)(x1:Int):Option (Int×iG):=
 (zH zU1 (x0,x1,0)).bind fun r4=>
 iz (r4.2,r4.1)
def zU2(s1:(List iG)×Int×Int):Option (((List iG)×Int×Int)⊕((List iG)×Int)):=
 cond (decide (s1.2.2<(s1.1.length:Int))) (
  (ixO s1.1 s1.2.2).bind fun v1=>
  (zQW v1 s1.2.1).bind fun r2=>
  (rng (s1.2.2+1)).bind fun v3=>
  iz (.inl (s1.1.set s1.2.2.toNat r2.2,r2.1,v3))) (
  iz (.inr (s1.1,s1.2.1)))
def zWj(x0:List iG)(x1:Int):Option (Int×(List iG)):=
 (zH zU2 (x0,x1,0)).bind fun r4=>
 iz (r4.2,r4.1)
def zU3(x0:SPr)(x1:Int):Option (Int×SPr):=
 (zQV x0.zA x1).bind fun r1=>
 (zQW x0.zR r1.1).bind fun r2=>
 (zWj x0.zE r2.1).bind fun r3=>
 iz (r3.1,(SPr.mk r1.2 r2.2 r3.2))
def zU4(x0:iF)(s1:Int×Int):Option ((Int×Int)⊕(Int⊕Int)):=
 cond (decide (s1.2<(x0.length:Int))) (
  (ixO x0 s1.2).bind fun v1=>
  cond (v1 != s1.1) (
   iz (.inr (.inr (-1)))) (
   (rng (s1.1+1)).bind fun v2=>
   (rng (s1.2+1)).bind fun v3=>
   iz (.inl (v2,v3)))) (
  iz (.inr (.inl s1.1)))
def f_X(x0:iF)(x1:Int):Option Int:=
 (zH (zU4 x0) (x1,0)).bind fun r4=>
 match r4 with
 |(.inl r4)=>
  iz r4
 |(.inr r4)=>
  iz r4
def zU5(x0:iG)(s1:Int×Int):Option ((Int×Int)⊕(Int⊕Int)):=
 cond (decide (s1.2<(x0.length:Int))) (
  (ixO x0 s1.2).bind fun v1=>
  (f_X v1 s1.1).bind fun r2=>
  cond (decide (r2<0)) (
   iz (.inr (.inr (-1)))) (
   (rng (s1.2+1)).bind fun v3=>
   iz (.inl (r2,v3)))) (
  iz (.inr (.inl s1.1)))
def zU6(x0:iG)(x1:Int):Option Int:=
 (zH (zU5 x0) (x1,0)).bind fun r4=>
 match r4 with
 |(.inl r4)=>
  iz r4
 |(.inr r4)=>
  iz r4
def zU7(x0:List iG)(s1:Int×Int):Option ((Int×Int)⊕(Int⊕Int)):=
 cond (decide (s1.2<(x0.length:Int))) (
  (ixO x0 s1.2).bind fun v1=>
  (zU6 v1 s1.1).bind fun r2=>
  cond (decide (r2<0)) (
   iz (.inr (.inr (-1)))) (
   (rng (s1.2+1)).bind fun v3=>
   iz (.inl (r2,v3)))) (
  iz (.inr (.inl s1.1)))
def zYV(x0:List iG)(x1:Int):Option Int:=
 (zH (zU7 x0) (x1,0)).bind fun r4=>
 match r4 with
 |(.inl r4)=>
  iz r4
 |(.inr r4)=>
  iz r4
def zMC(x0:iG)(s1:(iG)×Int):Option ((iG×Int)⊕iG):=
 cond (decide (s1.2<(x0.length:Int))) (
  (ixO x0 s1.2).bind fun v1=>
  (rng ((v1.length:Int)+(x0.length:Int))).bind fun v2=>
  (xH v2).bind fun m3=>
  (rng ((v1.length:Int)+s1.2)).bind fun v4=>
  (ixO (xJ (J0 m3 (0:Int)) 0 (v1.take (((J0 m3 (0:Int)).length)-0))) v4).bind fun _=>
  (xI s1.1 [(xJ (J0 m3 (0:Int)) 0 (v1.take (((J0 m3 (0:Int)).length)-0))).set v4.toNat 1]).bind fun v6=>
  (rng (s1.2+1)).bind fun v7=>
  iz (.inl (v6,v7))) (
  iz (.inr s1.1))
def zWk(x0:iG):Option iG:=
 (zH (zMC x0) ([],0)).bind fun r8=>
 iz r8
def zMD(x0:iG)(s1:(iG)×Int):Option ((iG×Int)⊕iG):=
 cond (decide (s1.2<(x0.length:Int))) (
  (ixO x0 s1.2).bind fun v1=>
  (f_F v1).bind fun r2=>
  (xI s1.1 [r2]).bind fun v3=>
  (rng (s1.2+1)).bind fun v4=>
  iz (.inl (v3,v4))) (
  iz (.inr s1.1))
def zWl(x0:iG):Option iG:=
 (zH (zMD x0) ([],0)).bind fun r5=>
 iz r5
def zQX(s1:Int×Int×Int×Int):Option ((Int×Int×Int×Int)⊕(Int×Int)):=
 cond (s1.2.1 != 0) (
  (sL s1.1 s1.2.1).bind fun v1=>
  (rng (v1*s1.2.1)).bind fun v2=>
  (rng (s1.1-v2)).bind fun v3=>
  (rng (v1*s1.2.2.2)).bind fun v4=>
  (rng (s1.2.2.1-v4)).bind fun v5=>
  iz (.inl (s1.2.1,v3,s1.2.2.2,v5))) (
  iz (.inr (s1.1,s1.2.2.1)))
def f_T(x0:Int)(x1:Int):Option (Int×Bool):=
 (zH zQX (x1,x0,0,1)).bind fun r6=>
 (zKG r6.2 x1).bind fun r7=>
 iz (r7,(r6.1==1))
def zIA(s13:(iG)×Int×Int)(s14:Int):Option (Int⊕Int):=
 cond (decide (s14<(s13.1.length:Int))) (
  (ixO s13.1 s14).bind fun v3=>
  (ixO v3 s13.2.2).bind fun v4=>
  cond (v4==0) (
   (rng (s14+1)).bind fun v5=>
   iz (.inl v5)) (
   iz (.inr s14))) (
  iz (.inr s14))
def zME(x0:Int)(s13:(iG)×Int×Int)(r12:Int×Bool)(v13:iF)(s16:(iG)×Int):Option ((iG×Int)⊕iG):=
 cond (decide (s16.2<(v13.length:Int))) (
  (ixO s16.1 s13.2.1).bind fun v14=>
  (ixO s16.1 s13.2.1).bind fun v15=>
  (ixO v15 s16.2).bind fun v16=>
  (rng (v16*r12.1)).bind fun v17=>
  (tT v17 x0).bind fun v18=>
  (ixO v14 s16.2).bind fun _=>
  (rng (s16.2+1)).bind fun v20=>
  iz (.inl (s16.1.set s13.2.1.toNat (v14.set s16.2.toNat v18),v20))) (
  iz (.inr s16.1))
def zOn(x0:Int)(s13:(iG)×Int×Int)(r21:(iG))(s18:(iG)×Int):Option ((iG×Int)⊕iG):=
 cond (decide (s18.2<(r21.length:Int))) (
  cond (s18.2 != s13.2.1) (
   (ixO s18.1 s18.2).bind fun v22=>
   (ixO s18.1 s13.2.1).bind fun v23=>
   (ixO s18.1 s18.2).bind fun v24=>
   (ixO v24 s13.2.2).bind fun v25=>
   (rng (0-v25)).bind fun v26=>
   (f_x v22 v23 v26 x0).bind fun r27=>
   (rng (s18.2+1)).bind fun v28=>
   iz (.inl (s18.1.set s18.2.toNat r27,v28))) (
   (rng (s18.2+1)).bind fun v29=>
   iz (.inl (s18.1,v29)))) (
  iz (.inr s18.1))
def zOo(x0:Int)(s13:(iG)×Int×Int):Option ((iG×Int×Int)⊕(iG×Int)):=
 cond (decide ((s13.1.length:Int)> 0)) (
  (ixO s13.1 0).bind fun v2=>
  cond (decide (s13.2.2<(v2.length:Int))) (
   cond (decide (s13.2.1<(s13.1.length:Int))) (
    (zH (zIA s13) s13.2.1).bind fun r6=>
    cond (r6==(s13.1.length:Int)) (
     (rng (s13.2.2+1)).bind fun v7=>
     iz (.inl (s13.1,s13.2.1,v7))) (
     (ixO s13.1 r6).bind fun v8=>
     (ixO s13.1 s13.2.1).bind fun v9=>
     (ixO (jQ s13.1 s13.2.1 r6 v8 v9) s13.2.1).bind fun v10=>
     (ixO v10 s13.2.2).bind fun v11=>
     (f_T v11 x0).bind fun r12=>
     (ixO (jQ s13.1 s13.2.1 r6 v8 v9) s13.2.1).bind fun v13=>
     (zH (zME x0 s13 r12 v13) (jQ s13.1 s13.2.1 r6 v8 v9,0)).bind fun r21=>
     (zH (zOn x0 s13 r21) (r21,0)).bind fun r30=>
     (rng (s13.2.1+1)).bind fun v31=>
     (rng (s13.2.2+1)).bind fun v32=>
     iz (.inl (r30,v31,v32)))) (
    iz (.inr (s13.1,s13.2.1)))) (
   iz (.inr (s13.1,s13.2.1)))) (
  iz (.inr (s13.1,s13.2.1)))
def f_j(x0:Int)(x1:iG):Option iG:=
 (zWl x1).bind fun r1=>
 (zH (zOo x0) (r1,0,0)).bind fun r33=>
 (yB r33.1 0 r33.2).bind fun v34=>
 iz v34
def zU8(x0:Int)(x1:Int):Option Int:=
 (tT x0 x1).bind fun v1=>
 cond (decide (v1<0)) (
  (rng (v1+x1)).bind fun v2=>
  iz v2) (
  iz v1)
def zIB(x0:iF)(s1:Int):Option (Int⊕(Unit⊕Int)):=
 cond (decide (s1<(x0.length:Int))) (
  (ixO x0 s1).bind fun v1=>
  cond (v1 != 0) (
   iz (.inr (.inr s1))) (
   (rng (s1+1)).bind fun v2=>
   iz (.inl v2))) (
  iz (.inr (.inl ())))
def f_D(x0:iF):Option Int:=
 (zH (zIB x0) 0).bind fun r3=>
 match r3 with
 |(.inl r3)=>
  iz (x0.length:Int)
 |(.inr r3)=>
  iz r3
def zU9(x0:Int)(x2:Int)(x3:iF)(s1:(iF)×Int):Option ((iF×Int)⊕iF):=
 cond (decide (s1.2<(s1.1.length:Int))) (
  cond (decide (s1.2<(x3.length:Int))) (
   (ixO s1.1 s1.2).bind fun v2=>
   (ixO x3 s1.2).bind fun v3=>
   (rng (x2*v3)).bind fun v4=>
   (rng (v2+v4)).bind fun v5=>
   (zU8 v5 x0).bind fun r6=>
   (ixO s1.1 s1.2).bind fun _=>
   (rng (s1.2+1)).bind fun v8=>
   iz (.inl (s1.1.set s1.2.toNat r6,v8))) (
   iz (.inr s1.1))) (
  iz (.inr s1.1))
def f_A(x0:Int)(x1:iF)(x2:Int)(x3:iF):Option iF:=
 (f_w x1).bind fun r1=>
 (zH (zU9 x0 x2 x3) (r1,0)).bind fun r9=>
 iz r9
def zUA(x0:Int)(x1:iG)(s1:(iF)×Int):Option ((iF×Int)⊕iF):=
 cond (decide (s1.2<(x1.length:Int))) (
  (ixO x1 s1.2).bind fun v2=>
  (f_D v2).bind fun r3=>
  cond (decide (r3<(s1.1.length:Int))) (
   (ixO s1.1 r3).bind fun v4=>
   cond (v4 != 0) (
    (ixO s1.1 r3).bind fun v5=>
    (rng (x0-v5)).bind fun v6=>
    (ixO x1 s1.2).bind fun v7=>
    (f_A x0 s1.1 v6 v7).bind fun r8=>
    (rng (s1.2+1)).bind fun v9=>
    iz (.inl (r8,v9))) (
    (rng (s1.2+1)).bind fun v10=>
    iz (.inl (s1.1,v10)))) (
   (rng (s1.2+1)).bind fun v11=>
   iz (.inl (s1.1,v11)))) (
  iz (.inr s1.1))
def f_Z(x0:Int)(x1:iG)(x2:iF):Option iF:=
 (f_w x2).bind fun r1=>
 (zH (zUA x0 x1) (r1,0)).bind fun r12=>
 iz r12
def zMF(x0:Int)(x1:Int)(s1:Int):Option (Int⊕(Unit⊕Int)):=
 cond (decide (s1<x1)) (
  (zU8 x0 x1).bind fun r1=>
  (rng (r1*s1)).bind fun v2=>
  (tT v2 x1).bind fun v3=>
  cond (v3==1) (
   iz (.inr (.inr s1))) (
   (rng (s1+1)).bind fun v4=>
   iz (.inl v4))) (
  iz (.inr (.inl ())))
def zWm(x0:Int)(x1:Int):Option Int:=
 (zH (zMF x0 x1) 1).bind fun r5=>
 match r5 with
 |(.inl r5)=>
  iz 0
 |(.inr r5)=>
  iz r5
def zWn(x0:Int)(x1:Int)(x2:iF):Option iF:=
 (xH (x2.length:Int)).bind fun m1=>
 (f_A x0 (J0 m1 (0:Int)) x1 x2).bind fun r2=>
 iz r2
def zIC(x0:Int)(s5:(iG)×Int)(r3:Int)(r7:(iF))(s6:(iG)×Bool×Int):Option ((iG×Bool×Int)⊕(iG×Bool)):=
 cond (decide (s6.2.2<(s5.1.length:Int))) (
  cond (!s6.2.1) (
   (ixO s5.1 s6.2.2).bind fun v8=>
   (f_D v8).bind fun r9=>
   cond (decide (r9> r3)) (
    (xI s6.1 [r7]).bind fun v10=>
    (ixO s5.1 s6.2.2).bind fun v11=>
    (ixO s5.1 s6.2.2).bind fun v12=>
    (ixO v12 r3).bind fun v13=>
    (rng (x0-v13)).bind fun v14=>
    (f_A x0 v11 v14 r7).bind fun r15=>
    (xI v10 [r15]).bind fun v16=>
    (rng (s6.2.2+1)).bind fun v17=>
    iz (.inl (v16,iB,v17))) (
    (ixO s5.1 s6.2.2).bind fun v18=>
    (ixO s5.1 s6.2.2).bind fun v19=>
    (ixO v19 r3).bind fun v20=>
    (rng (x0-v20)).bind fun v21=>
    (f_A x0 v18 v21 r7).bind fun r22=>
    (xI s6.1 [r22]).bind fun v23=>
    (rng (s6.2.2+1)).bind fun v24=>
    iz (.inl (v23,s6.2.1,v24)))) (
   (ixO s5.1 s6.2.2).bind fun v25=>
   (ixO s5.1 s6.2.2).bind fun v26=>
   (ixO v26 r3).bind fun v27=>
   (rng (x0-v27)).bind fun v28=>
   (f_A x0 v25 v28 r7).bind fun r29=>
   (xI s6.1 [r29]).bind fun v30=>
   (rng (s6.2.2+1)).bind fun v31=>
   iz (.inl (v30,s6.2.1,v31)))) (
  iz (.inr (s6.1,s6.2.1)))
def zQY(x0:Int)(x1:iG)(s5:(iG)×Int):Option ((iG×Int)⊕iG):=
 cond (decide (s5.2<(x1.length:Int))) (
  (ixO x1 s5.2).bind fun v1=>
  (f_Z x0 s5.1 v1).bind fun r2=>
  (f_D r2).bind fun r3=>
  cond (r3==(r2.length:Int)) (
   (rng (s5.2+1)).bind fun v4=>
   iz (.inl (s5.1,v4))) (
   (ixO r2 r3).bind fun v5=>
   (zWm v5 x0).bind fun r6=>
   (zWn x0 r6 r2).bind fun r7=>
   (zH (zIC x0 s5 r3 r7) ([],iC,0)).bind fun r32=>
   cond (!r32.2) (
    (xI r32.1 [r7]).bind fun v33=>
    (rng (s5.2+1)).bind fun v34=>
    iz (.inl (v33,v34))) (
    (rng (s5.2+1)).bind fun v35=>
    iz (.inl (r32.1,v35))))) (
  iz (.inr s5.1))
def f_r(x0:Int)(x1:iG):Option iG:=
 (zH (zQY x0 x1) ([],0)).bind fun r36=>
 iz r36
def zMG(x1:iG)(r1:(iG))(s1:(iG)×Int):Option ((iG×Int)⊕iG):=
 cond (decide (s1.2<(x1.length:Int))) (
  (ixO x1 s1.2).bind fun v2=>
  (f_w v2).bind fun r3=>
  (ixO r1 s1.2).bind fun v4=>
  (xI r3 v4).bind fun v5=>
  (xI s1.1 [v5]).bind fun v6=>
  (rng (s1.2+1)).bind fun v7=>
  iz (.inl (v6,v7))) (
  iz (.inr s1.1))
def zWo(x0:Int)(x1:iG):Option iG:=
 (f_C (x1.length:Int)).bind fun r1=>
 (zH (zMG x1 r1) ([],0)).bind fun r8=>
 (f_r x0 r8).bind fun r9=>
 iz r9
def zJ0(x2:Int)(r1:(iG))(s1:(iG)×Int):Option ((iG×Int)⊕iG):=
 cond (decide (s1.2<(r1.length:Int))) (
  (ixO r1 s1.2).bind fun v2=>
  (f_D v2).bind fun r3=>
  cond (decide (r3≥x2)) (
   (ixO r1 s1.2).bind fun v4=>
   (yB v4 x2 v4.length).bind fun v5=>
   (f_w v5).bind fun r6=>
   (xI s1.1 [r6]).bind fun v7=>
   (rng (s1.2+1)).bind fun v8=>
   iz (.inl (v7,v8))) (
   (rng (s1.2+1)).bind fun v9=>
   iz (.inl (s1.1,v9)))) (
  iz (.inr s1.1))
def zWp(x0:Int)(x1:iG)(x2:Int):Option iG:=
 (zWo x0 x1).bind fun r1=>
 (zH (zJ0 x2 r1) ([],0)).bind fun r10=>
 iz r10
def zUB(x0:SPr):Option Int:=
 (rng ((x0.zA.length:Int)-1)).bind fun v1=>
 (rng ((x0.zA.length:Int)*v1)).bind fun v2=>
 (sL v2 2).bind fun v3=>
 (rng ((x0.zA.length:Int)+v3)).bind fun v4=>
 iz v4
def zWq(x0:Int)(x1:Int)(x2:Int):Option Int:=
 (rng (x1*x0)).bind fun v1=>
 (rng (x0+v1)).bind fun v2=>
 (rng (x1+1)).bind fun v3=>
 (rng (x1*v3)).bind fun v4=>
 (sL v4 2).bind fun v5=>
 (rng (v2-v5)).bind fun v6=>
 (rng (v6+x2)).bind fun v7=>
 (rng (v7-x1)).bind fun v8=>
 (rng (v8-1)).bind fun v9=>
 iz v9
def zUC(x1:zF)(s1:(iF)×Int):Option ((iF×Int)⊕iF):=
 cond (decide (s1.2<x1.Dim)) (
  (xI s1.1 [x1.Prime]).bind fun v2=>
  (rng (s1.2+1)).bind fun v3=>
  iz (.inl (v2,v3))) (
  iz (.inr s1.1))
def zQZ(x0:SPr)(x2:iG)(s11:(iG)×(List iG)×Int)(s12:(iG)×Int):Option ((iG×Int)⊕iG):=
 cond (decide (s12.2<(x0.zA.length:Int))) (
  (ixO x0.zE s11.2.2).bind fun v11=>
  (rng (s12.2-s11.2.2)).bind fun v12=>
  (rng (v12-1)).bind fun v13=>
  (ixO v11 v13).bind fun v14=>
  (f_w v14).bind fun r15=>
  (zWq (x0.zA.length:Int) s11.2.2 s12.2).bind fun r16=>
  (ixO x2 r16).bind fun v17=>
  (xI r15 v17).bind fun v18=>
  (xI s12.1 [v18]).bind fun v19=>
  (rng (s12.2+1)).bind fun v20=>
  iz (.inl (v19,v20))) (
  iz (.inr s12.1))
def zRa(x0:SPr)(x1:zF)(s11:(iG)×(List iG)×Int)(s14:(iG)×Int):Option ((iG×Int)⊕iG):=
 cond (decide (s14.2<x1.Dim)) (
  (xH (x0.zA.length:Int)).bind fun m22=>
  (ixO x1.zP s11.2.2).bind fun v23=>
  (ixO v23 s14.2).bind fun v24=>
  (xI (J0 m22 (0:Int)) v24).bind fun v25=>
  (xI s14.1 [v25]).bind fun v26=>
  (rng (s14.2+1)).bind fun v27=>
  iz (.inl (v26,v27))) (
  iz (.inr s14.1))
def zOp(x0:SPr)(x1:zF)(x2:iG)(s11:(iG)×(List iG)×Int):Option ((iG×(List iG)×Int)⊕(iG×(List iG))):=
 cond (decide (s11.2.2<(x0.zA.length:Int))) (
  (ixO x0.zR s11.2.2).bind fun v5=>
  (f_w v5).bind fun r6=>
  (ixO x2 s11.2.2).bind fun v7=>
  (xI r6 v7).bind fun v8=>
  (xI s11.1 [v8]).bind fun v9=>
  (rng (s11.2.2+1)).bind fun v10=>
  (zH (zQZ x0 x2 s11) ([],v10)).bind fun r21=>
  (zH (zRa x0 x1 s11) (r21,0)).bind fun r28=>
  (xI s11.2.1 [r28]).bind fun v29=>
  (rng (s11.2.2+1)).bind fun v30=>
  iz (.inl (v9,v29,v30))) (
  iz (.inr (s11.1,s11.2.1)))
def zRb(x0:SPr)(x1:zF)(s22:(iG)×Int):Option ((iG×Int)⊕iG):=
 cond (decide (s22.2<x1.Dim)) (
  (rng ((x0.zA.length:Int)+x1.Dim)).bind fun v36=>
  (rng ((x0.zA.length:Int)+s22.2)).bind fun v37=>
  (zQR v36 v37).bind fun r38=>
  (xI s22.1 [r38]).bind fun v39=>
  (rng (s22.2+1)).bind fun v40=>
  iz (.inl (v39,v40))) (
  iz (.inr s22.1))
def zOq(x0:SPr)(x1:zF)(s21:(iG)×(List iG)×Int):Option ((iG×(List iG)×Int)⊕(iG×(List iG))):=
 cond (decide (s21.2.2<x1.Dim)) (
  (rng ((x0.zA.length:Int)+x1.Dim)).bind fun v32=>
  (xH v32).bind fun m33=>
  (xI s21.1 [J0 m33 (0:Int)]).bind fun v34=>
  (rng (s21.2.2+1)).bind fun v35=>
  (zH (zRb x0 x1) ([],v35)).bind fun r41=>
  (xI s21.2.1 [r41]).bind fun v42=>
  (rng (s21.2.2+1)).bind fun v43=>
  iz (.inl (v34,v42,v43))) (
  iz (.inr (s21.1,s21.2.1)))
def f_k(x0:SPr)(x1:zF)(x2:iG):Option SPr:=
 (f_w x0.zA).bind fun r1=>
 (zH (zUC x1) (r1,0)).bind fun r4=>
 (zH (zOp x0 x1 x2) ([],[],0)).bind fun r31=>
 (zH (zOq x0 x1) (r31.1,r31.2,0)).bind fun r44=>
 iz (SPr.mk r4 r44.1 r44.2)
def zYW(x0:SPr)(x1:zF)(x2:iG):Option (SPr×Int):=
 (f_k x0 x1 x2).bind fun r1=>
 (f_y r1).bind fun r2=>
 cond (!r2) (
  iz ((SPr.mk [] [] []),3)) (
  iz (r1,0))
def zUD(x0:SPr):Option Int:=
 (rng ((x0.zA.length:Int)+1)).bind fun v1=>
 (rng ((x0.zA.length:Int)*v1)).bind fun v2=>
 (sL v2 2).bind fun v3=>
 iz v3
def zMH(x0:iF)(x1:Int)(s1:(iG)×Int):Option ((iG×Int)⊕iG):=
 cond (decide (s1.2<(x0.length:Int))) (
  (rng (s1.2+x1)).bind fun v1=>
  (yB x0 s1.2 v1).bind fun v2=>
  (f_F v2).bind fun r3=>
  (xI s1.1 [r3]).bind fun v4=>
  (rng (s1.2+x1)).bind fun v5=>
  iz (.inl (v4,v5))) (
  iz (.inr s1.1))
def zRc(x0:iF)(x1:Int):Option iG:=
 (zH (zMH x0 x1) ([],0)).bind fun r6=>
 iz r6
def zRd(x0:iF)(s6:(iG)×Int):Option ((iG×Int)⊕iG):=
 cond (decide (s6.2<(x0.length:Int))) (
  (zKE (x0.length:Int) s6.2).bind fun r5=>
  (xI s6.1 [r5]).bind fun v6=>
  (rng (s6.2+1)).bind fun v7=>
  iz (.inl (v6,v7))) (
  iz (.inr s6.1))
def zOr(x0:iF)(s5:(iG)×(List iG)×Int):Option ((iG×(List iG)×Int)⊕(iG×(List iG))):=
 cond (decide (s5.2.2<(x0.length:Int))) (
  (xH (x0.length:Int)).bind fun m2=>
  (xI s5.1 [J0 m2 (0:Int)]).bind fun v3=>
  (rng (s5.2.2+1)).bind fun v4=>
  (zH (zRd x0) ([],v4)).bind fun r8=>
  (xI s5.2.1 [r8]).bind fun v9=>
  (rng (s5.2.2+1)).bind fun v10=>
  iz (.inl (v3,v9,v10))) (
  iz (.inr (s5.1,s5.2.1)))
def f_I(x0:iF):Option SPr:=
 (f_F x0).bind fun r1=>
 (zH (zOr x0) ([],[],0)).bind fun r11=>
 iz (SPr.mk r1 r11.1 r11.2)
def zOs(x0:SPr)(x2:iG)(s1:(iG)×Int×Int):Option ((iG×Int×Int)⊕(iG×Int)):=
 cond (decide (s1.2.2<(x0.zR.length:Int))) (
  (ixO x0.zR s1.2.2).bind fun v5=>
  (ixO x2 s1.2.1).bind fun v6=>
  (f_s [v5,v6]).bind fun r7=>
  (ixO s1.1 s1.2.2).bind fun _=>
  (rng (s1.2.1+1)).bind fun v9=>
  (rng (s1.2.2+1)).bind fun v10=>
  iz (.inl (s1.1.set s1.2.2.toNat r7,v9,v10))) (
  iz (.inr (s1.1,s1.2.1)))
def zOt(x2:iG)(s11:(List iG)×Int×Int)(v12:iG)(s12:(List iG)×Int×Int):Option (((List iG)×Int×Int)⊕((List iG)×Int)):=
 cond (decide (s12.2.2<(v12.length:Int))) (
  (ixO v12 s12.2.2).bind fun v13=>
  (ixO s12.1 s11.2.2).bind fun v14=>
  (ixO x2 s12.2.1).bind fun v15=>
  (f_s [v13,v15]).bind fun r16=>
  (ixO v14 s12.2.2).bind fun _=>
  (rng (s12.2.1+1)).bind fun v18=>
  (rng (s12.2.2+1)).bind fun v19=>
  iz (.inl (s12.1.set s11.2.2.toNat (v14.set s12.2.2.toNat r16),v18,v19))) (
  iz (.inr (s12.1,s12.2.1)))
def zOu(x0:SPr)(s11:(List iG)×Int×Int)(v21:iG)(s14:(List iG)×Int):Option (((List iG)×Int)⊕(List iG)):=
 cond (decide (s14.2<(v21.length:Int))) (
  (ixO v21 s14.2).bind fun v22=>
  (ixO s14.1 s11.2.2).bind fun v23=>
  (rng ((x0.zA.length:Int)-1)).bind fun v24=>
  (rng (v24-s11.2.2)).bind fun v25=>
  (rng (v25+s14.2)).bind fun v26=>
  (zUv v22 (x0.zA.length:Int) 0).bind fun r27=>
  (ixO v23 v26).bind fun _=>
  (rng (s14.2+1)).bind fun v29=>
  iz (.inl (s14.1.set s11.2.2.toNat (v23.set v26.toNat r27),v29))) (
  iz (.inr s14.1))
def zOv(x0:SPr)(x1:zF)(x2:iG)(s11:(List iG)×Int×Int):Option (((List iG)×Int×Int)⊕(List iG)):=
 cond (decide (s11.2.2<(x0.zA.length:Int))) (
  (ixO x0.zE s11.2.2).bind fun v12=>
  (zH (zOt x2 s11 v12) (s11.1,s11.2.1,0)).bind fun r20=>
  (ixO x1.zP s11.2.2).bind fun v21=>
  (zH (zOu x0 s11 v21) (r20.1,0)).bind fun r30=>
  (rng (s11.2.2+1)).bind fun v31=>
  iz (.inl (r30,r20.2,v31))) (
  iz (.inr s11.1))
def f_o(x0:SPr)(x1:zF)(x2:iG):Option SPr:=
 (f_F x0.zA).bind fun r1=>
 (f_e [x1.Prime] x1.Dim).bind fun r2=>
 (xI r1 r2).bind fun v3=>
 (f_I v3).bind fun r4=>
 (zH (zOs x0 x2) (r4.zR,0,0)).bind fun r11=>
 (zH (zOv x0 x1 x2) (r4.zE,r11.2,0)).bind fun r32=>
 iz (SPr.mk r4.zA r11.1 r32)
def zUE(x0:SPr)(x1:Int):Option Int:=
 (f_X x0.zA x1).bind fun r1=>
 cond (decide (r1<0)) (
  iz (-1)) (
  (zU6 x0.zR r1).bind fun r2=>
  cond (decide (r2<0)) (
   iz (-1)) (
   (zYV x0.zE r2).bind fun r3=>
   cond (decide (r3<0)) (
    iz (-1)) (
    iz r3)))
def zMI(x0:zF)(x1:iG)(x2:iF)(x3:Int):Option iF:=
 (ixO x0.zP x3).bind fun v1=>
 (f_M x0.Prime x2 v1 x0.Dim).bind fun r2=>
 (ixO x1 x3).bind fun v3=>
 (f_A x0.Prime r2 1 v3).bind fun r4=>
 iz r4
def zUF(x0:zF)(x1:iG)(x3:iF)(s5:(iF)×Int)(s6:(iF)×Int):Option ((iF×Int)⊕iF):=
 (ixO x3 s5.2).bind fun v1=>
 cond (decide (s6.2<v1)) (
  (zMI x0 x1 s6.1 s5.2).bind fun r2=>
  (rng (s6.2+1)).bind fun v3=>
  iz (.inl (r2,v3))) (
  iz (.inr s6.1))
def zUG(x0:zF)(x1:iG)(x3:iF)(s5:(iF)×Int):Option ((iF×Int)⊕iF):=
 cond (decide (s5.2<(x3.length:Int))) (
  (zH (zUF x0 x1 x3 s5) (s5.1,0)).bind fun r4=>
  (rng (s5.2+1)).bind fun v5=>
  iz (.inl (r4,v5))) (
  iz (.inr s5.1))
def f_N(x0:zF)(x1:iG)(x2:iF)(x3:iF):Option iF:=
 (zH (zUG x0 x1 x3) (x2,0)).bind fun r6=>
 iz r6
def zMJ(x0:zF)(x1:iG)(x2:iF)(s1:(iF)×Int):Option ((iF×Int)⊕iF):=
 cond (decide (s1.2<(x2.length:Int))) (
  (ixO x2 s1.2).bind fun v2=>
  (rng (v2-1)).bind fun v3=>
  (zUj x0 v3).bind fun r4=>
  (zUq s1.1 r4).bind fun r5=>
  (rng (v2-1)).bind fun v6=>
  (ixO x1 v6).bind fun v7=>
  (f_x r5 v7 1 x0.Prime).bind fun r8=>
  (rng (s1.2+1)).bind fun v9=>
  iz (.inl (r8,v9))) (
  iz (.inr s1.1))
def zUH(x0:zF)(x1:iG)(x2:iF):Option iF:=
 (xH x0.Dim).bind fun m1=>
 (zH (zMJ x0 x1 x2) (J0 m1 (0:Int),0)).bind fun r10=>
 iz r10
def zMK(x1:zF)(x2:iG)(r1:(List (iF×iF)))(s1:(iG)×Int):Option ((iG×Int)⊕iG):=
 cond (decide (s1.2<(r1.length:Int))) (
  (ixO r1 s1.2).bind fun v2=>
  (zUH x1 x2 v2.1).bind fun r3=>
  (zUH x1 x2 v2.2).bind fun r4=>
  (f_x r3 r4 (-1) x1.Prime).bind fun r5=>
  (xI s1.1 [r5]).bind fun v6=>
  (rng (s1.2+1)).bind fun v7=>
  iz (.inl (v6,v7))) (
  iz (.inr s1.1))
def zWr(x0:SPr)(x1:zF)(x2:iG):Option iG:=
 (f_B x0).bind fun r1=>
 (zH (zMK x1 x2 r1) ([],0)).bind fun r8=>
 iz r8
def zML(x0:zY):Option zJ:=
 cond (decide ((x0.zMY.length:Int)> 0)) (
  (ixO x0.zMY 0).bind fun v1=>
  (xH (x0.p.zA.length:Int)).bind fun m2=>
  (xH (v1.length:Int)).bind fun m3=>
  iz (zJ.mk (J0 m2 (0:Int)) (J0 m3 (0:Int)))) (
  (xH (x0.p.zA.length:Int)).bind fun m4=>
  (xH 0).bind fun m5=>
  iz (zJ.mk (J0 m4 (0:Int)) (J0 m5 (0:Int))))
def f_W(x0:zY)(x1:Int)(x2:Int):Option zJ:=
 (ixO x0.p.zE x1).bind fun v1=>
 (rng (x2-x1)).bind fun v2=>
 (rng (v2-1)).bind fun v3=>
 (ixO v1 v3).bind fun v4=>
 (zWq (x0.p.zA.length:Int) x1 x2).bind fun r5=>
 (ixO x0.zMY r5).bind fun v6=>
 iz (zJ.mk v4 v6)
def zMM(x0:zF)(x1:iF)(x2:Int)(s1:(iF)×Int):Option ((iF×Int)⊕iF):=
 cond (decide (s1.2<(x1.length:Int))) (
  (rng (s1.2+x0.Dim)).bind fun v1=>
  (yB x1 s1.2 v1).bind fun v2=>
  (ixO x0.zP x2).bind fun v3=>
  (f_M x0.Prime v2 v3 x0.Dim).bind fun r4=>
  (xI s1.1 r4).bind fun v5=>
  (rng (s1.2+x0.Dim)).bind fun v6=>
  iz (.inl (v5,v6))) (
  iz (.inr s1.1))
def zWs(x0:zF)(x1:iF)(x2:Int):Option iF:=
 (zH (zMM x0 x1 x2) ([],0)).bind fun r7=>
 iz r7
def zOw(x0:zY)(x1:Int):Option zJ:=
 (ixO x0.p.zR x1).bind fun v1=>
 (ixO x0.zMY x1).bind fun v2=>
 iz (zJ.mk v1 v2)
def zWt(g_d:zY→Int→zJ→zJ→Option zJ)(x0:zY)(x1:Int)(x2:zJ)(s5:(iF)×iF×Int)(s6:(iF)×iF×Int):Option ((iF×iF×Int)⊕(iF×iF)):=
 (ixO x2.x s5.2.2).bind fun v3=>
 cond (decide (s6.2.2<v3)) (
  (rng (x1+1)).bind fun v4=>
  (f_W x0 x1 s5.2.2).bind fun r5=>
  (g_d x0 v4 (zJ.mk s6.1 s6.2.1) r5).bind fun r6=>
  (rng (s6.2.2+1)).bind fun v7=>
  iz (.inl (r6.x,r6.v,v7))) (
  iz (.inr (s6.1,s6.2.1)))
def zUI(g_d:zY→Int→zJ→zJ→Option zJ)(x0:zY)(x1:Int)(x2:zJ)(s5:(iF)×iF×Int):Option ((iF×iF×Int)⊕(iF×iF)):=
 cond (decide (s5.2.2<(x2.x.length:Int))) (
  (zH (zWt g_d x0 x1 x2 s5) (s5.1,s5.2.1,0)).bind fun r8=>
  (rng (s5.2.2+1)).bind fun v9=>
  iz (.inl (r8.1,r8.2,v9))) (
  iz (.inr (s5.1,s5.2.1)))
def b_i(g_d:zY→Int→zJ→zJ→Option zJ)(x0:zY)(x1:Int)(x2:zJ):Option zJ:=
 (zML x0).bind fun r1=>
 (rng (x1+1)).bind fun v2=>
 (zH (zUI g_d x0 x1 x2) (r1.x,r1.v,v2)).bind fun r10=>
 (zWs x0.m x2.v x1).bind fun r11=>
 (f_A x0.m.Prime r10.2 1 r11).bind fun r12=>
 iz (zJ.mk r10.1 r12)
def zRe(g_i:zY→Int→zJ→Option zJ)(x0:zY)(x1:Int)(x3:zJ)(s1:(iF)×iF×Int):Option ((iF×iF×Int)⊕(iF×iF)):=
 (ixO x3.x x1).bind fun v7=>
 cond (decide (s1.2.2<v7)) (
  (g_i x0 x1 (zJ.mk s1.1 s1.2.1)).bind fun r8=>
  (rng (s1.2.2+1)).bind fun v9=>
  iz (.inl (r8.x,r8.v,v9))) (
  iz (.inr (s1.1,s1.2.1)))
def b_d(g_i:zY→Int→zJ→Option zJ)(g_d:zY→Int→zJ→zJ→Option zJ)(x0:zY)(x1:Int)(x2:zJ)(x3:zJ):Option zJ:=
 cond (decide (x1≥(x0.p.zA.length:Int))) (
  (xH (x0.p.zA.length:Int)).bind fun m1=>
  (f_A x0.m.Prime x2.v 1 x3.v).bind fun r2=>
  iz (zJ.mk (J0 m1 (0:Int)) r2)) (
  (f_w x2.x).bind fun r3=>
  (f_w x3.x).bind fun r4=>
  (ixO r3 x1).bind fun _=>
  (ixO r4 x1).bind fun _=>
  (zH (zRe g_i x0 x1 x3) (r3.set x1.toNat 0,x2.v,0)).bind fun r10=>
  (rng (x1+1)).bind fun v11=>
  (g_d x0 v11 (zJ.mk r10.1 r10.2) (zJ.mk (r4.set x1.toNat 0) x3.v)).bind fun r12=>
  (ixO x2.x x1).bind fun v13=>
  (ixO x3.x x1).bind fun v14=>
  (rng (v13+v14)).bind fun v15=>
  (ixO x0.p.zA x1).bind fun v16=>
  cond (decide (v15≥v16)) (
   (ixO x0.p.zA x1).bind fun v17=>
   (rng (v15-v17)).bind fun v18=>
   (rng (x1+1)).bind fun v19=>
   (zOw x0 x1).bind fun r20=>
   (g_d x0 v19 r20 r12).bind fun r21=>
   (f_w r21.x).bind fun r22=>
   (ixO r22 x1).bind fun _=>
   iz (zJ.mk (r22.set x1.toNat v18) r21.v)) (
   (f_w r12.x).bind fun r24=>
   (ixO r24 x1).bind fun _=>
   iz (zJ.mk (r24.set x1.toNat v15) r12.v)))
mutual
def zOx:Nat→zY→Int→zJ→Option zJ
 |0=>fun _ _ _=>iA
 |n+1=>b_i (zOy n)
def zOy:Nat→zY→Int→zJ→zJ→Option zJ
 |0=>fun _ _ _ _=>iA
 |n+1=>b_d (zOx n) (zOy n)
end
def f_i(x0:zY)(x1:Int)(x2:zJ):Option zJ:=zD4 fun n=>zOx n x0 x1 x2
def f_d(x0:zY)(x1:Int)(x2:zJ)(x3:zJ):Option zJ:=zD4 fun n=>zOy n x0 x1 x2 x3
def zMN(x0:zY)(x1:zJ)(x2:zJ):Option iF:=
 (rng (x0.m.Prime-1)).bind fun v1=>
 (f_A x0.m.Prime x1.v v1 x2.v).bind fun r2=>
 iz r2
def zRf(x0:zY)(x1:Int)(s9:(iG)×Int)(s10:(iF)×iF×Int):Option ((iF×iF×Int)⊕(iF×iF)):=
 (ixO x0.p.zA s9.2).bind fun v3=>
 cond (decide (s10.2.2<v3)) (
  (rng (x1+1)).bind fun v4=>
  (f_W x0 x1 s9.2).bind fun r5=>
  (f_d x0 v4 (zJ.mk s10.1 s10.2.1) r5).bind fun r6=>
  (rng (s10.2.2+1)).bind fun v7=>
  iz (.inl (r6.x,r6.v,v7))) (
  iz (.inr (s10.1,s10.2.1)))
def zRg(x0:zY)(x1:Int)(s9:(iG)×Int)(s12:(iG)×Int):Option ((iG×Int)⊕iG):=
 cond (decide (s12.2<(x0.p.zA.length:Int))) (
  (f_W x0 x1 s9.2).bind fun r14=>
  (f_W x0 x1 s12.2).bind fun r15=>
  (f_W x0 s9.2 s12.2).bind fun r16=>
  (f_i x0 x1 r16).bind fun r17=>
  (rng (x1+1)).bind fun v18=>
  (f_d x0 v18 r15 r14).bind fun r19=>
  (rng (x1+1)).bind fun v20=>
  (f_d x0 v20 r14 r17).bind fun r21=>
  (zMN x0 r19 r21).bind fun r22=>
  (xI s12.1 [r22]).bind fun v23=>
  (rng (s12.2+1)).bind fun v24=>
  iz (.inl (v23,v24))) (
  iz (.inr s12.1))
def zUJ(x0:zY)(x1:Int)(s9:(iG)×Int):Option ((iG×Int)⊕iG):=
 cond (decide (s9.2<(x0.p.zA.length:Int))) (
  (zML x0).bind fun r2=>
  (zH (zRf x0 x1 s9) (r2.x,r2.v,0)).bind fun r8=>
  (zOw x0 s9.2).bind fun r9=>
  (f_i x0 x1 r9).bind fun r10=>
  (zMN x0 (zJ.mk r8.1 r8.2) r10).bind fun r11=>
  (xI s9.1 [r11]).bind fun v12=>
  (rng (s9.2+1)).bind fun v13=>
  (zH (zRg x0 x1 s9) (v12,v13)).bind fun r25=>
  (rng (s9.2+1)).bind fun v26=>
  iz (.inl (r25,v26))) (
  iz (.inr s9.1))
def zUK(x0:zY)(x1:Int)(s20:(iF)×iF×Int):Option ((iF×iF×Int)⊕(iF×iF)):=
 (ixO x0.p.zA x1).bind fun v35=>
 cond (decide (s20.2.2<v35)) (
  (f_i x0 x1 (zJ.mk s20.1 s20.2.1)).bind fun r36=>
  (rng (s20.2.2+1)).bind fun v37=>
  iz (.inl (r36.x,r36.v,v37))) (
  iz (.inr (s20.1,s20.2.1)))
def zRh(x0:zY)(x1:Int)(r28:zJ)(s19:(iG)×Int):Option ((iG×Int)⊕iG):=
 cond (decide (s19.2<(x0.p.zA.length:Int))) (
  (zML x0).bind fun r33=>
  (ixO r33.x s19.2).bind fun _=>
  (zH (zUK x0 x1) (r33.x.set s19.2.toNat 1,r33.v,0)).bind fun r38=>
  (rng (x1+1)).bind fun v39=>
  (f_d x0 v39 r28 (zJ.mk r38.1 r38.2)).bind fun r40=>
  (rng (x1+1)).bind fun v41=>
  (f_d x0 v41 (zJ.mk (r33.x.set s19.2.toNat 1) r33.v) r28).bind fun r42=>
  (zMN x0 r40 r42).bind fun r43=>
  (xI s19.1 [r43]).bind fun v44=>
  (rng (s19.2+1)).bind fun v45=>
  iz (.inl (v44,v45))) (
  iz (.inr s19.1))
def f_m(x0:zY)(x1:Int):Option iG:=
 (rng (x1+1)).bind fun v1=>
 (zH (zUJ x0 x1) ([],v1)).bind fun r27=>
 (zOw x0 x1).bind fun r28=>
 (f_i x0 x1 r28).bind fun r29=>
 (zMN x0 r29 r28).bind fun r30=>
 (xI r27 [r30]).bind fun v31=>
 (rng (x1+1)).bind fun v32=>
 (zH (zRh x0 x1 r28) (v31,v32)).bind fun r46=>
 iz r46
def zRi(x0:zY)(s1:(iG)×Int):Option ((iG×Int)⊕iG):=
 cond (decide (s1.2<(x0.p.zA.length:Int))) (
  (f_m x0 s1.2).bind fun r1=>
  (xI s1.1 r1).bind fun v2=>
  (rng (s1.2+1)).bind fun v3=>
  iz (.inl (v2,v3))) (
  iz (.inr s1.1))
def f_O(x0:zY):Option iG:=
 (zH (zRi x0) ([],0)).bind fun r4=>
 iz r4
def zYX(x0:Int)(x1:Int)(x2:iG):Option zU:=
 (f_j x0 x2).bind fun r1=>
 iz (zU.mk x0 x1 r1)
def zWu(x0:Int):Option Bool:=
 iz (x0 != 0)
def zJ1(x0:iF)(s1:Int):Option (Int⊕(Unit⊕Int)):=
 cond (decide (s1<(x0.length:Int))) (
  (ixO x0 s1).bind fun v1=>
  (zWu v1).bind fun r2=>
  cond r2 (
   iz (.inr (.inr s1))) (
   (rng (s1+1)).bind fun v3=>
   iz (.inl v3))) (
  iz (.inr (.inl ())))
def zWv(x0:iF):Option Int:=
 (zH (zJ1 x0) 0).bind fun r4=>
 match r4 with
 |(.inl r4)=>
  iz (-1)
 |(.inr r4)=>
  iz r4
def zMO(x0:iG)(s1:(iF)×Int):Option ((iF×Int)⊕iF):=
 cond (decide (s1.2<(x0.length:Int))) (
  (ixO x0 s1.2).bind fun v1=>
  (zWv v1).bind fun r2=>
  (xI s1.1 [r2]).bind fun v3=>
  (rng (s1.2+1)).bind fun v4=>
  iz (.inl (v3,v4))) (
  iz (.inr s1.1))
def zWw(x0:iG):Option iF:=
 (zH (zMO x0) ([],0)).bind fun r5=>
 iz r5
def zJ2(x0:zU)(r2:(iF))(s1:(iF)×Int):Option ((iF×Int)⊕iF):=
 cond (decide (s1.2<(r2.length:Int))) (
  (ixO r2 s1.2).bind fun v3=>
  (ixO x0.Rows s1.2).bind fun v4=>
  (ixO s1.1 v3).bind fun v5=>
  (rng (0-v5)).bind fun v6=>
  (f_x s1.1 v4 v6 x0.Prime).bind fun r7=>
  (rng (s1.2+1)).bind fun v8=>
  iz (.inl (r7,v8))) (
  iz (.inr s1.1))
def zWx(x0:zU)(x1:iF):Option iF:=
 (f_F x1).bind fun r1=>
 (zWw x0.Rows).bind fun r2=>
 (zH (zJ2 x0 r2) (r1,0)).bind fun r9=>
 iz r9
def zMP(x0:iG)(s1:(iF)×Int):Option ((iF×Int)⊕iF):=
 cond (decide (s1.2<(x0.length:Int))) (
  (ixO x0 s1.2).bind fun v1=>
  (xI s1.1 v1).bind fun v2=>
  (rng (s1.2+1)).bind fun v3=>
  iz (.inl (v2,v3))) (
  iz (.inr s1.1))
def zWy(x0:iG):Option iF:=
 (zH (zMP x0) ([],0)).bind fun r4=>
 iz r4
def zRj(x2:Int)(r2:(iG))(s1:(iG)×Int):Option ((iG×Int)⊕iG):=
 cond (decide (s1.2<(r2.length:Int))) (
  (ixO r2 s1.2).bind fun v3=>
  (yB v3 0 x2).bind fun v4=>
  (f_Y v4).bind fun r5=>
  cond r5 (
   (yB v3 x2 v3.length).bind fun v6=>
   (xI s1.1 [v6]).bind fun v7=>
   (rng (s1.2+1)).bind fun v8=>
   iz (.inl (v7,v8))) (
   (rng (s1.2+1)).bind fun v9=>
   iz (.inl (s1.1,v9)))) (
  iz (.inr s1.1))
def f_J(x0:Int)(x1:iG)(x2:Int):Option iG:=
 (zWk x1).bind fun r1=>
 (f_j x0 r1).bind fun r2=>
 (zH (zRj x2 r2) ([],0)).bind fun r10=>
 (f_j x0 r10).bind fun r11=>
 iz r11
def zMQ(x0:iF)(x1:Int)(s1:(iG)×Int):Option ((iG×Int)⊕iG):=
 (rng (s1.2+x1)).bind fun v1=>
 cond (decide (v1≤(x0.length:Int))) (
  (rng (s1.2+x1)).bind fun v2=>
  (yB x0 s1.2 v2).bind fun v3=>
  (f_w v3).bind fun r4=>
  (xI s1.1 [r4]).bind fun v5=>
  (rng (s1.2+x1)).bind fun v6=>
  iz (.inl (v5,v6))) (
  iz (.inr s1.1))
def zUL(x0:iF)(x1:Int):Option iG:=
 (zH (zMQ x0 x1) ([],0)).bind fun r7=>
 iz r7
def zUM(x0:SPr)(x1:zF)(x2:iG)(s5:(iG)×Int)(s6:(iF)×Int):Option ((iF×Int)⊕iF):=
 (ixO x0.zA s5.2).bind fun v2=>
 cond (decide (s6.2<v2)) (
  (zMI x1 x2 s6.1 s5.2).bind fun r3=>
  (rng (s6.2+1)).bind fun v4=>
  iz (.inl (r3,v4))) (
  iz (.inr s6.1))
def zUN(x0:SPr)(x1:zF)(x2:iG)(m1:Nat)(s5:(iG)×Int):Option ((iG×Int)⊕iG):=
 cond (decide (s5.2<(x0.zA.length:Int))) (
  (zH (zUM x0 x1 x2 s5) (J0 m1 (0:Int),0)).bind fun r5=>
  (rng (x1.Prime-1)).bind fun v6=>
  (ixO x0.zR s5.2).bind fun v7=>
  (f_N x1 x2 (J0 m1 (0:Int)) v7).bind fun r8=>
  (f_A x1.Prime r5 v6 r8).bind fun r9=>
  (xI s5.1 [r9]).bind fun v10=>
  (rng (s5.2+1)).bind fun v11=>
  iz (.inl (v10,v11))) (
  iz (.inr s5.1))
def zUO(x0:SPr)(x1:zF)(x2:iG)(m1:Nat)(s13:(iG)×Int)(s14:(iG)×Int):Option ((iG×Int)⊕iG):=
 cond (decide (s14.2<(x0.zA.length:Int))) (
  (zMI x1 x2 (J0 m1 (0:Int)) s14.2).bind fun r14=>
  (zMI x1 x2 r14 s13.2).bind fun r15=>
  (zMI x1 x2 (J0 m1 (0:Int)) s13.2).bind fun r16=>
  (ixO x0.zE s13.2).bind fun v17=>
  (rng (s14.2-s13.2)).bind fun v18=>
  (rng (v18-1)).bind fun v19=>
  (ixO v17 v19).bind fun v20=>
  (f_N x1 x2 r16 v20).bind fun r21=>
  (rng (x1.Prime-1)).bind fun v22=>
  (f_A x1.Prime r15 v22 r21).bind fun r23=>
  (xI s14.1 [r23]).bind fun v24=>
  (rng (s14.2+1)).bind fun v25=>
  iz (.inl (v24,v25))) (
  iz (.inr s14.1))
def zUP(x0:SPr)(x1:zF)(x2:iG)(m1:Nat)(s13:(iG)×Int):Option ((iG×Int)⊕iG):=
 cond (decide (s13.2<(x0.zA.length:Int))) (
  (rng (s13.2+1)).bind fun v13=>
  (zH (zUO x0 x1 x2 m1 s13) (s13.1,v13)).bind fun r26=>
  (rng (s13.2+1)).bind fun v27=>
  iz (.inl (r26,v27))) (
  iz (.inr s13.1))
def f_u(x0:SPr)(x1:zF)(x2:iG):Option iG:=
 (xH x1.Dim).bind fun m1=>
 (zH (zUN x0 x1 x2 m1) ([],0)).bind fun r12=>
 (zH (zUP x0 x1 x2 m1) (r12,0)).bind fun r28=>
 iz r28
def zMR(x0:SPr)(x1:zF)(v1:Int)(s1:(iG)×Int):Option ((iG×Int)⊕iG):=
 cond (decide (s1.2<v1)) (
  (xH v1).bind fun m2=>
  (ixO (J0 m2 (0:Int)) s1.2).bind fun _=>
  (zUL ((J0 m2 (0:Int)).set s1.2.toNat 1) x1.Dim).bind fun r4=>
  (f_u x0 x1 r4).bind fun r5=>
  (zWy r5).bind fun r6=>
  (xI s1.1 [r6]).bind fun v7=>
  (rng (s1.2+1)).bind fun v8=>
  iz (.inl (v7,v8))) (
  iz (.inr s1.1))
def zWz(x0:SPr)(x1:zF):Option iG:=
 (rng ((x0.zA.length:Int)*x1.Dim)).bind fun v1=>
 (zH (zMR x0 x1 v1) ([],0)).bind fun r9=>
 iz r9
def zUQ(x0:SPr)(x1:zF):Option iG:=
 (zWz x0 x1).bind fun r1=>
 (f_r x1.Prime r1).bind fun r2=>
 iz r2
def zMS(x0:SPr)(x1:zF)(v1:Int)(s1:(iG)×Int):Option ((iG×Int)⊕iG):=
 cond (decide (s1.2<v1)) (
  (zKE v1 s1.2).bind fun r2=>
  (zRc r2 x1.Dim).bind fun r3=>
  (zWr x0 x1 r3).bind fun r4=>
  (f_s r4).bind fun r5=>
  (xI s1.1 [r5]).bind fun v6=>
  (rng (s1.2+1)).bind fun v7=>
  iz (.inl (v6,v7))) (
  iz (.inr s1.1))
def zUR(x0:SPr)(x1:zF):Option iG:=
 (rng ((x0.zA.length:Int)*x1.Dim)).bind fun v1=>
 (zH (zMS x0 x1 v1) ([],0)).bind fun r8=>
 iz r8
def zUS(x0:SPr)(x1:zF)(x2:iF):Option iG:=
 (zUR x0 x1).bind fun r1=>
 (zYX x1.Prime x1.Dim r1).bind fun r2=>
 (zWx r2 x2).bind fun r3=>
 (zRc r3 x1.Dim).bind fun r4=>
 iz r4
structure zL where
 Word:iF
 Left:iF
 zXx:iF
abbrev zG(x:zL):T:=.agg [(L 1 I) x.Word,(L 1 I) x.Left,(L 1 I) x.zXx]
instance:Enc zG:=.of fun _=>zNn ⟨Enc.t (f:=(L 1 I)) inferInstance _,Enc.t (f:=(L 1 I)) inferInstance _,Enc.t (f:=(L 1 I)) inferInstance _,trivial⟩
structure xT where
 p:SPr
 m:zF
 sums:List zU
abbrev zJ3(x:xT):T:=.agg [(Pt yF) x.p,(Pt zW) x.m,(L 3 zO) x.sums]
instance:Enc zJ3:=.of fun _=>zNn ⟨Enc.t (f:=(Pt yF)) inferInstance _,Enc.t (f:=(Pt zW)) inferInstance _,Enc.t (f:=(L 3 zO)) inferInstance _,trivial⟩
def zRk(x1:zF)(s5:(iG)×Int)(s6:(iF)×Int):Option ((iF×Int)⊕iF):=
 cond (decide (s6.2<x1.Dim)) (
  (rng (s5.2*x1.Dim)).bind fun v5=>
  (rng (v5+s6.2)).bind fun v6=>
  (rng (v6*x1.Dim)).bind fun v7=>
  (rng (v7+s6.2)).bind fun v8=>
  (ixO s6.1 v8).bind fun _=>
  (rng (s6.2+1)).bind fun v10=>
  iz (.inl (s6.1.set v8.toNat 1,v10))) (
  iz (.inr s6.1))
def zUT(x1:zF)(r1:Int)(v2:Int)(s5:(iG)×Int):Option ((iG×Int)⊕iG):=
 cond (decide (s5.2<r1)) (
  (rng (v2*x1.Dim)).bind fun v3=>
  (xH v3).bind fun m4=>
  (zH (zRk x1 s5) (J0 m4 (0:Int),0)).bind fun r11=>
  (xI s5.1 [r11]).bind fun v12=>
  (rng (s5.2+1)).bind fun v13=>
  iz (.inl (v12,v13))) (
  iz (.inr s5.1))
def zRl(x1:zF)(r15:(iG))(s13:(iG)×Int)(s14:(iF)×Int):Option ((iF×Int)⊕iF):=
 cond (decide (s14.2<(r15.length:Int))) (
  (ixO r15 s14.2).bind fun v16=>
  (rng (s13.2*x1.Dim)).bind fun v17=>
  (rng (s13.2+1)).bind fun v18=>
  (rng (v18*x1.Dim)).bind fun v19=>
  (yB v16 v17 v19).bind fun v20=>
  (xI s14.1 v20).bind fun v21=>
  (rng (s14.2+1)).bind fun v22=>
  iz (.inl (v21,v22))) (
  iz (.inr s14.1))
def zUU(x1:zF)(v2:Int)(r15:(iG))(s13:(iG)×Int):Option ((iG×Int)⊕iG):=
 cond (decide (s13.2<v2)) (
  (zH (zRl x1 r15 s13) ([],0)).bind fun r23=>
  (xI s13.1 [r23]).bind fun v24=>
  (rng (s13.2+1)).bind fun v25=>
  iz (.inl (v24,v25))) (
  iz (.inr s13.1))
def f_n(x0:SPr)(x1:zF):Option iG:=
 (zUB x0).bind fun r1=>
 (rng (r1*x1.Dim)).bind fun v2=>
 (zH (zUT x1 r1 v2) ([],0)).bind fun r14=>
 (f_O (zY.mk x0 x1 r14)).bind fun r15=>
 (zH (zUU x1 v2 r15) ([],0)).bind fun r26=>
 (rng ((r15.length:Int)*x1.Dim)).bind fun v27=>
 (zWp x1.Prime r26 v27).bind fun r28=>
 iz r28
def zOz(x0:SPr)(x1:iF)(x2:Int):Option iF:=
 (rng (x2+1)).bind fun v1=>
 cond (decide (v1<(x1.length:Int))) (
  (ixO x1 x2).bind fun v2=>
  (rng (x2+1)).bind fun v3=>
  (ixO x1 v3).bind fun v4=>
  cond (decide (v2> v4)) (
   (ixO x1 x2).bind fun v5=>
   (rng (v5-1)).bind fun v6=>
   (rng (x2+1)).bind fun v7=>
   (ixO x1 v7).bind fun v8=>
   (rng (v8-1)).bind fun v9=>
   (yB x1 0 x2).bind fun v10=>
   (rng (v9+1)).bind fun v11=>
   (ixO x0.zE v9).bind fun v12=>
   (rng (v6-v9)).bind fun v13=>
   (rng (v13-1)).bind fun v14=>
   (ixO v12 v14).bind fun v15=>
   (f_z v15).bind fun r16=>
   (rng (x2+2)).bind fun v17=>
   (yB x1 v17 x1.length).bind fun v18=>
   (f_s [v10,[v11],r16,v18]).bind fun r19=>
   iz r19) (
   (ixO x1 x2).bind fun v20=>
   (rng (v20-1)).bind fun v21=>
   (yB x1 0 x2).bind fun v22=>
   (ixO x0.zR v21).bind fun v23=>
   (f_z v23).bind fun r24=>
   (ixO x0.zA v21).bind fun v25=>
   (rng (x2+v25)).bind fun v26=>
   (yB x1 v26 x1.length).bind fun v27=>
   (f_s [v22,r24,v27]).bind fun r28=>
   iz r28)) (
  (ixO x1 x2).bind fun v2=>
  (rng (v2-1)).bind fun v3=>
  (yB x1 0 x2).bind fun v4=>
  (ixO x0.zR v3).bind fun v5=>
  (f_z v5).bind fun r6=>
  (ixO x0.zA v3).bind fun v7=>
  (rng (x2+v7)).bind fun v8=>
  (yB x1 v8 x1.length).bind fun v9=>
  (f_s [v4,r6,v9]).bind fun r10=>
  iz r10)
def f_V(x0:iF)(x1:Int)(x2:List zL)(x3:SPr):Option (List zL):=
 (zOz x3 x0 0).bind fun r1=>
 (zOz x3 x0 x1).bind fun r2=>
 (xI x2 [(zL.mk x0 r1 r2)]).bind fun v3=>
 iz v3
def zMT(x0:Int)(x1:Int):Option iF:=
 (f_e [x0] x1).bind fun r1=>
 iz r1
def zRm(x0:SPr)(s17:(List zL)×Int)(s22:(List zL)×Int)(s23:(List zL)×Int):Option (((List zL)×Int)⊕(List zL)):=
 cond (decide (s23.2≤(x0.zA.length:Int))) (
  (f_V [s23.2,s22.2,s17.2] 1 s23.1 x0).bind fun r3=>
  (rng (s23.2+1)).bind fun v4=>
  iz (.inl (r3,v4))) (
  iz (.inr s23.1))
def zRn(x0:SPr)(s17:(List zL)×Int)(s22:(List zL)×Int):Option (((List zL)×Int)⊕(List zL)):=
 cond (decide (s22.2≤(x0.zA.length:Int))) (
  (rng (s22.2+1)).bind fun v2=>
  (zH (zRm x0 s17 s22) (s22.1,v2)).bind fun r5=>
  (rng (s22.2+1)).bind fun v6=>
  iz (.inl (r5,v6))) (
  iz (.inr s22.1))
def zRo(x0:SPr)(s17:(List zL)×Int):Option (((List zL)×Int)⊕(List zL)):=
 cond (decide (s17.2≤(x0.zA.length:Int))) (
  (rng (s17.2+1)).bind fun v1=>
  (zH (zRn x0 s17) (s17.1,v1)).bind fun r7=>
  (rng (s17.2+1)).bind fun v8=>
  iz (.inl (r7,v8))) (
  iz (.inr s17.1))
def zRp(x0:SPr)(s31:(List zL)×Int)(s32:(List zL)×Int):Option (((List zL)×Int)⊕(List zL)):=
 cond (decide (s32.2≤(x0.zA.length:Int))) (
  (rng (s32.2-1)).bind fun v11=>
  (ixO x0.zA v11).bind fun v12=>
  (zMT s32.2 v12).bind fun r13=>
  (xI r13 [s31.2]).bind fun v14=>
  (rng (s32.2-1)).bind fun v15=>
  (ixO x0.zA v15).bind fun v16=>
  (rng (v16-1)).bind fun v17=>
  (f_V v14 v17 s32.1 x0).bind fun r18=>
  (rng (s32.2+1)).bind fun v19=>
  iz (.inl (r18,v19))) (
  iz (.inr s32.1))
def zRq(x0:SPr)(s31:(List zL)×Int):Option (((List zL)×Int)⊕(List zL)):=
 cond (decide (s31.2≤(x0.zA.length:Int))) (
  (rng (s31.2+1)).bind fun v10=>
  (zH (zRp x0 s31) (s31.1,v10)).bind fun r20=>
  (rng (s31.2+1)).bind fun v21=>
  iz (.inl (r20,v21))) (
  iz (.inr s31.1))
def zRr(x0:SPr)(s39:(List zL)×Int)(s40:(List zL)×Int):Option (((List zL)×Int)⊕(List zL)):=
 cond (decide (s40.2≤(x0.zA.length:Int))) (
  (rng (s39.2-1)).bind fun v24=>
  (ixO x0.zA v24).bind fun v25=>
  (zMT s39.2 v25).bind fun r26=>
  (xI [s40.2] r26).bind fun v27=>
  (f_V v27 1 s40.1 x0).bind fun r28=>
  (rng (s40.2+1)).bind fun v29=>
  iz (.inl (r28,v29))) (
  iz (.inr s40.1))
def zRs(x0:SPr)(s39:(List zL)×Int):Option (((List zL)×Int)⊕(List zL)):=
 cond (decide (s39.2≤(x0.zA.length:Int))) (
  (rng (s39.2+1)).bind fun v23=>
  (zH (zRr x0 s39) (s39.1,v23)).bind fun r30=>
  (rng (s39.2+1)).bind fun v31=>
  iz (.inl (r30,v31))) (
  iz (.inr s39.1))
def zRt(x0:SPr)(s43:(List zL)×Int):Option (((List zL)×Int)⊕(List zL)):=
 cond (decide (s43.2≤(x0.zA.length:Int))) (
  (rng (s43.2-1)).bind fun v33=>
  (ixO x0.zA v33).bind fun v34=>
  (rng (v34+1)).bind fun v35=>
  (zMT s43.2 v35).bind fun r36=>
  (f_V r36 1 s43.1 x0).bind fun r37=>
  (rng (s43.2+1)).bind fun v38=>
  iz (.inl (r37,v38))) (
  iz (.inr s43.1))
def f_f(x0:SPr):Option (List zL):=
 (zH (zRo x0) ([],1)).bind fun r9=>
 (zH (zRq x0) (r9,1)).bind fun r22=>
 (zH (zRs x0) (r22,1)).bind fun r32=>
 (zH (zRt x0) (r32,1)).bind fun r39=>
 iz r39
def zW0(x0:xT)(x1:iF)(x2:Int):Option Int:=
 (rng (x2+1)).bind fun v1=>
 cond (decide (v1<(x1.length:Int))) (
  (ixO x1 x2).bind fun v2=>
  (rng (x2+1)).bind fun v3=>
  (ixO x1 v3).bind fun v4=>
  cond (decide (v2> v4)) (
   (ixO x1 x2).bind fun v5=>
   (rng (v5-1)).bind fun v6=>
   (rng (x2+1)).bind fun v7=>
   (ixO x1 v7).bind fun v8=>
   (rng (v8-1)).bind fun v9=>
   (rng ((x0.p.zA.length:Int)-1)).bind fun v10=>
   (rng (v9*v10)).bind fun v11=>
   (rng ((x0.p.zA.length:Int)+v11)).bind fun v12=>
   (rng (v9-1)).bind fun v13=>
   (rng (v9*v13)).bind fun v14=>
   (sL v14 2).bind fun v15=>
   (rng (v12-v15)).bind fun v16=>
   (rng (v16+v6)).bind fun v17=>
   (rng (v17-v9)).bind fun v18=>
   (rng (v18-1)).bind fun v19=>
   iz v19) (
   (ixO x1 x2).bind fun v20=>
   (rng (v20-1)).bind fun v21=>
   iz v21)) (
  (ixO x1 x2).bind fun v2=>
  (rng (v2-1)).bind fun v3=>
  iz v3)
def zUV(x0:xT)(x3:Int)(r1:Int)(r9:zU)(s1:(List zU)×Int):Option (((List zU)×Int)⊕(List zU)):=
 cond (decide (s1.2<(r9.Rows.length:Int))) (
  (ixO r9.Rows s1.2).bind fun v10=>
  (ixO s1.1 r1).bind fun v11=>
  (ixO v11.Rows s1.2).bind fun v12=>
  (f_x v12 v10 x3 x0.m.Prime).bind fun r13=>
  (rng (s1.2+1)).bind fun v14=>
  iz (.inl (s1.1.set r1.toNat (zU.mk v11.Prime v11.xU (v11.Rows.set s1.2.toNat r13)),v14))) (
  iz (.inr s1.1))
def zUW(x0:xT)(x3:Int)(r1:Int)(r12:zU)(s3:(List zU)×Int):Option (((List zU)×Int)⊕(List zU)):=
 cond (decide (s3.2<(r12.Rows.length:Int))) (
  (ixO r12.Rows s3.2).bind fun v13=>
  (ixO s3.1 r1).bind fun v14=>
  (ixO v14.Rows s3.2).bind fun v15=>
  (f_x v15 v13 x3 x0.m.Prime).bind fun r16=>
  (rng (s3.2+1)).bind fun v17=>
  iz (.inl (s3.1.set r1.toNat (zU.mk v14.Prime v14.xU (v14.Rows.set s3.2.toNat r16)),v17))) (
  iz (.inr s3.1))
def zUX(x0:xT)(x3:Int)(r1:Int)(r21:zU)(s5:(List zU)×Int):Option (((List zU)×Int)⊕(List zU)):=
 cond (decide (s5.2<(r21.Rows.length:Int))) (
  (ixO r21.Rows s5.2).bind fun v22=>
  (ixO s5.1 r1).bind fun v23=>
  (ixO v23.Rows s5.2).bind fun v24=>
  (f_x v24 v22 x3 x0.m.Prime).bind fun r25=>
  (rng (s5.2+1)).bind fun v26=>
  iz (.inl (s5.1.set r1.toNat (zU.mk v23.Prime v23.xU (v23.Rows.set s5.2.toNat r25)),v26))) (
  iz (.inr s5.1))
def f_l(x0:xT)(x1:iF)(x2:Int)(x3:Int):Option (iF×xT):=
 (zW0 x0 x1 x2).bind fun r1=>
 (zOz x0.p x1 x2).bind fun r2=>
 (rng (x2+1)).bind fun v3=>
 cond (decide (v3≥(x1.length:Int))) (
  (ixO x1 x2).bind fun v4=>
  (rng (v4-1)).bind fun v5=>
  (ixO x0.p.zA v5).bind fun v6=>
  (rng (x2+v6)).bind fun v7=>
  (yB x1 v7 x1.length).bind fun v8=>
  (f_Q x0.m v8).bind fun r9=>
  (zH (zUV x0 x3 r1 r9) (x0.sums,0)).bind fun r15=>
  iz (r2,(xT.mk x0.p x0.m r15))) (
  (ixO x1 x2).bind fun v4=>
  (rng (x2+1)).bind fun v5=>
  (ixO x1 v5).bind fun v6=>
  cond (decide (v4≤v6)) (
   (ixO x1 x2).bind fun v7=>
   (rng (v7-1)).bind fun v8=>
   (ixO x0.p.zA v8).bind fun v9=>
   (rng (x2+v9)).bind fun v10=>
   (yB x1 v10 x1.length).bind fun v11=>
   (f_Q x0.m v11).bind fun r12=>
   (zH (zUW x0 x3 r1 r12) (x0.sums,0)).bind fun r18=>
   iz (r2,(xT.mk x0.p x0.m r18))) (
   (rng (x2+2)).bind fun v19=>
   (yB x1 v19 x1.length).bind fun v20=>
   (f_Q x0.m v20).bind fun r21=>
   (zH (zUX x0 x3 r1 r21) (x0.sums,0)).bind fun r27=>
   iz (r2,(xT.mk x0.p x0.m r27))))
def zO0(x1:iF)(x2:Int)(v10:iF)(s1:Int):Option (Int⊕(Unit⊕Bool)):=
 cond (decide (s1<(v10.length:Int))) (
  (ixO v10 s1).bind fun v11=>
  (ixO x1 x2).bind fun v12=>
  cond (v11 != v12) (
   iz (.inr (.inr iC))) (
   (rng (s1+1)).bind fun v13=>
   iz (.inl v13))) (
  iz (.inr (.inl ())))
def zO1(x1:iF)(x2:Int)(v7:iF)(s3:Int):Option (Int⊕(Unit⊕Bool)):=
 cond (decide (s3<(v7.length:Int))) (
  (ixO v7 s3).bind fun v8=>
  (ixO x1 x2).bind fun v9=>
  cond (v8 != v9) (
   iz (.inr (.inr iC))) (
   (rng (s3+1)).bind fun v10=>
   iz (.inl v10))) (
  iz (.inr (.inl ())))
def f_E(x0:SPr)(x1:iF)(x2:Int):Option Bool:=
 (rng (x2+1)).bind fun v1=>
 cond (decide (v1<(x1.length:Int))) (
  (ixO x1 x2).bind fun v2=>
  (rng (x2+1)).bind fun v3=>
  (ixO x1 v3).bind fun v4=>
  cond (decide (v2> v4)) (
   iz iB) (
   (ixO x1 x2).bind fun v5=>
   (rng (v5-1)).bind fun v6=>
   (ixO x0.zA v6).bind fun v7=>
   (rng (x2+v7)).bind fun v8=>
   cond (decide (v8> (x1.length:Int))) (
    iz iC) (
    (rng (x2+v7)).bind fun v9=>
    (yB x1 x2 v9).bind fun v10=>
    (zH (zO0 x1 x2 v10) 0).bind fun r14=>
    match r14 with
    |(.inl r14)=>
     iz iB
    |(.inr r14)=>
     iz r14))) (
  (ixO x1 x2).bind fun v2=>
  (rng (v2-1)).bind fun v3=>
  (ixO x0.zA v3).bind fun v4=>
  (rng (x2+v4)).bind fun v5=>
  cond (decide (v5> (x1.length:Int))) (
   iz iC) (
   (rng (x2+v4)).bind fun v6=>
   (yB x1 x2 v6).bind fun v7=>
   (zH (zO1 x1 x2 v7) 0).bind fun r11=>
   match r11 with
   |(.inl r11)=>
    iz iB
   |(.inr r11)=>
    iz r11))
def zUY(x0:SPr)(x1:iF)(s1:Int):Option (Int⊕(Unit⊕Int)):=
 cond (decide (s1<(x1.length:Int))) (
  (f_E x0 x1 s1).bind fun r1=>
  cond r1 (
   iz (.inr (.inr s1))) (
   (rng (s1+1)).bind fun v2=>
   iz (.inl v2))) (
  iz (.inr (.inl ())))
def f_U(x0:SPr)(x1:iF):Option Int:=
 (zH (zUY x0 x1) 0).bind fun r3=>
 match r3 with
 |(.inl r3)=>
  iz (-1)
 |(.inr r3)=>
  iz r3
def zRu(x2:Int)(s1:SPr×zF×(List zU)×iF×Int):Option ((SPr×zF×(List zU)×iF×Int)⊕(SPr×zF×(List zU))):=
 cond (decide (s1.2.2.2.2≥0)) (
  (f_l (xT.mk s1.1 s1.2.1 s1.2.2.1) s1.2.2.2.1 s1.2.2.2.2 x2).bind fun r2=>
  (f_U r2.2.p r2.1).bind fun r3=>
  iz (.inl (r2.2.p,r2.2.m,r2.2.sums,r2.1,r3))) (
  iz (.inr (s1.1,s1.2.1,s1.2.2.1)))
def f_t(x0:xT)(x1:iF)(x2:Int):Option xT:=
 (f_U x0.p x1).bind fun r1=>
 (zH (zRu x2) (x0.p,x0.m,x0.sums,x1,r1)).bind fun r4=>
 iz (xT.mk r4.1 r4.2.1 r4.2.2)
def zRv(r6:zU)(s71:(iG)×Int):Option ((iG×Int)⊕iG):=
 cond (decide (s71.2<(r6.Rows.length:Int))) (
  (ixO s71.1 s71.2).bind fun v7=>
  (ixO v7 s71.2).bind fun _=>
  (rng (s71.2+1)).bind fun v9=>
  iz (.inl (s71.1.set s71.2.toNat (v7.set s71.2.toNat 0),v9))) (
  iz (.inr s71.1))
def zRw(x1:zF)(r1:Int)(s70:(List zU)×Int):Option (((List zU)×Int)⊕(List zU)):=
 cond (decide (s70.2<r1)) (
  (f_H x1.Prime x1.Dim).bind fun r6=>
  (zH (zRv r6) (r6.Rows,0)).bind fun r10=>
  (xI s70.1 [(zU.mk r6.Prime r6.xU r10)]).bind fun v11=>
  (rng (s70.2+1)).bind fun v12=>
  iz (.inl (v11,v12))) (
  iz (.inr s70.1))
def zRx(x1:zF)(s78:(iG)×Int)(v23:zU)(s79:(iG)×Int):Option ((iG×Int)⊕iG):=
 cond (decide (s79.2<(v23.Rows.length:Int))) (
  (ixO v23.Rows s79.2).bind fun v24=>
  (rng (s78.2*x1.Dim)).bind fun v25=>
  (rng (v25+s79.2)).bind fun v26=>
  (ixO s79.1 v26).bind fun v27=>
  (xI v27 v24).bind fun v28=>
  (rng (s79.2+1)).bind fun v29=>
  iz (.inl (s79.1.set v26.toNat v28,v29))) (
  iz (.inr s79.1))
def zMU(x1:zF)(r22:xT)(s78:(iG)×Int):Option ((iG×Int)⊕iG):=
 cond (decide (s78.2<(r22.sums.length:Int))) (
  (ixO r22.sums s78.2).bind fun v23=>
  (zH (zRx x1 s78 v23) (s78.1,0)).bind fun r30=>
  (rng (s78.2+1)).bind fun v31=>
  iz (.inl (r30,v31))) (
  iz (.inr s78.1))
def yBi(x1:zF)(s86:(iG)×Int)(v38:zU)(s87:(iG)×Int):Option ((iG×Int)⊕iG):=
 cond (decide (s87.2<(v38.Rows.length:Int))) (
  (ixO v38.Rows s87.2).bind fun v39=>
  (rng (s86.2*x1.Dim)).bind fun v40=>
  (rng (v40+s87.2)).bind fun v41=>
  (ixO s87.1 v41).bind fun v42=>
  (xI v42 v39).bind fun v43=>
  (rng (s87.2+1)).bind fun v44=>
  iz (.inl (s87.1.set v41.toNat v43,v44))) (
  iz (.inr s87.1))
def zYY(x1:zF)(r37:xT)(s86:(iG)×Int):Option ((iG×Int)⊕iG):=
 cond (decide (s86.2<(r37.sums.length:Int))) (
  (ixO r37.sums s86.2).bind fun v38=>
  (zH (yBi x1 s86 v38) (s86.1,0)).bind fun r45=>
  (rng (s86.2+1)).bind fun v46=>
  iz (.inl (r45,v46))) (
  iz (.inr s86.1))
def yBj(x1:zF)(s94:(iG)×Int)(v20:zU)(s95:(iG)×Int):Option ((iG×Int)⊕iG):=
 cond (decide (s95.2<(v20.Rows.length:Int))) (
  (ixO v20.Rows s95.2).bind fun v21=>
  (rng (s94.2*x1.Dim)).bind fun v22=>
  (rng (v22+s95.2)).bind fun v23=>
  (ixO s95.1 v23).bind fun v24=>
  (xI v24 v21).bind fun v25=>
  (rng (s95.2+1)).bind fun v26=>
  iz (.inl (s95.1.set v23.toNat v25,v26))) (
  iz (.inr s95.1))
def zYZ(x1:zF)(r19:xT)(s94:(iG)×Int):Option ((iG×Int)⊕iG):=
 cond (decide (s94.2<(r19.sums.length:Int))) (
  (ixO r19.sums s94.2).bind fun v20=>
  (zH (yBj x1 s94 v20) (s94.1,0)).bind fun r27=>
  (rng (s94.2+1)).bind fun v28=>
  iz (.inl (r27,v28))) (
  iz (.inr s94.1))
def zRy(x0:SPr)(x1:zF)(r1:Int)(r4:(List zL))(s65:(iG)×Int):Option ((iG×Int)⊕iG):=
 cond (decide (s65.2<(r4.length:Int))) (
  (ixO r4 s65.2).bind fun v5=>
  (zH (zRw x1 r1) ([],0)).bind fun r13=>
  (ixO v5.Word 0).bind fun v14=>
  (ixO v5.Word 1).bind fun v15=>
  cond (v14==v15) (
   (rng ((v5.Word.length:Int)-1)).bind fun v16=>
   (ixO v5.Word v16).bind fun v17=>
   cond (v17 != v14) (
    (rng ((v5.Word.length:Int)-2)).bind fun v18=>
    (f_l (xT.mk x0 x1 r13) v5.Word 0 1).bind fun r19=>
    (f_t r19.2 r19.1 1).bind fun r20=>
    (f_l r20 v5.Word v18 (-1)).bind fun r21=>
    (f_t r21.2 r21.1 (-1)).bind fun r22=>
    (zH (zMU x1 r22) (s65.1,0)).bind fun r32=>
    (rng (s65.2+1)).bind fun v33=>
    iz (.inl (r32,v33))) (
    (f_l (xT.mk x0 x1 r13) v5.Word 0 1).bind fun r34=>
    (f_t r34.2 r34.1 1).bind fun r35=>
    (f_l r35 v5.Word 1 (-1)).bind fun r36=>
    (f_t r36.2 r36.1 (-1)).bind fun r37=>
    (zH (zYY x1 r37) (s65.1,0)).bind fun r47=>
    (rng (s65.2+1)).bind fun v48=>
    iz (.inl (r47,v48)))) (
   (f_l (xT.mk x0 x1 r13) v5.Word 0 1).bind fun r16=>
   (f_t r16.2 r16.1 1).bind fun r17=>
   (f_l r17 v5.Word 1 (-1)).bind fun r18=>
   (f_t r18.2 r18.1 (-1)).bind fun r19=>
   (zH (zYZ x1 r19) (s65.1,0)).bind fun r29=>
   (rng (s65.2+1)).bind fun v30=>
   iz (.inl (r29,v30)))) (
  iz (.inr s65.1))
def f_g(x0:SPr)(x1:zF):Option iG:=
 (zUD x0).bind fun r1=>
 (rng (r1*x1.Dim)).bind fun v2=>
 (xH v2).bind fun m3=>
 (f_f x0).bind fun r4=>
 (zH (zRy x0 x1 r1 r4) (J0 m3 ([]:iF),0)).bind fun r31=>
 cond (decide ((r31.length:Int)> 0)) (
  (ixO r31 0).bind fun v32=>
  (f_J x1.Prime r31 (v32.length:Int)).bind fun r33=>
  iz r33) (
  (f_J x1.Prime r31 0).bind fun r34=>
  iz r34)
def zXt(x0:SPr)(s1:Int):Option (Int⊕(Unit⊕Bool)):=
 cond (decide (s1<(x0.zA.length:Int))) (
  (ixO x0.zA s1).bind fun v2=>
  (ixO x0.zA 0).bind fun v3=>
  cond (v2 != v3) (
   iz (.inr (.inr iC))) (
   (rng (s1+1)).bind fun v4=>
   iz (.inl v4))) (
  iz (.inr (.inl ())))
def zW1(x0:SPr):Option Bool:=
 (zTO x0).bind fun r1=>
 cond (!r1) (
  iz iC) (
  cond ((x0.zA.length:Int)==0) (
   iz iC) (
   (zH (zXt x0) 0).bind fun r5=>
   match r5 with
   |(.inl r5)=>
    iz iB
   |(.inr r5)=>
    iz r5))
def zUZ(x0:SPr)(s1:Int×Int):Option ((Int×Int)⊕Int):=
 cond (decide (s1.2<(x0.zA.length:Int))) (
  (ixO x0.zA s1.2).bind fun v1=>
  (rng (s1.1*v1)).bind fun v2=>
  (rng (s1.2+1)).bind fun v3=>
  iz (.inl (v2,v3))) (
  iz (.inr s1.1))
def zZa(x0:SPr):Option Int:=
 (zH (zUZ x0) (1,0)).bind fun r4=>
 iz r4
def zW2(x0:SPr):Option Int:=
 (zTO x0).bind fun r1=>
 cond (!r1) (
  iz 1) (
  (zW1 x0).bind fun r2=>
  cond (!r2) (
   iz 5) (
   (zZa x0).bind fun r3=>
   cond (decide (r3> 81)) (
    iz 3) (
    iz 0)))
def zKH(x0:SPr)(x2:Int)(s1:(List iG)×Int):Option (((List iG)×Int)⊕(List iG)):=
 cond (decide (s1.2<(x0.zA.length:Int))) (
  (f_C x2).bind fun r1=>
  (xI s1.1 [r1]).bind fun v2=>
  (rng (s1.2+1)).bind fun v3=>
  iz (.inl (v2,v3))) (
  iz (.inr s1.1))
def f_K(x0:SPr)(x1:Int)(x2:Int):Option zF:=
 (zH (zKH x0 x2) ([],0)).bind fun r4=>
 iz (zF.mk x1 x2 r4)
def zZb(x0:SPr):Option zF:=
 (ixO x0.zA 0).bind fun v1=>
 (f_K x0 v1 1).bind fun r2=>
 iz r2
def zMV(x1:zF)(r1:(iG))(r2:(iG))(s1:(iG)×Int):Option ((iG×Int)⊕iG):=
 cond (decide (s1.2<(r2.length:Int))) (
  (ixO r2 s1.2).bind fun v3=>
  (f_Z x1.Prime r1 v3).bind fun r4=>
  (xI s1.1 [r4]).bind fun v5=>
  (rng (s1.2+1)).bind fun v6=>
  iz (.inl (v5,v6))) (
  iz (.inr s1.1))
def zW3(x0:SPr)(x1:zF):Option iG:=
 (zUQ x0 x1).bind fun r1=>
 (f_n x0 x1).bind fun r2=>
 (zH (zMV x1 r1 r2) ([],0)).bind fun r7=>
 (f_r x1.Prime r7).bind fun r8=>
 iz r8
def zW4(x0:SPr):Option iG:=
 (zZb x0).bind fun r1=>
 (zW3 x0 r1).bind fun r2=>
 iz r2
def zXu(x0:SPr)(s1:Int):Option (Int⊕(Unit⊕Bool)):=
 cond (decide (s1<(x0.zA.length:Int))) (
  (ixO x0.zA s1).bind fun v2=>
  (ixO x0.zA 0).bind fun v3=>
  cond (v2 != v3) (
   iz (.inr (.inr iC))) (
   (rng (s1+1)).bind fun v4=>
   iz (.inl v4))) (
  iz (.inr (.inl ())))
def zW5(x0:SPr):Option Bool:=
 (zUi x0).bind fun r1=>
 cond (!r1) (
  iz iC) (
  cond ((x0.zA.length:Int)==0) (
   iz iC) (
   (zH (zXu x0) 0).bind fun r5=>
   match r5 with
   |(.inl r5)=>
    iz iB
   |(.inr r5)=>
    iz r5))
def zVa(x0:SPr)(s1:Int×Int):Option ((Int×Int)⊕Int):=
 cond (decide (s1.2<(x0.zA.length:Int))) (
  (ixO x0.zA s1.2).bind fun v1=>
  (rng (s1.1*v1)).bind fun v2=>
  (rng (s1.2+1)).bind fun v3=>
  iz (.inl (v2,v3))) (
  iz (.inr s1.1))
def zZc(x0:SPr):Option Int:=
 (zH (zVa x0) (1,0)).bind fun r4=>
 iz r4
def zW6(x0:SPr):Option Int:=
 (zUi x0).bind fun r1=>
 cond (!r1) (
  iz 1) (
  (zW5 x0).bind fun r2=>
  cond (!r2) (
   iz 5) (
   (zZc x0).bind fun r3=>
   cond (decide (r3> 81)) (
    iz 3) (
    iz 0)))
def zMW(x0:SPr)(x1:Int)(x2:Int)(s1:(List iG)×Int):Option (((List iG)×Int)⊕(List iG)):=
 cond (decide (s1.2<(x0.zA.length:Int))) (
  (f_H x1 x2).bind fun r1=>
  (xI s1.1 [r1.Rows]).bind fun v2=>
  (rng (s1.2+1)).bind fun v3=>
  iz (.inl (v2,v3))) (
  iz (.inr s1.1))
def f_R(x0:SPr)(x1:Int)(x2:Int):Option zF:=
 (zH (zMW x0 x1 x2) ([],0)).bind fun r4=>
 iz (zF.mk x1 x2 r4)
def zVb(x0:SPr)(r2:zF)(r3:(iG))(s1:(iG)×Int):Option ((iG×Int)⊕iG):=
 cond (decide (s1.2<(r3.length:Int))) (
  (ixO r3 s1.2).bind fun v4=>
  (zUS x0 r2 v4).bind fun r5=>
  (f_s r5).bind fun r6=>
  (xI s1.1 [r6]).bind fun v7=>
  (rng (s1.2+1)).bind fun v8=>
  iz (.inl (v7,v8))) (
  iz (.inr s1.1))
def zW7(x0:SPr):Option iG:=
 (ixO x0.zA 0).bind fun v1=>
 (f_R x0 v1 1).bind fun r2=>
 (f_g x0 r2).bind fun r3=>
 (zH (zVb x0 r2 r3) ([],0)).bind fun r9=>
 (f_j r2.Prime r9).bind fun r10=>
 iz r10
def zMX(x0:SPr)(x1:zF)(r2:(iG))(s1:(iG)×Int):Option ((iG×Int)⊕iG):=
 cond (decide (s1.2<(r2.length:Int))) (
  (ixO r2 s1.2).bind fun v3=>
  (zUS x0 x1 v3).bind fun r4=>
  (f_s r4).bind fun r5=>
  (xI s1.1 [r5]).bind fun v6=>
  (rng (s1.2+1)).bind fun v7=>
  iz (.inl (v6,v7))) (
  iz (.inr s1.1))
def zVc(x1:iG)(s5:(iG)×Int)(s6:(iF)×Int):Option ((iF×Int)⊕iF):=
 cond (decide (s6.2<(x1.length:Int))) (
  (ixO x1 s6.2).bind fun v2=>
  (ixO v2 s5.2).bind fun v3=>
  (xI s6.1 [v3]).bind fun v4=>
  (rng (s6.2+1)).bind fun v5=>
  iz (.inl (v4,v5))) (
  iz (.inr s6.1))
def zVd(x0:SPr)(x1:iG)(s5:(iG)×Int):Option ((iG×Int)⊕iG):=
 (zUB x0).bind fun r1=>
 cond (decide (s5.2<r1)) (
  (zH (zVc x1 s5) ([],0)).bind fun r6=>
  (xI s5.1 [r6]).bind fun v7=>
  (rng (s5.2+1)).bind fun v8=>
  iz (.inl (v7,v8))) (
  iz (.inr s5.1))
def f_P(x0:SPr)(x1:iG):Option iG:=
 (zH (zVd x0 x1) ([],0)).bind fun r9=>
 iz r9
def zRz(x0:SPr):Option (SPr×Int):=
 (zW2 x0).bind fun r1=>
 cond (r1 != 0) (
  iz ((SPr.mk [] [] []),r1)) (
  (zW4 x0).bind fun r2=>
  (ixO x0.zA 0).bind fun v3=>
  (f_K x0 v3 (r2.length:Int)).bind fun r4=>
  (f_P x0 r2).bind fun r5=>
  (zYW x0 r4 r5).bind fun r6=>
  iz (r6.1,r6.2))
def zVe(x1:iG)(s5:(iG)×Int)(s6:(iF)×Int):Option ((iF×Int)⊕iF):=
 cond (decide (s6.2<(x1.length:Int))) (
  (ixO x1 s6.2).bind fun v2=>
  (ixO v2 s5.2).bind fun v3=>
  (xI s6.1 [v3]).bind fun v4=>
  (rng (s6.2+1)).bind fun v5=>
  iz (.inl (v4,v5))) (
  iz (.inr s6.1))
def zR0(x1:iG)(r1:Int)(s5:(iG)×Int):Option ((iG×Int)⊕iG):=
 cond (decide (s5.2<r1)) (
  (zH (zVe x1 s5) ([],0)).bind fun r6=>
  (xI s5.1 [r6]).bind fun v7=>
  (rng (s5.2+1)).bind fun v8=>
  iz (.inl (v7,v8))) (
  iz (.inr s5.1))
def f_S(x0:SPr)(x1:iG):Option SPr:=
 (zUD x0).bind fun r1=>
 (zH (zR0 x1 r1) ([],0)).bind fun r9=>
 (ixO x0.zA 0).bind fun v10=>
 (f_R x0 v10 (x1.length:Int)).bind fun r11=>
 (f_o x0 r11 r9).bind fun r12=>
 iz r12
def zR1(x0:SPr):Option (SPr×Int):=
 (zW6 x0).bind fun r1=>
 cond (r1 != 0) (
  iz ((SPr.mk [] [] []),r1)) (
  (zW7 x0).bind fun r2=>
  (f_S x0 r2).bind fun r3=>
  (f_v r3).bind fun r4=>
  cond (!r4) (
   iz ((SPr.mk [] [] []),3)) (
   iz (r3,0)))
def zVf(x0:SPr):Option Bool:=
 (zVZ x0 1048576).bind fun r1=>
 cond (decide (r1<0)) (
  iz iB) (
  (zOe x0).bind fun r2=>
  (zRz r2).bind fun r3=>
  (zOe x0).bind fun r4=>
  (zR1 r4).bind fun r5=>
  (zOm r5.1 r3.1).bind fun r6=>
  cond (!r6) (
   iz iC) (
   cond (r5.2 != r3.2) (
    iz iC) (
    (zOe x0).bind fun r7=>
    (zOm r4 r7).bind fun r8=>
    cond (!r8) (
     iz iC) (
     (zU3 r4 1).bind fun r9=>
     cond (decide (r9.1<0)) (
      iz iC) (
      (zOm r5.1 r3.1).bind fun r10=>
      cond (!r10) (
       iz iC) (
       cond (r5.2 != r3.2) (
        iz iC) (
        (zU3 r5.1 1).bind fun r11=>
        (zUE r11.2 1).bind fun r12=>
        cond (decide (r12<0)) (
         iz iC) (
         cond (r12 != r11.1) (
          iz iC) (
          (zOe x0).bind fun r13=>
          (zR1 r13).bind fun r14=>
          (zOm r14.1 r3.1).bind fun r15=>
          cond (!r15) (
           iz iC) (
           cond (r14.2 != r3.2) (
            iz iC) (
            (zUE r11.2 1).bind fun r16=>
            cond (decide (r16<0)) (
             iz iC) (
             cond (r16 != r11.1) (
              iz iC) (
              iz iB)))))))))))))
end Go.Wk
