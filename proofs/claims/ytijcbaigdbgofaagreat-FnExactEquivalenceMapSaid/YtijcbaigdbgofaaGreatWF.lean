/- The program's EquivalenceMap returns what the reference's returns,for all arguments;no conditions. -/
import Derived.Test.YtijcbaigdbgofaaGreatAbC
open List renaming replicate→J1
open Int renaming fdiv→Hp
open Option renaming some→dJ,none→dK
open Bool renaming true→dL,false→dM
noncomputable section
namespace Go.Wk
open Go Go.Ab
abbrev dQ:=List Int
abbrev dR:=List dQ
structure SPr where
 zA:dQ
 zU:dR
 zD:List dR
abbrev yU(x:SPr):T:=.agg [(L 1 I) x.zA,(L 1 (L 1 I)) x.zU,(L 1 (L 1 (L 1 I))) x.zD]
instance:Enc yU:=.of fun _=>zOo ⟨Enc.t (f:=(L 1 I)) inferInstance _,Enc.t (f:=(L 1 (L 1 I))) inferInstance _,Enc.t (f:=(L 1 (L 1 (L 1 I)))) inferInstance _,trivial⟩
structure zC where
 Prime:Int
 Dim:Int
 zI:List dR
abbrev yM(x:zC):T:=.agg [I x.Prime,I x.Dim,(L 1 (L 1 (L 1 I))) x.zI]
instance:Enc yM:=.of fun _=>zOo ⟨Enc.t (f:=I) inferInstance _,Enc.t (f:=I) inferInstance _,Enc.t (f:=(L 1 (L 1 (L 1 I)))) inferInstance _,trivial⟩
structure yZ where
 Kind:Int
 zVj:Int
 zVi:Int
 zSS:Int
abbrev zF3(x:yZ):T:=.agg [I x.Kind,I x.zVj,I x.zVi,I x.zSS]
instance:Enc zF3:=.of fun _=>zOo ⟨Enc.t (f:=I) inferInstance _,Enc.t (f:=I) inferInstance _,Enc.t (f:=I) inferInstance _,Enc.t (f:=I) inferInstance _,trivial⟩
structure zV where
 Prime:Int
 xW:Int
 Rows:dR
abbrev zAg(x:zV):T:=.agg [I x.Prime,I x.xW,(L 1 (L 1 I)) x.Rows]
instance:Enc zAg:=.of fun _=>zOo ⟨Enc.t (f:=I) inferInstance _,Enc.t (f:=I) inferInstance _,Enc.t (f:=(L 1 (L 1 I))) inferInstance _,trivial⟩
structure zP where
 p:SPr
 m:zC
 zLu:dR
structure zG where
 x:dQ
 v:dQ
abbrev yS(x:zG):T:=.agg [(L 1 I) x.x,(L 1 I) x.v]
instance:Enc yS:=.of fun _=>zOo ⟨Enc.t (f:=(L 1 I)) inferInstance _,Enc.t (f:=(L 1 I)) inferInstance _,trivial⟩
def zRv(x0:dQ)(x1:Int):Option Int:=
 (rng (x1-(x0.length:Int))).bind fun v1=>
 cond (decide (v1<0)) (
  dJ (-1)) (
  dJ v1)
def zVe(x0:dR)(s1:Int×Int):Option ((Int×Int)⊕(Int⊕Int)):=
 cond (decide (s1.2<(x0.length:Int))) (
  (ixO x0 s1.2).bind fun v2=>
  (zRv v2 s1.1).bind fun r3=>
  cond (decide (r3<0)) (
   dJ (.inr (.inr (-1)))) (
   (rng (s1.2+1)).bind fun v4=>
   dJ (.inl (r3,v4)))) (
  dJ (.inr (.inl s1.1)))
def zOT(x0:dR)(x1:Int):Option Int:=
 (rng (x1-(x0.length:Int))).bind fun v1=>
 cond (decide (v1<0)) (
  dJ (-1)) (
  (zH (zVe x0) (v1,0)).bind fun r5=>
  match r5 with
  |(.inl r5)=>
   dJ r5
  |(.inr r5)=>
   dJ r5)
def zVf(x0:List dR)(s1:Int×Int):Option ((Int×Int)⊕(Int⊕Int)):=
 cond (decide (s1.2<(x0.length:Int))) (
  (ixO x0 s1.2).bind fun v2=>
  (zOT v2 s1.1).bind fun r3=>
  cond (decide (r3<0)) (
   dJ (.inr (.inr (-1)))) (
   (rng (s1.2+1)).bind fun v4=>
   dJ (.inl (r3,v4)))) (
  dJ (.inr (.inl s1.1)))
def zTF(x0:List dR)(x1:Int):Option Int:=
 (rng (x1-(x0.length:Int))).bind fun v1=>
 cond (decide (v1<0)) (
  dJ (-1)) (
  (zH (zVf x0) (v1,0)).bind fun r5=>
  match r5 with
  |(.inl r5)=>
   dJ r5
  |(.inr r5)=>
   dJ r5)
def zTG(x0:SPr)(x1:Int):Option Int:=
 (zRv x0.zA x1).bind fun r1=>
 cond (decide (r1<0)) (
  dJ (-1)) (
  (zOT x0.zU r1).bind fun r2=>
  cond (decide (r2<0)) (
   dJ (-1)) (
   (zTF x0.zD r2).bind fun r3=>
   cond (decide (r3<0)) (
    dJ (-1)) (
    dJ r3)))
def zTH(x0:zC)(x1:Int):Option Int:=
 (zTF x0.zI x1).bind fun r1=>
 cond (decide (r1<0)) (
  dJ (-1)) (
  dJ r1)
def zRw(x0:dQ)(s1:(dQ)×Int):Option ((dQ×Int)⊕dQ):=
 cond (decide (s1.2<(x0.length:Int))) (
  (ixO x0 s1.2).bind fun v2=>
  (ixO s1.1 s1.2).bind fun _=>
  (rng (s1.2+1)).bind fun v4=>
  dJ (.inl (s1.1.set s1.2.toNat v2,v4))) (
  dJ (.inr s1.1))
def zOU(x0:dQ):Option dQ:=
 (yV (x0.length:Int)).bind fun m1=>
 (zH (zRw x0) (J1 m1 (0:Int),0)).bind fun r5=>
 dJ r5
def zWq(x0:dR)(s1:(dR)×Int):Option ((dR×Int)⊕dR):=
 cond (decide (s1.2<(x0.length:Int))) (
  (ixO x0 s1.2).bind fun v2=>
  (zOU v2).bind fun r3=>
  (ixO s1.1 s1.2).bind fun _=>
  (rng (s1.2+1)).bind fun v5=>
  dJ (.inl (s1.1.set s1.2.toNat r3,v5))) (
  dJ (.inr s1.1))
def f_r(x0:dR):Option dR:=
 (yV (x0.length:Int)).bind fun m1=>
 (zH (zWq x0) (J1 m1 ([]:dQ),0)).bind fun r6=>
 dJ r6
def zRx(x0:List dR)(s1:(List dR)×Int):Option (((List dR)×Int)⊕(List dR)):=
 cond (decide (s1.2<(x0.length:Int))) (
  (ixO x0 s1.2).bind fun v2=>
  (f_r v2).bind fun r3=>
  (ixO s1.1 s1.2).bind fun _=>
  (rng (s1.2+1)).bind fun v5=>
  dJ (.inl (s1.1.set s1.2.toNat r3,v5))) (
  dJ (.inr s1.1))
def zRy(x0:List dR):Option (List dR):=
 (yV (x0.length:Int)).bind fun m1=>
 (zH (zRx x0) (J1 m1 ([]:dR),0)).bind fun r6=>
 dJ r6
def zM0(x0:SPr):Option SPr:=
 (zOU x0.zA).bind fun r1=>
 (f_r x0.zU).bind fun r2=>
 (zRy x0.zD).bind fun r3=>
 dJ (SPr.mk r1 r2 r3)
def zM1(x0:zC):Option zC:=
 (zRy x0.zI).bind fun r1=>
 dJ (zC.mk x0.Prime x0.Dim r1)
def zTI(x0:Int):Option Bool:=
 cond (x0==2) (
  dJ dL) (
  cond (x0==3) (
   dJ dL) (
   cond (x0==5) (
    dJ dL) (
    dJ (x0==7))))
def zKP(x0:dQ)(s1:Int×Int):Option ((Int×Int)⊕Int):=
 cond (decide (s1.2<(x0.length:Int))) (
  cond (decide (s1.1≤729)) (
   (ixO x0 s1.2).bind fun v1=>
   (rng (s1.1*v1)).bind fun v2=>
   (rng (s1.2+1)).bind fun v3=>
   dJ (.inl (v2,v3))) (
   (rng (s1.2+1)).bind fun v4=>
   dJ (.inl (s1.1,v4)))) (
  dJ (.inr s1.1))
def zTJ(x0:dQ):Option Int:=
 (zH (zKP x0) (1,0)).bind fun r5=>
 dJ r5
def zRz(x0:Int)(x1:Int)(x2:Int):Option Bool:=
 cond (decide (x0≥x1)) (
  dJ (decide (x0≤x2))) (
  dJ dM)
def zNW(x0:dQ)(x1:dQ)(x2:Int)(s1:Int):Option (Int⊕(Unit⊕Bool)):=
 cond (decide (s1<(x1.length:Int))) (
  (ixO x1 s1).bind fun v1=>
  (ixO x0 s1).bind fun v2=>
  (rng (v2-1)).bind fun v3=>
  (zRz v1 0 v3).bind fun r4=>
  cond (!r4) (
   dJ (.inr (.inr dM))) (
   cond (decide (s1≤x2)) (
    (ixO x1 s1).bind fun v5=>
    cond (v5 != 0) (
     dJ (.inr (.inr dM))) (
     (rng (s1+1)).bind fun v6=>
     dJ (.inl v6))) (
    (rng (s1+1)).bind fun v5=>
    dJ (.inl v5)))) (
  dJ (.inr (.inl ())))
def zR0(x0:dQ)(x1:dQ)(x2:Int):Option Bool:=
 cond ((x1.length:Int) != (x0.length:Int)) (
  dJ dM) (
  (zH (zNW x0 x1 x2) 0).bind fun r6=>
  match r6 with
  |(.inl r6)=>
   dJ dL
  |(.inr r6)=>
   dJ r6)
def zR1(x0:SPr)(s1:Int):Option (Int⊕(Unit⊕Bool)):=
 cond (decide (s1<(x0.zA.length:Int))) (
  (ixO x0.zA s1).bind fun v1=>
  (zTI v1).bind fun r2=>
  cond (!r2) (
   dJ (.inr (.inr dM))) (
   (rng (s1+1)).bind fun v3=>
   dJ (.inl v3))) (
  dJ (.inr (.inl ())))
def zR2(x0:SPr)(s7:Int)(s8:Int):Option (Int⊕(Unit⊕Bool)):=
 (ixO x0.zD s7).bind fun v11=>
 cond (decide (s8<(v11.length:Int))) (
  (ixO x0.zD s7).bind fun v12=>
  (ixO v12 s8).bind fun v13=>
  (zR0 x0.zA v13 s7).bind fun r14=>
  cond (!r14) (
   dJ (.inr (.inr dM))) (
   (rng (s8+1)).bind fun v15=>
   dJ (.inl v15))) (
  dJ (.inr (.inl ())))
def zM2(x0:SPr)(s7:Int):Option (Int⊕(Unit⊕Bool)):=
 cond (decide (s7<(x0.zA.length:Int))) (
  (ixO x0.zU s7).bind fun v6=>
  (zR0 x0.zA v6 s7).bind fun r7=>
  cond (!r7) (
   dJ (.inr (.inr dM))) (
   (ixO x0.zD s7).bind fun v8=>
   (rng ((x0.zA.length:Int)-1)).bind fun v9=>
   (rng (v9-s7)).bind fun v10=>
   cond ((v8.length:Int) != v10) (
    dJ (.inr (.inr dM))) (
    (zH (zR2 x0 s7) 0).bind fun r16=>
    match r16 with
    |(.inl r16)=>
     (rng (s7+1)).bind fun v17=>
     dJ (.inl v17)
    |(.inr r16)=>
     dJ (.inr (.inr r16))))) (
  dJ (.inr (.inl ())))
def f_t(x0:SPr):Option Bool:=
 cond (decide ((x0.zA.length:Int)> 6)) (
  dJ dM) (
  cond ((x0.zU.length:Int) != (x0.zA.length:Int)) (
   dJ dM) (
   cond ((x0.zD.length:Int) != (x0.zA.length:Int)) (
    dJ dM) (
    (zH (zR1 x0) 0).bind fun r4=>
    match r4 with
    |(.inl r4)=>
     (zTJ x0.zA).bind fun r5=>
     cond (decide (r5> 729)) (
      dJ dM) (
      (zH (zM2 x0) 0).bind fun r18=>
      match r18 with
      |(.inl r18)=>
       dJ dL
      |(.inr r18)=>
       dJ r18)
    |(.inr r4)=>
     dJ r4)))
def f_n(x0:dQ):Option dQ:=
 (xC [] x0).bind fun v1=>
 dJ v1
def zR3(g_a:SPr→Int→dQ→dQ→Option dQ)(x0:SPr)(x1:Int)(x2:dQ)(s5:(dQ)×Int)(s6:(dQ)×Int):Option ((dQ×Int)⊕dQ):=
 (ixO x2 s5.2).bind fun v3=>
 cond (decide (s6.2<v3)) (
  (rng (x1+1)).bind fun v4=>
  (ixO x0.zD x1).bind fun v5=>
  (rng (s5.2-x1)).bind fun v6=>
  (rng (v6-1)).bind fun v7=>
  (ixO v5 v7).bind fun v8=>
  (g_a x0 v4 s6.1 v8).bind fun r9=>
  (rng (s6.2+1)).bind fun v10=>
  dJ (.inl (r9,v10))) (
  dJ (.inr s6.1))
def zR4(g_a:SPr→Int→dQ→dQ→Option dQ)(x0:SPr)(x1:Int)(x2:dQ)(s5:(dQ)×Int):Option ((dQ×Int)⊕dQ):=
 cond (decide (s5.2<(x0.zA.length:Int))) (
  (zH (zR3 g_a x0 x1 x2 s5) (s5.1,0)).bind fun r11=>
  (rng (s5.2+1)).bind fun v12=>
  dJ (.inl (r11,v12))) (
  dJ (.inr s5.1))
def b_e(g_a:SPr→Int→dQ→dQ→Option dQ)(x0:SPr)(x1:Int)(x2:dQ):Option dQ:=
 (yV (x0.zA.length:Int)).bind fun m1=>
 (rng (x1+1)).bind fun v2=>
 (zH (zR4 g_a x0 x1 x2) (J1 m1 (0:Int),v2)).bind fun r13=>
 dJ r13
def zTK(g_e:SPr→Int→dQ→Option dQ)(x0:SPr)(x1:Int)(x3:dQ)(s1:(dQ)×Int):Option ((dQ×Int)⊕dQ):=
 (ixO x3 x1).bind fun v6=>
 cond (decide (s1.2<v6)) (
  (g_e x0 x1 s1.1).bind fun r7=>
  (rng (s1.2+1)).bind fun v8=>
  dJ (.inl (r7,v8))) (
  dJ (.inr s1.1))
def b_a(g_e:SPr→Int→dQ→Option dQ)(g_a:SPr→Int→dQ→dQ→Option dQ)(x0:SPr)(x1:Int)(x2:dQ)(x3:dQ):Option dQ:=
 cond (decide (x1≥(x0.zA.length:Int))) (
  (yV (x0.zA.length:Int)).bind fun m1=>
  dJ (J1 m1 (0:Int))) (
  (f_n x2).bind fun r2=>
  (f_n x3).bind fun r3=>
  (ixO r2 x1).bind fun _=>
  (ixO r3 x1).bind fun _=>
  (zH (zTK g_e x0 x1 x3) (r2.set x1.toNat 0,0)).bind fun r9=>
  (rng (x1+1)).bind fun v10=>
  (g_a x0 v10 r9 (r3.set x1.toNat 0)).bind fun r11=>
  (ixO x2 x1).bind fun v12=>
  (ixO x3 x1).bind fun v13=>
  (rng (v12+v13)).bind fun v14=>
  (ixO x0.zA x1).bind fun v15=>
  cond (decide (v14≥v15)) (
   (ixO x0.zA x1).bind fun v16=>
   (rng (v14-v16)).bind fun v17=>
   (rng (x1+1)).bind fun v18=>
   (ixO x0.zU x1).bind fun v19=>
   (g_a x0 v18 v19 r11).bind fun r20=>
   (f_n r20).bind fun r21=>
   (ixO r21 x1).bind fun _=>
   dJ (r21.set x1.toNat v17)) (
   (f_n r11).bind fun r23=>
   (ixO r23 x1).bind fun _=>
   dJ (r23.set x1.toNat v14)))
mutual
def zM3:Nat→SPr→Int→dQ→Option dQ
 |0=>fun _ _ _=>dK
 |n+1=>b_e (zM4 n)
def zM4:Nat→SPr→Int→dQ→dQ→Option dQ
 |0=>fun _ _ _ _=>dK
 |n+1=>b_a (zM3 n) (zM4 n)
end
def f_e(x0:SPr)(x1:Int)(x2:dQ):Option dQ:=zC9 fun n=>zM3 n x0 x1 x2
def f_a(x0:SPr)(x1:Int)(x2:dQ)(x3:dQ):Option dQ:=zC9 fun n=>zM4 n x0 x1 x2 x3
def zNX(x0:SPr)(x1:Int)(s1:Int×dQ×dQ):Option ((Int×dQ×dQ)⊕dQ):=
 cond (decide (s1.1> 0)) (
  (uC s1.1 2).bind fun v2=>
  cond (v2==1) (
   (f_a x0 x1 s1.2.1 s1.2.2).bind fun r3=>
   (f_a x0 x1 s1.2.2 s1.2.2).bind fun r4=>
   (uY s1.1 2).bind fun v5=>
   dJ (.inl (v5,r3,r4))) (
   (f_a x0 x1 s1.2.2 s1.2.2).bind fun r6=>
   (uY s1.1 2).bind fun v7=>
   dJ (.inl (v7,s1.2.1,r6)))) (
  dJ (.inr s1.2.1))
def zTL(x0:SPr)(x1:Int)(x2:dQ)(x3:Int):Option dQ:=
 (yV (x0.zA.length:Int)).bind fun m1=>
 (zH (zNX x0 x1) (x3,J1 m1 (0:Int),x2)).bind fun r8=>
 dJ r8
def zVg(x0:dQ)(x1:dQ)(s1:Int):Option (Int⊕(Unit⊕Bool)):=
 cond (decide (s1<(x0.length:Int))) (
  (ixO x0 s1).bind fun v1=>
  (ixO x1 s1).bind fun v2=>
  cond (v1 != v2) (
   dJ (.inr (.inr dM))) (
   (rng (s1+1)).bind fun v3=>
   dJ (.inl v3))) (
  dJ (.inr (.inl ())))
def zJo(x0:dQ)(x1:dQ):Option Bool:=
 cond ((x0.length:Int) != (x1.length:Int)) (
  dJ dM) (
  (zH (zVg x0 x1) 0).bind fun r4=>
  match r4 with
  |(.inl r4)=>
   dJ dL
  |(.inr r4)=>
   dJ r4)
def zJp(x0:Int)(x1:Int):Option dQ:=
 (yV x0).bind fun m1=>
 (ixO (J1 m1 (0:Int)) x1).bind fun _=>
 dJ ((J1 m1 (0:Int)).set x1.toNat 1)
def zR5(x0:SPr)(x1:Int)(s1:Int):Option (Int⊕(Unit⊕yZ)):=
 cond (decide (s1<(x0.zA.length:Int))) (
  (rng (x1+1)).bind fun v2=>
  (ixO x0.zD x1).bind fun v3=>
  (rng (s1-x1)).bind fun v4=>
  (rng (v4-1)).bind fun v5=>
  (ixO v3 v5).bind fun v6=>
  (ixO x0.zA s1).bind fun v7=>
  (zTL x0 v2 v6 v7).bind fun r8=>
  (ixO x0.zU s1).bind fun v9=>
  (f_e x0 x1 v9).bind fun r10=>
  (zJo r8 r10).bind fun r11=>
  cond (!r11) (
   dJ (.inr (.inr (yZ.mk 1 x1 s1 0)))) (
   (rng (s1+1)).bind fun v12=>
   dJ (.inl v12))) (
  dJ (.inr (.inl ())))
def zR6(x0:SPr)(x1:Int)(s7:Int)(s8:Int):Option (Int⊕(Unit⊕yZ)):=
 cond (decide (s8<(x0.zA.length:Int))) (
  (ixO x0.zD x1).bind fun v16=>
  (rng (s7-x1)).bind fun v17=>
  (rng (v17-1)).bind fun v18=>
  (ixO v16 v18).bind fun v19=>
  (ixO x0.zD x1).bind fun v20=>
  (rng (s8-x1)).bind fun v21=>
  (rng (v21-1)).bind fun v22=>
  (ixO v20 v22).bind fun v23=>
  (ixO x0.zD s7).bind fun v24=>
  (rng (s8-s7)).bind fun v25=>
  (rng (v25-1)).bind fun v26=>
  (ixO v24 v26).bind fun v27=>
  (f_e x0 x1 v27).bind fun r28=>
  (rng (x1+1)).bind fun v29=>
  (f_a x0 v29 v23 v19).bind fun r30=>
  (rng (x1+1)).bind fun v31=>
  (f_a x0 v31 v19 r28).bind fun r32=>
  (zJo r30 r32).bind fun r33=>
  cond (!r33) (
   dJ (.inr (.inr (yZ.mk 2 x1 s7 s8)))) (
   (rng (s8+1)).bind fun v34=>
   dJ (.inl v34))) (
  dJ (.inr (.inl ())))
def zR7(x0:SPr)(x1:Int)(s7:Int):Option (Int⊕(Unit⊕yZ)):=
 cond (decide (s7<(x0.zA.length:Int))) (
  (rng (s7+1)).bind fun v15=>
  (zH (zR6 x0 x1 s7) v15).bind fun r35=>
  match r35 with
  |(.inl r35)=>
   (rng (s7+1)).bind fun v36=>
   dJ (.inl v36)
  |(.inr r35)=>
   dJ (.inr (.inr r35))) (
  dJ (.inr (.inl ())))
def zR8(x0:SPr)(x1:Int)(s16:(dQ)×Int):Option ((dQ×Int)⊕dQ):=
 (ixO x0.zA x1).bind fun v43=>
 cond (decide (s16.2<v43)) (
  (f_e x0 x1 s16.1).bind fun r44=>
  (rng (s16.2+1)).bind fun v45=>
  dJ (.inl (r44,v45))) (
  dJ (.inr s16.1))
def zR9(x0:SPr)(x1:Int)(v38:dQ)(s15:Int):Option (Int⊕(Unit⊕yZ)):=
 cond (decide (s15<(x0.zA.length:Int))) (
  (zJp (x0.zA.length:Int) s15).bind fun r42=>
  (zH (zR8 x0 x1) (r42,0)).bind fun r46=>
  (rng (x1+1)).bind fun v47=>
  (f_a x0 v47 v38 r46).bind fun r48=>
  (rng (x1+1)).bind fun v49=>
  (f_a x0 v49 r42 v38).bind fun r50=>
  (zJo r48 r50).bind fun r51=>
  cond (!r51) (
   dJ (.inr (.inr (yZ.mk 4 x1 s15 0)))) (
   (rng (s15+1)).bind fun v52=>
   dJ (.inl v52))) (
  dJ (.inr (.inl ())))
def f_l(x0:SPr)(x1:Int):Option yZ:=
 (rng (x1+1)).bind fun v1=>
 (zH (zR5 x0 x1) v1).bind fun r13=>
 match r13 with
 |(.inl r13)=>
  (rng (x1+1)).bind fun v14=>
  (zH (zR7 x0 x1) v14).bind fun r37=>
  match r37 with
  |(.inl r37)=>
   (ixO x0.zU x1).bind fun v38=>
   (f_e x0 x1 v38).bind fun r39=>
   (zJo r39 v38).bind fun r40=>
   cond (!r40) (
    dJ (yZ.mk 3 x1 0 0)) (
    (rng (x1+1)).bind fun v41=>
    (zH (zR9 x0 x1 v38) v41).bind fun r53=>
    match r53 with
    |(.inl r53)=>
     dJ (yZ.mk 0 0 0 0)
    |(.inr r53)=>
     dJ r53)
  |(.inr r37)=>
   dJ r37
 |(.inr r13)=>
  dJ r13
def zKQ(x0:SPr)(s1:Int):Option (Int⊕(Unit⊕yZ)):=
 cond (decide (s1≥0)) (
  (f_l x0 s1).bind fun r2=>
  cond (r2.Kind != 0) (
   dJ (.inr (.inr r2))) (
   (rng (s1-1)).bind fun v3=>
   dJ (.inl v3))) (
  dJ (.inr (.inl ())))
def zWr(x0:SPr):Option yZ:=
 (rng ((x0.zA.length:Int)-1)).bind fun v1=>
 (zH (zKQ x0) v1).bind fun r4=>
 match r4 with
 |(.inl r4)=>
  dJ (yZ.mk 0 0 0 0)
 |(.inr r4)=>
  dJ r4
def zWs(x0:SPr):Option Bool:=
 (zWr x0).bind fun r1=>
 dJ (r1.Kind==0)
def zTM(x0:SPr):Option Bool:=
 (f_t x0).bind fun r1=>
 cond r1 (
  (zWs x0).bind fun r2=>
  dJ r2) (
  dJ dM)
def zNY(x0:Int)(x2:dQ)(s1:Int):Option (Int⊕(Unit⊕Bool)):=
 cond (decide (s1<(x2.length:Int))) (
  (ixO x2 s1).bind fun v1=>
  (rng (x0-1)).bind fun v2=>
  (zRz v1 0 v2).bind fun r3=>
  cond (!r3) (
   dJ (.inr (.inr dM))) (
   (rng (s1+1)).bind fun v4=>
   dJ (.inl v4))) (
  dJ (.inr (.inl ())))
def zRA(x0:Int)(x1:Int)(x2:dQ):Option Bool:=
 cond ((x2.length:Int) != x1) (
  dJ dM) (
  (zH (zNY x0 x2) 0).bind fun r5=>
  match r5 with
  |(.inl r5)=>
   dJ dL
  |(.inr r5)=>
   dJ r5)
def zNZ(x0:Int)(x1:Int)(x2:dR)(s1:Int):Option (Int⊕(Unit⊕Bool)):=
 cond (decide (s1<(x2.length:Int))) (
  (ixO x2 s1).bind fun v1=>
  (zRA x0 x1 v1).bind fun r2=>
  cond (!r2) (
   dJ (.inr (.inr dM))) (
   (rng (s1+1)).bind fun v3=>
   dJ (.inl v3))) (
  dJ (.inr (.inl ())))
def zTN(x0:Int)(x1:Int)(x2:dR):Option Bool:=
 cond ((x2.length:Int) != x1) (
  dJ dM) (
  (zH (zNZ x0 x1 x2) 0).bind fun r4=>
  match r4 with
  |(.inl r4)=>
   dJ dL
  |(.inr r4)=>
   dJ r4)
def zKR(x0:Int)(s1:(dR)×Int):Option ((dR×Int)⊕dR):=
 cond (decide (s1.2<x0)) (
  (yV x0).bind fun m1=>
  (ixO (J1 m1 (0:Int)) s1.2).bind fun _=>
  (xC s1.1 [(J1 m1 (0:Int)).set s1.2.toNat 1]).bind fun v3=>
  (rng (s1.2+1)).bind fun v4=>
  dJ (.inl (v3,v4))) (
  dJ (.inr s1.1))
def f_I(x0:Int):Option dR:=
 (zH (zKR x0) ([],0)).bind fun r5=>
 dJ r5
def zRB(x0:Int)(x1:dQ)(x2:dR)(s5:(dQ)×Int)(s6:(dQ)×Int):Option ((dQ×Int)⊕dQ):=
 cond (decide (s6.2<(s6.1.length:Int))) (
  (ixO x2 s5.2).bind fun v2=>
  cond (decide (s6.2<(v2.length:Int))) (
   (ixO s6.1 s6.2).bind fun v3=>
   (ixO x1 s5.2).bind fun v4=>
   (ixO x2 s5.2).bind fun v5=>
   (ixO v5 s6.2).bind fun v6=>
   (rng (v4*v6)).bind fun v7=>
   (rng (v3+v7)).bind fun v8=>
   (uC v8 x0).bind fun v9=>
   (ixO s6.1 s6.2).bind fun _=>
   (rng (s6.2+1)).bind fun v11=>
   dJ (.inl (s6.1.set s6.2.toNat v9,v11))) (
   dJ (.inr s6.1))) (
  dJ (.inr s6.1))
def zRC(x0:Int)(x1:dQ)(x2:dR)(s5:(dQ)×Int):Option ((dQ×Int)⊕dQ):=
 cond (decide (s5.2<(x1.length:Int))) (
  cond (decide (s5.2<(x2.length:Int))) (
   (zH (zRB x0 x1 x2 s5) (s5.1,0)).bind fun r12=>
   (rng (s5.2+1)).bind fun v13=>
   dJ (.inl (r12,v13))) (
   dJ (.inr s5.1))) (
  dJ (.inr s5.1))
def f_E(x0:Int)(x1:dQ)(x2:dR)(x3:Int):Option dQ:=
 (yV x3).bind fun m1=>
 (zH (zRC x0 x1 x2) (J1 m1 (0:Int),0)).bind fun r14=>
 dJ r14
def zRD(x0:Int)(x1:dR)(x2:dR)(x3:Int)(s1:(dR)×Int):Option ((dR×Int)⊕dR):=
 cond (decide (s1.2<(x1.length:Int))) (
  (ixO x1 s1.2).bind fun v1=>
  (f_E x0 v1 x2 x3).bind fun r2=>
  (xC s1.1 [r2]).bind fun v3=>
  (rng (s1.2+1)).bind fun v4=>
  dJ (.inl (v3,v4))) (
  dJ (.inr s1.1))
def f_U(x0:Int)(x1:dR)(x2:dR)(x3:Int):Option dR:=
 (zH (zRD x0 x1 x2 x3) ([],0)).bind fun r5=>
 dJ r5
def zRE(x0:zC)(x1:dQ)(s5:(dR)×Int)(s6:(dR)×Int):Option ((dR×Int)⊕dR):=
 (ixO x1 s5.2).bind fun v2=>
 cond (decide (s6.2<v2)) (
  (ixO x0.zI s5.2).bind fun v3=>
  (f_U x0.Prime s6.1 v3 x0.Dim).bind fun r4=>
  (rng (s6.2+1)).bind fun v5=>
  dJ (.inl (r4,v5))) (
  dJ (.inr s6.1))
def zRF(x0:zC)(x1:dQ)(s5:(dR)×Int):Option ((dR×Int)⊕dR):=
 cond (decide (s5.2<(x1.length:Int))) (
  (zH (zRE x0 x1 s5) (s5.1,0)).bind fun r6=>
  (rng (s5.2+1)).bind fun v7=>
  dJ (.inl (r6,v7))) (
  dJ (.inr s5.1))
def f_J(x0:zC)(x1:dQ):Option dR:=
 (f_I x0.Dim).bind fun r1=>
 (zH (zRF x0 x1) (r1,0)).bind fun r8=>
 dJ r8
def zRG(x0:dR)(x1:dR)(s1:Int):Option (Int⊕(Unit⊕Bool)):=
 cond (decide (s1<(x0.length:Int))) (
  (ixO x0 s1).bind fun v1=>
  (ixO x1 s1).bind fun v2=>
  (zJo v1 v2).bind fun r3=>
  cond (!r3) (
   dJ (.inr (.inr dM))) (
   (rng (s1+1)).bind fun v4=>
   dJ (.inl v4))) (
  dJ (.inr (.inl ())))
def zTO(x0:dR)(x1:dR):Option Bool:=
 cond ((x0.length:Int) != (x1.length:Int)) (
  dJ dM) (
  (zH (zRG x0 x1) 0).bind fun r5=>
  match r5 with
  |(.inl r5)=>
   dJ dL
  |(.inr r5)=>
   dJ r5)
def zRH(x0:SPr)(x1:zC)(s1:Int):Option (Int⊕(Unit⊕Bool)):=
 cond (decide (s1<(x0.zA.length:Int))) (
  (ixO x1.zI s1).bind fun v3=>
  (zTN x1.Prime x1.Dim v3).bind fun r4=>
  cond (!r4) (
   dJ (.inr (.inr dM))) (
   (rng (s1+1)).bind fun v5=>
   dJ (.inl v5))) (
  dJ (.inr (.inl ())))
def zRI(x0:SPr)(x1:zC)(s11:Int)(s12:(dR)×Int):Option ((dR×Int)⊕dR):=
 (ixO x0.zA s11).bind fun v8=>
 cond (decide (s12.2<v8)) (
  (ixO x1.zI s11).bind fun v9=>
  (f_U x1.Prime s12.1 v9 x1.Dim).bind fun r10=>
  (rng (s12.2+1)).bind fun v11=>
  dJ (.inl (r10,v11))) (
  dJ (.inr s12.1))
def zRJ(x0:SPr)(x1:zC)(s11:Int)(s14:Int):Option (Int⊕(Unit⊕Bool)):=
 cond (decide (s14<(x0.zA.length:Int))) (
  (ixO x1.zI s14).bind fun v17=>
  (ixO x1.zI s11).bind fun v18=>
  (f_U x1.Prime v17 v18 x1.Dim).bind fun r19=>
  (ixO x1.zI s11).bind fun v20=>
  (ixO x0.zD s11).bind fun v21=>
  (rng (s14-s11)).bind fun v22=>
  (rng (v22-1)).bind fun v23=>
  (ixO v21 v23).bind fun v24=>
  (f_J x1 v24).bind fun r25=>
  (f_U x1.Prime v20 r25 x1.Dim).bind fun r26=>
  (zTO r19 r26).bind fun r27=>
  cond (!r27) (
   dJ (.inr (.inr dM))) (
   (rng (s14+1)).bind fun v28=>
   dJ (.inl v28))) (
  dJ (.inr (.inl ())))
def zRK(x0:SPr)(x1:zC)(s11:Int):Option (Int⊕(Unit⊕Bool)):=
 cond (decide (s11<(x0.zA.length:Int))) (
  (f_I x1.Dim).bind fun r7=>
  (zH (zRI x0 x1 s11) (r7,0)).bind fun r12=>
  (ixO x0.zU s11).bind fun v13=>
  (f_J x1 v13).bind fun r14=>
  (zTO r12 r14).bind fun r15=>
  cond (!r15) (
   dJ (.inr (.inr dM))) (
   (rng (s11+1)).bind fun v16=>
   (zH (zRJ x0 x1 s11) v16).bind fun r29=>
   match r29 with
   |(.inl r29)=>
    (rng (s11+1)).bind fun v30=>
    dJ (.inl v30)
   |(.inr r29)=>
    dJ (.inr (.inr r29)))) (
  dJ (.inr (.inl ())))
def f_q(x0:SPr)(x1:zC):Option Bool:=
 (zTI x1.Prime).bind fun r1=>
 cond (!r1) (
  dJ dM) (
  (zRz x1.Dim 1 3).bind fun r2=>
  cond (!r2) (
   dJ dM) (
   cond ((x1.zI.length:Int) != (x0.zA.length:Int)) (
    dJ dM) (
    (zH (zRH x0 x1) 0).bind fun r6=>
    match r6 with
    |(.inl r6)=>
     (zH (zRK x0 x1) 0).bind fun r31=>
     match r31 with
     |(.inl r31)=>
      dJ dL
     |(.inr r31)=>
      dJ r31
    |(.inr r6)=>
     dJ r6)))
def zTP(x0:SPr)(x1:zC):Option Bool:=
 (zTM x0).bind fun r1=>
 cond r1 (
  (f_q x0 x1).bind fun r2=>
  dJ r2) (
  dJ dM)
def zOV(x0:Int):Option Bool:=
 cond (x0==2) (
  dJ dL) (
  cond (x0==3) (
   dJ dL) (
   cond (x0==5) (
    dJ dL) (
    dJ (x0==7))))
def zM5(x0:Int)(x1:Int)(x2:Int):Option Bool:=
 cond (decide (x0≥x1)) (
  dJ (decide (x0≤x2))) (
  dJ dM)
def zOa(x0:SPr)(x1:dQ)(s1:Int):Option (Int⊕(Unit⊕Bool)):=
 cond (decide (s1<(x1.length:Int))) (
  (ixO x1 s1).bind fun v1=>
  (ixO x0.zA s1).bind fun v2=>
  (rng (v2-1)).bind fun v3=>
  (zM5 v1 0 v3).bind fun r4=>
  cond (!r4) (
   dJ (.inr (.inr dM))) (
   (rng (s1+1)).bind fun v5=>
   dJ (.inl v5))) (
  dJ (.inr (.inl ())))
def zTQ(x0:SPr)(x1:dQ):Option Bool:=
 cond ((x1.length:Int) != (x0.zA.length:Int)) (
  dJ dM) (
  (zH (zOa x0 x1) 0).bind fun r6=>
  match r6 with
  |(.inl r6)=>
   dJ dL
  |(.inr r6)=>
   dJ r6)
def zKS(x0:dQ)(s1:Int):Option (Int⊕(Unit⊕Bool)):=
 cond (decide (s1<(x0.length:Int))) (
  (ixO x0 s1).bind fun v1=>
  cond (v1 != 0) (
   dJ (.inr (.inr dM))) (
   (rng (s1+1)).bind fun v2=>
   dJ (.inl v2))) (
  dJ (.inr (.inl ())))
def f_D(x0:dQ):Option Bool:=
 (zH (zKS x0) 0).bind fun r3=>
 match r3 with
 |(.inl r3)=>
  dJ dL
 |(.inr r3)=>
  dJ r3
def zRL(x0:SPr)(x1:Int)(x2:dQ):Option Bool:=
 (zTQ x0 x2).bind fun r1=>
 cond r1 (
  (rng (x1+1)).bind fun v2=>
  (zW x2 0 v2).bind fun v3=>
  (f_D v3).bind fun r4=>
  dJ r4) (
  dJ dM)
def zM6(x0:SPr)(s1:Int×Int):Option ((Int×Int)⊕(Unit⊕Bool)):=
 cond (decide (s1.2<(x0.zA.length:Int))) (
  (ixO x0.zA s1.2).bind fun v1=>
  (zOV v1).bind fun r2=>
  cond (!r2) (
   dJ (.inr (.inr dM))) (
   (rng (s1.1*v1)).bind fun v3=>
   cond (decide (v3> 729)) (
    dJ (.inr (.inr dM))) (
    (rng (s1.1*v1)).bind fun v4=>
    (rng (s1.2+1)).bind fun v5=>
    dJ (.inl (v4,v5))))) (
  dJ (.inr (.inl ())))
def zRM(x0:SPr)(s7:Int)(v12:dR)(s8:Int):Option (Int⊕(Unit⊕Bool)):=
 cond (decide (s8<(v12.length:Int))) (
  (ixO v12 s8).bind fun v13=>
  (zRL x0 s7 v13).bind fun r14=>
  cond (!r14) (
   dJ (.inr (.inr dM))) (
   (rng (s8+1)).bind fun v15=>
   dJ (.inl v15))) (
  dJ (.inr (.inl ())))
def zM7(x0:SPr)(s7:Int):Option (Int⊕(Unit⊕Bool)):=
 cond (decide (s7<(x0.zA.length:Int))) (
  (ixO x0.zU s7).bind fun v7=>
  (zRL x0 s7 v7).bind fun r8=>
  cond (!r8) (
   dJ (.inr (.inr dM))) (
   (ixO x0.zD s7).bind fun v9=>
   (rng ((x0.zA.length:Int)-1)).bind fun v10=>
   (rng (v10-s7)).bind fun v11=>
   cond ((v9.length:Int) != v11) (
    dJ (.inr (.inr dM))) (
    (ixO x0.zD s7).bind fun v12=>
    (zH (zRM x0 s7 v12) 0).bind fun r16=>
    match r16 with
    |(.inl r16)=>
     (rng (s7+1)).bind fun v17=>
     dJ (.inl v17)
    |(.inr r16)=>
     dJ (.inr (.inr r16))))) (
  dJ (.inr (.inl ())))
def f_p(x0:SPr):Option Bool:=
 cond (decide ((x0.zA.length:Int)> 6)) (
  dJ dM) (
  cond ((x0.zU.length:Int) != (x0.zA.length:Int)) (
   dJ dM) (
   cond ((x0.zD.length:Int) != (x0.zA.length:Int)) (
    dJ dM) (
    (zH (zM6 x0) (1,0)).bind fun r6=>
    match r6 with
    |(.inl r6)=>
     (zH (zM7 x0) 0).bind fun r18=>
     match r18 with
     |(.inl r18)=>
      dJ dL
     |(.inr r18)=>
      dJ r18
    |(.inr r6)=>
     dJ r6)))
def f_z(x0:dQ):Option dQ:=
 (xC [] x0).bind fun v2=>
 dJ v2
def zRN(x2:Int)(r3:(dQ))(s1:(dQ)×Int):Option ((dQ×Int)⊕dQ):=
 cond (decide (s1.2<(r3.length:Int))) (
  (rng (x2+1)).bind fun v4=>
  (rng (v4+s1.2)).bind fun v5=>
  (ixO s1.1 v5).bind fun _=>
  (rng (s1.2+1)).bind fun v7=>
  dJ (.inl (s1.1.set v5.toNat 0,v7))) (
  dJ (.inr s1.1))
def zWt(g_c:SPr→dQ→dQ→Option dQ)(x0:SPr)(x2:Int)(s7:(dQ)×Int)(v17:Int)(s8:(dQ)×Int):Option ((dQ×Int)⊕dQ):=
 cond (decide (s8.2<v17)) (
  (ixO x0.zD x2).bind fun v18=>
  (ixO v18 s7.2).bind fun v19=>
  (g_c x0 s8.1 v19).bind fun r20=>
  (rng (s8.2+1)).bind fun v21=>
  dJ (.inl (r20,v21))) (
  dJ (.inr s8.1))
def zWu(g_c:SPr→dQ→dQ→Option dQ)(x0:SPr)(x2:Int)(r3:(dQ))(s7:(dQ)×Int):Option ((dQ×Int)⊕dQ):=
 cond (decide (s7.2<(r3.length:Int))) (
  (ixO r3 s7.2).bind fun v17=>
  (zH (zWt g_c x0 x2 s7 v17) (s7.1,0)).bind fun r22=>
  (rng (s7.2+1)).bind fun v23=>
  dJ (.inl (r22,v23))) (
  dJ (.inr s7.1))
def zWv(g_c:SPr→dQ→dQ→Option dQ)(x0:SPr)(x2:Int)(s15:(dQ)×Int)(v25:Int)(s16:(dQ)×Int):Option ((dQ×Int)⊕dQ):=
 cond (decide (s16.2<v25)) (
  (ixO x0.zD x2).bind fun v26=>
  (ixO v26 s15.2).bind fun v27=>
  (g_c x0 s16.1 v27).bind fun r28=>
  (rng (s16.2+1)).bind fun v29=>
  dJ (.inl (r28,v29))) (
  dJ (.inr s16.1))
def zWw(g_c:SPr→dQ→dQ→Option dQ)(x0:SPr)(x2:Int)(r3:(dQ))(s15:(dQ)×Int):Option ((dQ×Int)⊕dQ):=
 cond (decide (s15.2<(r3.length:Int))) (
  (ixO r3 s15.2).bind fun v25=>
  (zH (zWv g_c x0 x2 s15 v25) (s15.1,0)).bind fun r30=>
  (rng (s15.2+1)).bind fun v31=>
  dJ (.inl (r30,v31))) (
  dJ (.inr s15.1))
def b_b(g_c:SPr→dQ→dQ→Option dQ)(x0:SPr)(x1:dQ)(x2:Int):Option dQ:=
 (rng (x2+1)).bind fun v1=>
 (zW x1 v1 x1.length).bind fun v2=>
 (f_z v2).bind fun r3=>
 (zH (zRN x2 r3) (x1,0)).bind fun r8=>
 (ixO r8 x2).bind fun v9=>
 (rng (v9+1)).bind fun v10=>
 (ixO r8 x2).bind fun _=>
 (ixO (r8.set x2.toNat v10) x2).bind fun v12=>
 (ixO x0.zA x2).bind fun v13=>
 cond (v12==v13) (
  (ixO (r8.set x2.toNat v10) x2).bind fun _=>
  (ixO x0.zU x2).bind fun v15=>
  (g_c x0 ((r8.set x2.toNat v10).set x2.toNat 0) v15).bind fun r16=>
  (zH (zWu g_c x0 x2 r3) (r16,0)).bind fun r24=>
  dJ r24) (
  (zH (zWw g_c x0 x2 r3) (r8.set x2.toNat v10,0)).bind fun r32=>
  dJ r32)
def zRO(g_b:SPr→dQ→Int→Option dQ)(x0:SPr)(s5:(dQ)×Int)(v1:Int)(s6:(dQ)×Int):Option ((dQ×Int)⊕dQ):=
 cond (decide (s6.2<v1)) (
  (g_b x0 s6.1 s5.2).bind fun r2=>
  (rng (s6.2+1)).bind fun v3=>
  dJ (.inl (r2,v3))) (
  dJ (.inr s6.1))
def zRP(g_b:SPr→dQ→Int→Option dQ)(x0:SPr)(x2:dQ)(s5:(dQ)×Int):Option ((dQ×Int)⊕dQ):=
 cond (decide (s5.2<(x2.length:Int))) (
  (ixO x2 s5.2).bind fun v1=>
  (zH (zRO g_b x0 s5 v1) (s5.1,0)).bind fun r4=>
  (rng (s5.2+1)).bind fun v5=>
  dJ (.inl (r4,v5))) (
  dJ (.inr s5.1))
def b_c(g_b:SPr→dQ→Int→Option dQ)(x0:SPr)(x1:dQ)(x2:dQ):Option dQ:=
 (zH (zRP g_b x0 x2) (x1,0)).bind fun r6=>
 dJ r6
mutual
def zRQ:Nat→SPr→dQ→Int→Option dQ
 |0=>fun _ _ _=>dK
 |n+1=>b_b (zOW n)
def zOW:Nat→SPr→dQ→dQ→Option dQ
 |0=>fun _ _ _=>dK
 |n+1=>b_c (zRQ n)
end
def f_b(x0:SPr)(x1:dQ)(x2:Int):Option dQ:=zC9 fun n=>zRQ n x0 x1 x2
def f_c(x0:SPr)(x1:dQ)(x2:dQ):Option dQ:=zC9 fun n=>zOW n x0 x1 x2
def zKT(x0:SPr)(x1:dQ)(x2:Int)(s1:(dQ)×Int):Option ((dQ×Int)⊕dQ):=
 cond (decide (s1.2<x2)) (
  (f_c x0 s1.1 x1).bind fun r2=>
  (rng (s1.2+1)).bind fun v3=>
  dJ (.inl (r2,v3))) (
  dJ (.inr s1.1))
def zTR(x0:SPr)(x1:dQ)(x2:Int):Option dQ:=
 (yV (x1.length:Int)).bind fun m1=>
 (zH (zKT x0 x1 x2) (J1 m1 (0:Int),0)).bind fun r4=>
 dJ r4
def zRR(x0:SPr)(v3:dQ)(v6:Int)(s6:(dQ)×Int):Option ((dQ×Int)⊕dQ):=
 cond (decide (s6.2<v6)) (
  (f_c x0 s6.1 v3).bind fun r7=>
  (rng (s6.2+1)).bind fun v8=>
  dJ (.inl (r7,v8))) (
  dJ (.inr s6.1))
def zRS(x0:SPr)(x1:Int)(x2:dQ)(v2:dR)(s5:(dQ)×Int):Option ((dQ×Int)⊕dQ):=
 cond (decide (s5.2<(v2.length:Int))) (
  (ixO v2 s5.2).bind fun v3=>
  (rng (x1+1)).bind fun v4=>
  (rng (v4+s5.2)).bind fun v5=>
  (ixO x2 v5).bind fun v6=>
  (zH (zRR x0 v3 v6) (s5.1,0)).bind fun r9=>
  (rng (s5.2+1)).bind fun v10=>
  dJ (.inl (r9,v10))) (
  dJ (.inr s5.1))
def f_B(x0:SPr)(x1:Int)(x2:dQ):Option dQ:=
 (yV (x2.length:Int)).bind fun m1=>
 (ixO x0.zD x1).bind fun v2=>
 (zH (zRS x0 x1 x2 v2) (J1 m1 (0:Int),0)).bind fun r11=>
 dJ r11
def zWx(x0:dQ)(x1:dQ)(s1:Int):Option (Int⊕(Unit⊕Bool)):=
 cond (decide (s1<(x0.length:Int))) (
  (ixO x0 s1).bind fun v1=>
  (ixO x1 s1).bind fun v2=>
  cond (v1 != v2) (
   dJ (.inr (.inr dM))) (
   (rng (s1+1)).bind fun v3=>
   dJ (.inl v3))) (
  dJ (.inr (.inl ())))
def f_T(x0:dQ)(x1:dQ):Option Bool:=
 cond ((x0.length:Int) != (x1.length:Int)) (
  dJ dM) (
  (zH (zWx x0 x1) 0).bind fun r4=>
  match r4 with
  |(.inl r4)=>
   dJ dL
  |(.inr r4)=>
   dJ r4)
def zOX(x0:SPr)(s5:(dQ)×dQ×Int)(s6:(dQ)×dQ):Option ((dQ×dQ)⊕(dQ×dQ)):=
 (ixO s6.1 s5.2.2).bind fun v3=>
 cond (v3 != 0) (
  (f_b x0 s6.1 s5.2.2).bind fun r4=>
  (f_b x0 s6.2 s5.2.2).bind fun r5=>
  dJ (.inl (r4,r5))) (
  dJ (.inr (s6.1,s6.2)))
def zRT(x0:SPr)(r1:(dQ))(s5:(dQ)×dQ×Int):Option ((dQ×dQ×Int)⊕dQ):=
 cond (decide (s5.2.2<(r1.length:Int))) (
  (zH (zOX x0 s5) (s5.1,s5.2.1)).bind fun r6=>
  (rng (s5.2.2+1)).bind fun v7=>
  dJ (.inl (r6.1,r6.2,v7))) (
  dJ (.inr s5.2.1))
def f_H(x0:SPr)(x1:dQ):Option dQ:=
 (f_z x1).bind fun r1=>
 (yV (x1.length:Int)).bind fun m2=>
 (zH (zRT x0 r1) (r1,J1 m2 (0:Int),0)).bind fun r8=>
 dJ r8
def zRU(x0:SPr)(x1:dQ)(x2:dQ):Option dQ:=
 (f_z x1).bind fun r1=>
 (f_c x0 r1 x2).bind fun r2=>
 dJ r2
def zRV(x0:SPr)(x1:dQ)(x2:dQ):Option dQ:=
 (f_H x0 x2).bind fun r1=>
 (zRU x0 x1 x2).bind fun r2=>
 (zRU x0 r1 r2).bind fun r3=>
 dJ r3
def zGZ(x0:Int)(x1:Int):Option dQ:=
 (yV x0).bind fun m1=>
 (ixO (J1 m1 (0:Int)) x1).bind fun _=>
 dJ ((J1 m1 (0:Int)).set x1.toNat 1)
def zRW(x0:SPr)(x1:Int)(s1:Int):Option (Int⊕(Unit⊕yZ)):=
 cond (decide (s1<(x0.zA.length:Int))) (
  (ixO x0.zD x1).bind fun v2=>
  (rng (s1-x1)).bind fun v3=>
  (rng (v3-1)).bind fun v4=>
  (ixO v2 v4).bind fun v5=>
  (ixO x0.zA s1).bind fun v6=>
  (zTR x0 v5 v6).bind fun r7=>
  (ixO x0.zU s1).bind fun v8=>
  (f_B x0 x1 v8).bind fun r9=>
  (f_T r7 r9).bind fun r10=>
  cond (!r10) (
   dJ (.inr (.inr (yZ.mk 1 x1 s1 0)))) (
   (rng (s1+1)).bind fun v11=>
   dJ (.inl v11))) (
  dJ (.inr (.inl ())))
def zRX(x0:SPr)(x1:Int)(s7:Int)(s8:Int):Option (Int⊕(Unit⊕yZ)):=
 cond (decide (s8<(x0.zA.length:Int))) (
  (ixO x0.zD x1).bind fun v15=>
  (rng (s8-x1)).bind fun v16=>
  (rng (v16-1)).bind fun v17=>
  (ixO v15 v17).bind fun v18=>
  (ixO x0.zD x1).bind fun v19=>
  (rng (s7-x1)).bind fun v20=>
  (rng (v20-1)).bind fun v21=>
  (ixO v19 v21).bind fun v22=>
  (zRV x0 v18 v22).bind fun r23=>
  (ixO x0.zD s7).bind fun v24=>
  (rng (s8-s7)).bind fun v25=>
  (rng (v25-1)).bind fun v26=>
  (ixO v24 v26).bind fun v27=>
  (f_B x0 x1 v27).bind fun r28=>
  (f_T r23 r28).bind fun r29=>
  cond (!r29) (
   dJ (.inr (.inr (yZ.mk 2 x1 s7 s8)))) (
   (rng (s8+1)).bind fun v30=>
   dJ (.inl v30))) (
  dJ (.inr (.inl ())))
def zRY(x0:SPr)(x1:Int)(s7:Int):Option (Int⊕(Unit⊕yZ)):=
 cond (decide (s7<(x0.zA.length:Int))) (
  (rng (s7+1)).bind fun v14=>
  (zH (zRX x0 x1 s7) v14).bind fun r31=>
  match r31 with
  |(.inl r31)=>
   (rng (s7+1)).bind fun v32=>
   dJ (.inl v32)
  |(.inr r31)=>
   dJ (.inr (.inr r31))) (
  dJ (.inr (.inl ())))
def zRZ(x0:SPr)(x1:Int)(v39:Int)(s16:(dQ)×Int):Option ((dQ×Int)⊕dQ):=
 cond (decide (s16.2<v39)) (
  (f_B x0 x1 s16.1).bind fun r40=>
  (rng (s16.2+1)).bind fun v41=>
  dJ (.inl (r40,v41))) (
  dJ (.inr s16.1))
def zSa(x0:SPr)(x1:Int)(v34:dQ)(s15:Int):Option (Int⊕(Unit⊕yZ)):=
 cond (decide (s15<(x0.zA.length:Int))) (
  (zGZ (x0.zA.length:Int) s15).bind fun r38=>
  (ixO x0.zA x1).bind fun v39=>
  (zH (zRZ x0 x1 v39) (r38,0)).bind fun r42=>
  (zGZ (x0.zA.length:Int) s15).bind fun r43=>
  (zRV x0 r43 v34).bind fun r44=>
  (f_T r42 r44).bind fun r45=>
  cond (!r45) (
   dJ (.inr (.inr (yZ.mk 4 x1 s15 0)))) (
   (rng (s15+1)).bind fun v46=>
   dJ (.inl v46))) (
  dJ (.inr (.inl ())))
def f_k(x0:SPr)(x1:Int):Option yZ:=
 (rng (x1+1)).bind fun v1=>
 (zH (zRW x0 x1) v1).bind fun r12=>
 match r12 with
 |(.inl r12)=>
  (rng (x1+1)).bind fun v13=>
  (zH (zRY x0 x1) v13).bind fun r33=>
  match r33 with
  |(.inl r33)=>
   (ixO x0.zU x1).bind fun v34=>
   (f_B x0 x1 v34).bind fun r35=>
   (f_T r35 v34).bind fun r36=>
   cond (!r36) (
    dJ (yZ.mk 3 x1 0 0)) (
    (rng (x1+1)).bind fun v37=>
    (zH (zSa x0 x1 v34) v37).bind fun r47=>
    match r47 with
    |(.inl r47)=>
     dJ (yZ.mk 0 0 0 0)
    |(.inr r47)=>
     dJ r47)
  |(.inr r33)=>
   dJ r33
 |(.inr r12)=>
  dJ r12
def zKU(x0:SPr)(s1:Int):Option (Int⊕Int):=
 cond (decide (s1> 0)) (
  (rng (s1-1)).bind fun v1=>
  (f_k x0 v1).bind fun r2=>
  cond (r2.Kind==0&&(r2.zVj==0&&(r2.zVi==0&&r2.zSS==0))) (
   (rng (s1-1)).bind fun v3=>
   dJ (.inl v3)) (
   dJ (.inr s1))) (
  dJ (.inr s1))
def f_P(x0:SPr):Option Int:=
 (zH (zKU x0) (x0.zA.length:Int)).bind fun r4=>
 dJ r4
def zTS(x0:SPr):Option Bool:=
 (f_p x0).bind fun r1=>
 cond r1 (
  (f_P x0).bind fun r2=>
  dJ (r2==0)) (
  dJ dM)
def zM8(x0:zC)(x1:Int):Option zV:=
 (ixO x0.zI x1).bind fun v1=>
 dJ (zV.mk x0.Prime x0.Dim v1)
def zOb(x0:dQ)(x1:Int)(s1:Int):Option (Int⊕(Unit⊕Bool)):=
 cond (decide (s1<(x0.length:Int))) (
  (ixO x0 s1).bind fun v1=>
  (rng (x1-1)).bind fun v2=>
  (zM5 v1 0 v2).bind fun r3=>
  cond (!r3) (
   dJ (.inr (.inr dM))) (
   (rng (s1+1)).bind fun v4=>
   dJ (.inl v4))) (
  dJ (.inr (.inl ())))
def zSb(x0:dQ)(x1:Int)(x2:Int):Option Bool:=
 cond ((x0.length:Int) != x2) (
  dJ dM) (
  (zH (zOb x0 x1) 0).bind fun r5=>
  match r5 with
  |(.inl r5)=>
   dJ dL
  |(.inr r5)=>
   dJ r5)
def zKV(x0:zV)(s1:Int):Option (Int⊕(Unit⊕Bool)):=
 cond (decide (s1<(x0.Rows.length:Int))) (
  (ixO x0.Rows s1).bind fun v3=>
  (zSb v3 x0.Prime x0.xW).bind fun r4=>
  cond (!r4) (
   dJ (.inr (.inr dM))) (
   (rng (s1+1)).bind fun v5=>
   dJ (.inl v5))) (
  dJ (.inr (.inl ())))
def zTT(x0:zV):Option Bool:=
 (zOV x0.Prime).bind fun r1=>
 cond (!r1) (
  dJ dM) (
  (zM5 x0.xW 0 8).bind fun r2=>
  cond (!r2) (
   dJ dM) (
   cond (decide ((x0.Rows.length:Int)> 8)) (
    dJ dM) (
    (zH (zKV x0) 0).bind fun r6=>
    match r6 with
    |(.inl r6)=>
     dJ dL
    |(.inr r6)=>
     dJ r6)))
def zYw(x0:Int)(x1:Int):Option (Int×Int):=
 dJ ((IntKind.wrap .u64 ((IntKind.wrap .u64 ((IntKind.wrap .u64 ((Hp x0 (2 ^ (min (32:Int).toNat (IntKind.bits .u64))))*(Hp x1 (2 ^ (min (32:Int).toNat (IntKind.bits .u64))))))+(Hp (IntKind.wrap .u64 ((IntKind.wrap .u64 ((Hp x0 (2 ^ (min (32:Int).toNat (IntKind.bits .u64))))*(zFg .u64 x1 4294967295)))+(Hp (IntKind.wrap .u64 ((zFg .u64 x0 4294967295)*(zFg .u64 x1 4294967295))) (2 ^ (min (32:Int).toNat (IntKind.bits .u64)))))) (2 ^ (min (32:Int).toNat (IntKind.bits .u64))))))+(Hp (IntKind.wrap .u64 ((zFg .u64 (IntKind.wrap .u64 ((IntKind.wrap .u64 ((Hp x0 (2 ^ (min (32:Int).toNat (IntKind.bits .u64))))*(zFg .u64 x1 4294967295)))+(Hp (IntKind.wrap .u64 ((zFg .u64 x0 4294967295)*(zFg .u64 x1 4294967295))) (2 ^ (min (32:Int).toNat (IntKind.bits .u64)))))) 4294967295)+(IntKind.wrap .u64 ((zFg .u64 x0 4294967295)*(Hp x1 (2 ^ (min (32:Int).toNat (IntKind.bits .u64)))))))) (2 ^ (min (32:Int).toNat (IntKind.bits .u64)))))),(IntKind.wrap .u64 (x0*x1)))
def zSc(x0:Int)(x1:Int):Option (Int×Int):=
 (zYw x0 x1).bind fun r1=>
 dJ (r1.1,r1.2)
def zFi(s1:(dQ)×Int):Option ((dQ×Int)⊕dQ):=
 cond (decide (s1.2<(s1.1.length:Int))) (
  (zW s1.1 s1.2 s1.1.length).bind fun _=>
  (zW s1.1 0 s1.2).bind fun v4=>
  (rng (s1.2+((min v4.length (((s1.1.length:Int).toNat)-((s1.2:Int).toNat)):Nat):Int))).bind fun v5=>
  dJ (.inl (wV s1.1 ((s1.2:Int).toNat) (v4.take (((s1.1.length:Int).toNat)-((s1.2:Int).toNat))),v5))) (
  dJ (.inr s1.1))
def f_w(x0:dQ)(x1:Int):Option dQ:=
 cond (decide (x1<0)) (
  dK) (
  (zSc (IntKind.wrap .u64 (x0.length:Int)) (IntKind.wrap .u64 x1)).bind fun r1=>
  cond (decide (r1.1> 0)) (
   dK) (
   cond (decide (r1.2> 9223372036854775807)) (
    dK) (
    (yV (IntKind.wrap .i64 r1.2)).bind fun m2=>
    (zH zFi (wV (J1 m2 (0:Int)) 0 (x0.take (((J1 m2 (0:Int)).length)-0)),((min x0.length (((J1 m2 (0:Int)).length)-0):Nat):Int))).bind fun r6=>
    dJ r6)))
def zSd(s5:(dQ)×Int)(v1:Int)(s6:(dQ)×Int):Option ((dQ×Int)⊕dQ):=
 cond (decide (s6.2<v1)) (
  (rng (s5.2+1)).bind fun v2=>
  (xC s6.1 [v2]).bind fun v3=>
  (rng (s6.2+1)).bind fun v4=>
  dJ (.inl (v3,v4))) (
  dJ (.inr s6.1))
def zSe(x0:dQ)(s5:(dQ)×Int):Option ((dQ×Int)⊕dQ):=
 cond (decide (s5.2<(x0.length:Int))) (
  (ixO x0 s5.2).bind fun v1=>
  (zH (zSd s5 v1) (s5.1,0)).bind fun r5=>
  (rng (s5.2+1)).bind fun v6=>
  dJ (.inl (r5,v6))) (
  dJ (.inr s5.1))
def f_K(x0:dQ):Option dQ:=
 (zH (zSe x0) ([],0)).bind fun r7=>
 dJ r7
def zSf(x0:SPr)(s1:(List (dQ×dQ))×Int):Option (((List (dQ×dQ))×Int)⊕(List (dQ×dQ))):=
 cond (decide (s1.2<(x0.zA.length:Int))) (
  (ixO x0.zA s1.2).bind fun v1=>
  (rng (s1.2+1)).bind fun v2=>
  (f_w [v2] v1).bind fun r3=>
  (ixO x0.zU s1.2).bind fun v4=>
  (f_K v4).bind fun r5=>
  (xC s1.1 [(r3,r5)]).bind fun v6=>
  (rng (s1.2+1)).bind fun v7=>
  dJ (.inl (v6,v7))) (
  dJ (.inr s1.1))
def zSg(s7:(List (dQ×dQ))×Int)(v9:dR)(s8:(List (dQ×dQ))×Int):Option (((List (dQ×dQ))×Int)⊕(List (dQ×dQ))):=
 cond (decide (s8.2<(v9.length:Int))) (
  (ixO v9 s8.2).bind fun v10=>
  (rng (s7.2+1)).bind fun v11=>
  (rng (s7.2+s8.2)).bind fun v12=>
  (rng (v12+2)).bind fun v13=>
  (f_K v10).bind fun r14=>
  (xC [v11] r14).bind fun v15=>
  (xC s8.1 [([v13,v11],v15)]).bind fun v16=>
  (rng (s8.2+1)).bind fun v17=>
  dJ (.inl (v16,v17))) (
  dJ (.inr s8.1))
def zSh(x0:SPr)(s7:(List (dQ×dQ))×Int):Option (((List (dQ×dQ))×Int)⊕(List (dQ×dQ))):=
 cond (decide (s7.2<(x0.zA.length:Int))) (
  (ixO x0.zD s7.2).bind fun v9=>
  (zH (zSg s7 v9) (s7.1,0)).bind fun r18=>
  (rng (s7.2+1)).bind fun v19=>
  dJ (.inl (r18,v19))) (
  dJ (.inr s7.1))
def f_x(x0:SPr):Option (List (dQ×dQ)):=
 (zH (zSf x0) ([],0)).bind fun r8=>
 (zH (zSh x0) (r8,0)).bind fun r20=>
 dJ r20
def zIt(x1:Int)(s1:(dR)×Int):Option ((dR×Int)⊕dR):=
 cond (decide (s1.2<x1)) (
  (yV x1).bind fun m1=>
  (ixO (J1 m1 (0:Int)) s1.2).bind fun _=>
  (xC s1.1 [(J1 m1 (0:Int)).set s1.2.toNat 1]).bind fun v3=>
  (rng (s1.2+1)).bind fun v4=>
  dJ (.inl (v3,v4))) (
  dJ (.inr s1.1))
def zTU(x0:Int)(x1:Int):Option zV:=
 (zH (zIt x1) ([],0)).bind fun r5=>
 dJ (zV.mk x0 x1 r5)
def zHu(x0:Int)(x1:Int):Option Int:=
 (uC x0 x1).bind fun v1=>
 (rng (v1+x1)).bind fun v2=>
 (uC v2 x1).bind fun v3=>
 dJ v3
def zKW(x0:dQ)(x1:dQ)(x2:Int)(x3:Int)(s1:(dQ)×Int):Option ((dQ×Int)⊕dQ):=
 cond (decide (s1.2<(x0.length:Int))) (
  (ixO s1.1 s1.2).bind fun v1=>
  (ixO x1 s1.2).bind fun v2=>
  (rng (x2*v2)).bind fun v3=>
  (rng (v1+v3)).bind fun v4=>
  (zHu v4 x3).bind fun r5=>
  (ixO s1.1 s1.2).bind fun _=>
  (rng (s1.2+1)).bind fun v7=>
  dJ (.inl (s1.1.set s1.2.toNat r5,v7))) (
  dJ (.inr s1.1))
def f_v(x0:dQ)(x1:dQ)(x2:Int)(x3:Int):Option dQ:=
 (zH (zKW x0 x1 x2 x3) (x0,0)).bind fun r8=>
 dJ r8
def zKX(x0:dQ)(x1:zV)(s1:(dQ)×Int):Option ((dQ×Int)⊕dQ):=
 cond (decide (s1.2<(x0.length:Int))) (
  (ixO x0 s1.2).bind fun v2=>
  (ixO x1.Rows s1.2).bind fun v3=>
  (f_v s1.1 v3 v2 x1.Prime).bind fun r4=>
  (rng (s1.2+1)).bind fun v5=>
  dJ (.inl (r4,v5))) (
  dJ (.inr s1.1))
def zSi(x0:dQ)(x1:zV):Option dQ:=
 (yV x1.xW).bind fun m1=>
 (zH (zKX x0 x1) (J1 m1 (0:Int),0)).bind fun r6=>
 dJ r6
def zKY(x0:zV)(x1:zV)(s1:(dR)×Int):Option ((dR×Int)⊕dR):=
 cond (decide (s1.2<(x0.Rows.length:Int))) (
  (ixO x0.Rows s1.2).bind fun v1=>
  (zSi v1 x1).bind fun r2=>
  (xC s1.1 [r2]).bind fun v3=>
  (rng (s1.2+1)).bind fun v4=>
  dJ (.inl (v3,v4))) (
  dJ (.inr s1.1))
def zTV(x0:zV)(x1:zV):Option zV:=
 (zH (zKY x0 x1) ([],0)).bind fun r5=>
 dJ (zV.mk x0.Prime x1.xW r5)
def zSj(x0:zC)(x1:dQ)(s1:Int×Int×dR×Int):Option ((Int×Int×dR×Int)⊕(Int×Int×dR)):=
 cond (decide (s1.2.2.2<(x1.length:Int))) (
  (ixO x1 s1.2.2.2).bind fun v2=>
  (rng (v2-1)).bind fun v3=>
  (zM8 x0 v3).bind fun r4=>
  (zTV (zV.mk s1.1 s1.2.1 s1.2.2.1) r4).bind fun r5=>
  (rng (s1.2.2.2+1)).bind fun v6=>
  dJ (.inl (r5.Prime,r5.xW,r5.Rows,v6))) (
  dJ (.inr (s1.1,s1.2.1,s1.2.2.1)))
def f_V(x0:zC)(x1:dQ):Option zV:=
 (zTU x0.Prime x0.Dim).bind fun r1=>
 (zH (zSj x0 x1) (r1.Prime,r1.xW,r1.Rows,0)).bind fun r7=>
 dJ (zV.mk r7.1 r7.2.1 r7.2.2)
def zSk(x0:dR)(x1:dR)(s1:Int):Option (Int⊕(Unit⊕Bool)):=
 cond (decide (s1<(x0.length:Int))) (
  (ixO x0 s1).bind fun v1=>
  (ixO x1 s1).bind fun v2=>
  (f_T v1 v2).bind fun r3=>
  cond (!r3) (
   dJ (.inr (.inr dM))) (
   (rng (s1+1)).bind fun v4=>
   dJ (.inl v4))) (
  dJ (.inr (.inl ())))
def zWy(x0:dR)(x1:dR):Option Bool:=
 cond ((x0.length:Int) != (x1.length:Int)) (
  dJ dM) (
  (zH (zSk x0 x1) 0).bind fun r5=>
  match r5 with
  |(.inl r5)=>
   dJ dL
  |(.inr r5)=>
   dJ r5)
def zTW(x0:dR)(x1:dR):Option Bool:=
 (zWy x0 x1).bind fun r1=>
 dJ r1
def zSl(x1:zC)(s1:Int):Option (Int⊕(Unit⊕Bool)):=
 cond (decide (s1<(x1.zI.length:Int))) (
  (ixO x1.zI s1).bind fun v4=>
  cond ((v4.length:Int) != x1.Dim) (
   dJ (.inr (.inr dM))) (
   (zM8 x1 s1).bind fun r5=>
   (zTT r5).bind fun r6=>
   cond (!r6) (
    dJ (.inr (.inr dM))) (
    (rng (s1+1)).bind fun v7=>
    dJ (.inl v7)))) (
  dJ (.inr (.inl ())))
def zSm(x1:zC)(r9:(List (dQ×dQ)))(s3:Int):Option (Int⊕(Unit⊕Bool)):=
 cond (decide (s3<(r9.length:Int))) (
  (ixO r9 s3).bind fun v10=>
  (f_V x1 v10.1).bind fun r11=>
  (f_V x1 v10.2).bind fun r12=>
  (zTW r11.Rows r12.Rows).bind fun r13=>
  cond (!r13) (
   dJ (.inr (.inr dM))) (
   (rng (s3+1)).bind fun v14=>
   dJ (.inl v14))) (
  dJ (.inr (.inl ())))
def f_C(x0:SPr)(x1:zC):Option Bool:=
 (zTS x0).bind fun r1=>
 cond (!r1) (
  dJ dM) (
  (zOV x1.Prime).bind fun r2=>
  cond (!r2) (
   dJ dM) (
   (zM5 x1.Dim 1 3).bind fun r3=>
   cond (!r3) (
    dJ dM) (
    cond ((x1.zI.length:Int) != (x0.zA.length:Int)) (
     dJ dM) (
     (zH (zSl x1) 0).bind fun r8=>
     match r8 with
     |(.inl r8)=>
      (f_x x0).bind fun r9=>
      (zH (zSm x1 r9) 0).bind fun r15=>
      match r15 with
      |(.inl r15)=>
       dJ dL
      |(.inr r15)=>
       dJ r15
     |(.inr r8)=>
      dJ r8))))
def zSn(x1:Int):Option dQ:=
 cond (decide (x1<0)) (
  dK) (
  (rng (0-0)).bind fun v1=>
  (rng (x1-v1)).bind fun v2=>
  cond (decide (v2> 0)) (
   (wY [] v2 (0:Int)).bind fun v3=>
   (zW v3 0 0).bind fun v4=>
   dJ v4) (
   dJ []))
def zSo(x0:dR)(s1:Int×Int):Option ((Int×Int)⊕Int):=
 cond (decide (s1.2<(x0.length:Int))) (
  (ixO x0 s1.2).bind fun v1=>
  (rng (s1.1+(v1.length:Int))).bind fun v2=>
  cond (decide (v2<0)) (
   dK) (
   (rng (s1.2+1)).bind fun v3=>
   dJ (.inl (v2,v3)))) (
  dJ (.inr s1.1))
def zSp(x0:dR)(s3:(dQ)×Int):Option ((dQ×Int)⊕dQ):=
 cond (decide (s3.2<(x0.length:Int))) (
  (ixO x0 s3.2).bind fun v6=>
  (xC s3.1 v6).bind fun v7=>
  (rng (s3.2+1)).bind fun v8=>
  dJ (.inl (v7,v8))) (
  dJ (.inr s3.1))
def f_u(x0:dR):Option dQ:=
 (zH (zSo x0) (0,0)).bind fun r4=>
 (zSn r4).bind fun r5=>
 (zH (zSp x0) (r5,0)).bind fun r9=>
 dJ r9
def zSq(x0:dQ)(x1:Int)(x2:Int):Option dQ:=
 (yV x1).bind fun m1=>
 (yV x2).bind fun m2=>
 (f_u [J1 m1 (0:Int),x0,J1 m2 (0:Int)]).bind fun r3=>
 dJ r3
def zSr(x0:dQ)(x1:dQ)(s1:Int):Option (Int⊕(Unit⊕Bool)):=
 cond (decide (s1<(x0.length:Int))) (
  (ixO x0 s1).bind fun v1=>
  (ixO x1 s1).bind fun v2=>
  cond (v1 != v2) (
   dJ (.inr (.inr dM))) (
   (rng (s1+1)).bind fun v3=>
   dJ (.inl v3))) (
  dJ (.inr (.inl ())))
def zSs(x0:dQ)(x1:dQ):Option Bool:=
 cond ((x0.length:Int) != (x1.length:Int)) (
  dJ dM) (
  (zH (zSr x0 x1) 0).bind fun r4=>
  match r4 with
  |(.inl r4)=>
   dJ dL
  |(.inr r4)=>
   dJ r4)
def zWz(x0:dR)(x1:dR)(s1:Int):Option (Int⊕(Unit⊕Bool)):=
 cond (decide (s1<(x0.length:Int))) (
  (ixO x0 s1).bind fun v1=>
  (ixO x1 s1).bind fun v2=>
  (zSs v1 v2).bind fun r3=>
  cond (!r3) (
   dJ (.inr (.inr dM))) (
   (rng (s1+1)).bind fun v4=>
   dJ (.inl v4))) (
  dJ (.inr (.inl ())))
def f_S(x0:dR)(x1:dR):Option Bool:=
 cond ((x0.length:Int) != (x1.length:Int)) (
  dJ dM) (
  (zH (zWz x0 x1) 0).bind fun r5=>
  match r5 with
  |(.inl r5)=>
   dJ dL
  |(.inr r5)=>
   dJ r5)
def zSt(x0:List dR)(x1:List dR)(s1:Int):Option (Int⊕(Unit⊕Bool)):=
 cond (decide (s1<(x0.length:Int))) (
  (ixO x0 s1).bind fun v1=>
  (ixO x1 s1).bind fun v2=>
  (f_S v1 v2).bind fun r3=>
  cond (!r3) (
   dJ (.inr (.inr dM))) (
   (rng (s1+1)).bind fun v4=>
   dJ (.inl v4))) (
  dJ (.inr (.inl ())))
def zTX(x0:List dR)(x1:List dR):Option Bool:=
 cond ((x0.length:Int) != (x1.length:Int)) (
  dJ dM) (
  (zH (zSt x0 x1) 0).bind fun r5=>
  match r5 with
  |(.inl r5)=>
   dJ dL
  |(.inr r5)=>
   dJ r5)
def zTY(x0:zC)(x1:zC):Option Bool:=
 cond (x0.Prime != x1.Prime) (
  dJ dM) (
  cond (x0.Dim != x1.Dim) (
   dJ dM) (
   (zTX x0.zI x1.zI).bind fun r1=>
   cond (!r1) (
    dJ dM) (
    dJ dL)))
def zOY(x0:SPr)(x1:SPr):Option Bool:=
 (zSs x0.zA x1.zA).bind fun r1=>
 cond (!r1) (
  dJ dM) (
  (f_S x0.zU x1.zU).bind fun r2=>
  cond (!r2) (
   dJ dM) (
   (zTX x0.zD x1.zD).bind fun r3=>
   cond (!r3) (
    dJ dM) (
    dJ dL)))
def zOc(s1:(dQ)×Int×Int):Option ((dQ×Int×Int)⊕(dQ×Int)):=
 cond (decide (s1.2.2<(s1.1.length:Int))) (
  (ixO s1.1 s1.2.2).bind fun _=>
  (rng (s1.2.1+1)).bind fun v2=>
  (rng (s1.2.2+1)).bind fun v3=>
  dJ (.inl (s1.1.set s1.2.2.toNat s1.2.1,v2,v3))) (
  dJ (.inr (s1.1,s1.2.1)))
def zOZ(x0:dQ)(x1:Int):Option (Int×dQ):=
 (zH zOc (x0,x1,0)).bind fun r4=>
 dJ (r4.2,r4.1)
def zW0(s1:(dR)×Int×Int):Option ((dR×Int×Int)⊕(dR×Int)):=
 cond (decide (s1.2.2<(s1.1.length:Int))) (
  (ixO s1.1 s1.2.2).bind fun v1=>
  (zOZ v1 s1.2.1).bind fun r2=>
  (rng (s1.2.2+1)).bind fun v3=>
  dJ (.inl (s1.1.set s1.2.2.toNat r2.2,r2.1,v3))) (
  dJ (.inr (s1.1,s1.2.1)))
def f_N(x0:dR)(x1:Int):Option (Int×dR):=
 (zH zW0 (x0,x1,0)).bind fun r4=>
 dJ (r4.2,r4.1)
def zSu(s1:(List dR)×Int×Int):Option (((List dR)×Int×Int)⊕((List dR)×Int)):=
 cond (decide (s1.2.2<(s1.1.length:Int))) (
  (ixO s1.1 s1.2.2).bind fun v1=>
  (f_N v1 s1.2.1).bind fun r2=>
  (rng (s1.2.2+1)).bind fun v3=>
  dJ (.inl (s1.1.set s1.2.2.toNat r2.2,r2.1,v3))) (
  dJ (.inr (s1.1,s1.2.1)))
def zSv(x0:List dR)(x1:Int):Option (Int×(List dR)):=
 (zH zSu (x0,x1,0)).bind fun r4=>
 dJ (r4.2,r4.1)
def zPa(x0:SPr)(x1:Int):Option (Int×SPr):=
 (zOZ x0.zA x1).bind fun r1=>
 (f_N x0.zU r1.1).bind fun r2=>
 (zSv x0.zD r2.1).bind fun r3=>
 dJ (r3.1,(SPr.mk r1.2 r2.2 r3.2))
def zTZ(x0:zC)(x1:Int):Option (Int×zC):=
 (zSv x0.zI x1).bind fun r1=>
 dJ (r1.1,(zC.mk x0.Prime x0.Dim r1.2))
def zSw(x0:dQ)(s1:Int×Int):Option ((Int×Int)⊕(Int⊕Int)):=
 cond (decide (s1.2<(x0.length:Int))) (
  (ixO x0 s1.2).bind fun v1=>
  cond (v1 != s1.1) (
   dJ (.inr (.inr (-1)))) (
   (rng (s1.1+1)).bind fun v2=>
   (rng (s1.2+1)).bind fun v3=>
   dJ (.inl (v2,v3)))) (
  dJ (.inr (.inl s1.1)))
def f_Z(x0:dQ)(x1:Int):Option Int:=
 (zH (zSw x0) (x1,0)).bind fun r4=>
 match r4 with
 |(.inl r4)=>
  dJ r4
 |(.inr r4)=>
  dJ r4
def zSx(x0:dR)(s1:Int×Int):Option ((Int×Int)⊕(Int⊕Int)):=
 cond (decide (s1.2<(x0.length:Int))) (
  (ixO x0 s1.2).bind fun v1=>
  (f_Z v1 s1.1).bind fun r2=>
  cond (decide (r2<0)) (
   dJ (.inr (.inr (-1)))) (
   (rng (s1.2+1)).bind fun v3=>
   dJ (.inl (r2,v3)))) (
  dJ (.inr (.inl s1.1)))
def zPb(x0:dR)(x1:Int):Option Int:=
 (zH (zSx x0) (x1,0)).bind fun r4=>
 match r4 with
 |(.inl r4)=>
  dJ r4
 |(.inr r4)=>
  dJ r4
def zSy(x0:List dR)(s1:Int×Int):Option ((Int×Int)⊕(Int⊕Int)):=
 cond (decide (s1.2<(x0.length:Int))) (
  (ixO x0 s1.2).bind fun v1=>
  (zPb v1 s1.1).bind fun r2=>
  cond (decide (r2<0)) (
   dJ (.inr (.inr (-1)))) (
   (rng (s1.2+1)).bind fun v3=>
   dJ (.inl (r2,v3)))) (
  dJ (.inr (.inl s1.1)))
def zW1(x0:List dR)(x1:Int):Option Int:=
 (zH (zSy x0) (x1,0)).bind fun r4=>
 match r4 with
 |(.inl r4)=>
  dJ r4
 |(.inr r4)=>
  dJ r4
def zKZ(x0:dR)(s1:(dR)×Int):Option ((dR×Int)⊕dR):=
 cond (decide (s1.2<(x0.length:Int))) (
  (ixO x0 s1.2).bind fun v1=>
  (rng ((v1.length:Int)+(x0.length:Int))).bind fun v2=>
  (yV v2).bind fun m3=>
  (rng ((v1.length:Int)+s1.2)).bind fun v4=>
  (ixO (wV (J1 m3 (0:Int)) 0 (v1.take (((J1 m3 (0:Int)).length)-0))) v4).bind fun _=>
  (xC s1.1 [(wV (J1 m3 (0:Int)) 0 (v1.take (((J1 m3 (0:Int)).length)-0))).set v4.toNat 1]).bind fun v6=>
  (rng (s1.2+1)).bind fun v7=>
  dJ (.inl (v6,v7))) (
  dJ (.inr s1.1))
def zSz(x0:dR):Option dR:=
 (zH (zKZ x0) ([],0)).bind fun r8=>
 dJ r8
def zLa(x0:dR)(s1:(dR)×Int):Option ((dR×Int)⊕dR):=
 cond (decide (s1.2<(x0.length:Int))) (
  (ixO x0 s1.2).bind fun v1=>
  (f_z v1).bind fun r2=>
  (xC s1.1 [r2]).bind fun v3=>
  (rng (s1.2+1)).bind fun v4=>
  dJ (.inl (v3,v4))) (
  dJ (.inr s1.1))
def zUa(x0:dR):Option dR:=
 (zH (zLa x0) ([],0)).bind fun r5=>
 dJ r5
def zPc(s1:Int×Int×Int×Int):Option ((Int×Int×Int×Int)⊕(Int×Int)):=
 cond (s1.2.1 != 0) (
  (uY s1.1 s1.2.1).bind fun v1=>
  (rng (v1*s1.2.1)).bind fun v2=>
  (rng (s1.1-v2)).bind fun v3=>
  (rng (v1*s1.2.2.2)).bind fun v4=>
  (rng (s1.2.2.1-v4)).bind fun v5=>
  dJ (.inl (s1.2.1,v3,s1.2.2.2,v5))) (
  dJ (.inr (s1.1,s1.2.2.1)))
def f_Q(x0:Int)(x1:Int):Option (Int×Bool):=
 (zH zPc (x1,x0,0,1)).bind fun r6=>
 (zHu r6.2 x1).bind fun r7=>
 dJ (r7,(r6.1==1))
def zHv(s13:(dR)×Int×Int)(s14:Int):Option (Int⊕Int):=
 cond (decide (s14<(s13.1.length:Int))) (
  (ixO s13.1 s14).bind fun v3=>
  (ixO v3 s13.2.2).bind fun v4=>
  cond (v4==0) (
   (rng (s14+1)).bind fun v5=>
   dJ (.inl v5)) (
   dJ (.inr s14))) (
  dJ (.inr s14))
def zLb(x0:Int)(s13:(dR)×Int×Int)(r12:Int×Bool)(v13:dQ)(s16:(dR)×Int):Option ((dR×Int)⊕dR):=
 cond (decide (s16.2<(v13.length:Int))) (
  (ixO s16.1 s13.2.1).bind fun v14=>
  (ixO s16.1 s13.2.1).bind fun v15=>
  (ixO v15 s16.2).bind fun v16=>
  (rng (v16*r12.1)).bind fun v17=>
  (uC v17 x0).bind fun v18=>
  (ixO v14 s16.2).bind fun _=>
  (rng (s16.2+1)).bind fun v20=>
  dJ (.inl (s16.1.set s13.2.1.toNat (v14.set s16.2.toNat v18),v20))) (
  dJ (.inr s16.1))
def zM9(x0:Int)(s13:(dR)×Int×Int)(r21:(dR))(s18:(dR)×Int):Option ((dR×Int)⊕dR):=
 cond (decide (s18.2<(r21.length:Int))) (
  cond (s18.2 != s13.2.1) (
   (ixO s18.1 s18.2).bind fun v22=>
   (ixO s18.1 s13.2.1).bind fun v23=>
   (ixO s18.1 s18.2).bind fun v24=>
   (ixO v24 s13.2.2).bind fun v25=>
   (rng (0-v25)).bind fun v26=>
   (f_v v22 v23 v26 x0).bind fun r27=>
   (rng (s18.2+1)).bind fun v28=>
   dJ (.inl (s18.1.set s18.2.toNat r27,v28))) (
   (rng (s18.2+1)).bind fun v29=>
   dJ (.inl (s18.1,v29)))) (
  dJ (.inr s18.1))
def zMA(x0:Int)(s13:(dR)×Int×Int):Option ((dR×Int×Int)⊕(dR×Int)):=
 cond (decide ((s13.1.length:Int)> 0)) (
  (ixO s13.1 0).bind fun v2=>
  cond (decide (s13.2.2<(v2.length:Int))) (
   cond (decide (s13.2.1<(s13.1.length:Int))) (
    (zH (zHv s13) s13.2.1).bind fun r6=>
    cond (r6==(s13.1.length:Int)) (
     (rng (s13.2.2+1)).bind fun v7=>
     dJ (.inl (s13.1,s13.2.1,v7))) (
     (ixO s13.1 r6).bind fun v8=>
     (ixO s13.1 s13.2.1).bind fun v9=>
     (ixO (qR s13.1 s13.2.1 r6 v8 v9) s13.2.1).bind fun v10=>
     (ixO v10 s13.2.2).bind fun v11=>
     (f_Q v11 x0).bind fun r12=>
     (ixO (qR s13.1 s13.2.1 r6 v8 v9) s13.2.1).bind fun v13=>
     (zH (zLb x0 s13 r12 v13) (qR s13.1 s13.2.1 r6 v8 v9,0)).bind fun r21=>
     (zH (zM9 x0 s13 r21) (r21,0)).bind fun r30=>
     (rng (s13.2.1+1)).bind fun v31=>
     (rng (s13.2.2+1)).bind fun v32=>
     dJ (.inl (r30,v31,v32)))) (
    dJ (.inr (s13.1,s13.2.1)))) (
   dJ (.inr (s13.1,s13.2.1)))) (
  dJ (.inr (s13.1,s13.2.1)))
def f_g(x0:Int)(x1:dR):Option dR:=
 (zUa x1).bind fun r1=>
 (zH (zMA x0) (r1,0,0)).bind fun r33=>
 (zW r33.1 0 r33.2).bind fun v34=>
 dJ v34
def zS0(x0:Int)(x1:Int):Option Int:=
 (uC x0 x1).bind fun v1=>
 cond (decide (v1<0)) (
  (rng (v1+x1)).bind fun v2=>
  dJ v2) (
  dJ v1)
def zHw(x0:dQ)(s1:Int):Option (Int⊕(Unit⊕Int)):=
 cond (decide (s1<(x0.length:Int))) (
  (ixO x0 s1).bind fun v1=>
  cond (v1 != 0) (
   dJ (.inr (.inr s1))) (
   (rng (s1+1)).bind fun v2=>
   dJ (.inl v2))) (
  dJ (.inr (.inl ())))
def f_A(x0:dQ):Option Int:=
 (zH (zHw x0) 0).bind fun r3=>
 match r3 with
 |(.inl r3)=>
  dJ (x0.length:Int)
 |(.inr r3)=>
  dJ r3
def zS1(x0:Int)(x2:Int)(x3:dQ)(s1:(dQ)×Int):Option ((dQ×Int)⊕dQ):=
 cond (decide (s1.2<(s1.1.length:Int))) (
  cond (decide (s1.2<(x3.length:Int))) (
   (ixO s1.1 s1.2).bind fun v2=>
   (ixO x3 s1.2).bind fun v3=>
   (rng (x2*v3)).bind fun v4=>
   (rng (v2+v4)).bind fun v5=>
   (zS0 v5 x0).bind fun r6=>
   (ixO s1.1 s1.2).bind fun _=>
   (rng (s1.2+1)).bind fun v8=>
   dJ (.inl (s1.1.set s1.2.toNat r6,v8))) (
   dJ (.inr s1.1))) (
  dJ (.inr s1.1))
def f_s(x0:Int)(x1:dQ)(x2:Int)(x3:dQ):Option dQ:=
 (f_n x1).bind fun r1=>
 (zH (zS1 x0 x2 x3) (r1,0)).bind fun r9=>
 dJ r9
def zLc(x0:Int)(x1:dR)(s1:(dQ)×Int):Option ((dQ×Int)⊕dQ):=
 cond (decide (s1.2<(x1.length:Int))) (
  (ixO x1 s1.2).bind fun v2=>
  (f_A v2).bind fun r3=>
  cond (decide (r3<(s1.1.length:Int))) (
   (ixO s1.1 r3).bind fun v4=>
   cond (v4 != 0) (
    (ixO s1.1 r3).bind fun v5=>
    (rng (x0-v5)).bind fun v6=>
    (ixO x1 s1.2).bind fun v7=>
    (f_s x0 s1.1 v6 v7).bind fun r8=>
    (rng (s1.2+1)).bind fun v9=>
    dJ (.inl (r8,v9))) (
    (rng (s1.2+1)).bind fun v10=>
    dJ (.inl (s1.1,v10)))) (
   (rng (s1.2+1)).bind fun v11=>
   dJ (.inl (s1.1,v11)))) (
  dJ (.inr s1.1))
def zPd(x0:Int)(x1:dR)(x2:dQ):Option dQ:=
 (f_n x2).bind fun r1=>
 (zH (zLc x0 x1) (r1,0)).bind fun r12=>
 dJ r12
def zLd(x0:Int)(x1:Int)(s1:Int):Option (Int⊕(Unit⊕Int)):=
 cond (decide (s1<x1)) (
  (zS0 x0 x1).bind fun r1=>
  (rng (r1*s1)).bind fun v2=>
  (uC v2 x1).bind fun v3=>
  cond (v3==1) (
   dJ (.inr (.inr s1))) (
   (rng (s1+1)).bind fun v4=>
   dJ (.inl v4))) (
  dJ (.inr (.inl ())))
def zUb(x0:Int)(x1:Int):Option Int:=
 (zH (zLd x0 x1) 1).bind fun r5=>
 match r5 with
 |(.inl r5)=>
  dJ 0
 |(.inr r5)=>
  dJ r5
def zS2(x0:Int)(x1:Int)(x2:dQ):Option dQ:=
 (yV (x2.length:Int)).bind fun m1=>
 (f_s x0 (J1 m1 (0:Int)) x1 x2).bind fun r2=>
 dJ r2
def zHx(x0:Int)(s5:(dR)×Int)(r3:Int)(r7:(dQ))(s6:(dR)×Bool×Int):Option ((dR×Bool×Int)⊕(dR×Bool)):=
 cond (decide (s6.2.2<(s5.1.length:Int))) (
  cond (!s6.2.1) (
   (ixO s5.1 s6.2.2).bind fun v8=>
   (f_A v8).bind fun r9=>
   cond (decide (r9> r3)) (
    (xC s6.1 [r7]).bind fun v10=>
    (ixO s5.1 s6.2.2).bind fun v11=>
    (ixO s5.1 s6.2.2).bind fun v12=>
    (ixO v12 r3).bind fun v13=>
    (rng (x0-v13)).bind fun v14=>
    (f_s x0 v11 v14 r7).bind fun r15=>
    (xC v10 [r15]).bind fun v16=>
    (rng (s6.2.2+1)).bind fun v17=>
    dJ (.inl (v16,dL,v17))) (
    (ixO s5.1 s6.2.2).bind fun v18=>
    (ixO s5.1 s6.2.2).bind fun v19=>
    (ixO v19 r3).bind fun v20=>
    (rng (x0-v20)).bind fun v21=>
    (f_s x0 v18 v21 r7).bind fun r22=>
    (xC s6.1 [r22]).bind fun v23=>
    (rng (s6.2.2+1)).bind fun v24=>
    dJ (.inl (v23,s6.2.1,v24)))) (
   (ixO s5.1 s6.2.2).bind fun v25=>
   (ixO s5.1 s6.2.2).bind fun v26=>
   (ixO v26 r3).bind fun v27=>
   (rng (x0-v27)).bind fun v28=>
   (f_s x0 v25 v28 r7).bind fun r29=>
   (xC s6.1 [r29]).bind fun v30=>
   (rng (s6.2.2+1)).bind fun v31=>
   dJ (.inl (v30,s6.2.1,v31)))) (
  dJ (.inr (s6.1,s6.2.1)))
def zPe(x0:Int)(x1:dR)(s5:(dR)×Int):Option ((dR×Int)⊕dR):=
 cond (decide (s5.2<(x1.length:Int))) (
  (ixO x1 s5.2).bind fun v1=>
  (zPd x0 s5.1 v1).bind fun r2=>
  (f_A r2).bind fun r3=>
  cond (r3==(r2.length:Int)) (
   (rng (s5.2+1)).bind fun v4=>
   dJ (.inl (s5.1,v4))) (
   (ixO r2 r3).bind fun v5=>
   (zUb v5 x0).bind fun r6=>
   (zS2 x0 r6 r2).bind fun r7=>
   (zH (zHx x0 s5 r3 r7) ([],dM,0)).bind fun r32=>
   cond (!r32.2) (
    (xC r32.1 [r7]).bind fun v33=>
    (rng (s5.2+1)).bind fun v34=>
    dJ (.inl (v33,v34))) (
    (rng (s5.2+1)).bind fun v35=>
    dJ (.inl (r32.1,v35))))) (
  dJ (.inr s5.1))
def f_m(x0:Int)(x1:dR):Option dR:=
 (zH (zPe x0 x1) ([],0)).bind fun r36=>
 dJ r36
def zLe(x1:dR)(r1:(dR))(s1:(dR)×Int):Option ((dR×Int)⊕dR):=
 cond (decide (s1.2<(x1.length:Int))) (
  (ixO x1 s1.2).bind fun v2=>
  (f_n v2).bind fun r3=>
  (ixO r1 s1.2).bind fun v4=>
  (xC r3 v4).bind fun v5=>
  (xC s1.1 [v5]).bind fun v6=>
  (rng (s1.2+1)).bind fun v7=>
  dJ (.inl (v6,v7))) (
  dJ (.inr s1.1))
def zS3(x0:Int)(x1:dR):Option dR:=
 (f_I (x1.length:Int)).bind fun r1=>
 (zH (zLe x1 r1) ([],0)).bind fun r8=>
 (f_m x0 r8).bind fun r9=>
 dJ r9
def zIu(x2:Int)(r1:(dR))(s1:(dR)×Int):Option ((dR×Int)⊕dR):=
 cond (decide (s1.2<(r1.length:Int))) (
  (ixO r1 s1.2).bind fun v2=>
  (f_A v2).bind fun r3=>
  cond (decide (r3≥x2)) (
   (ixO r1 s1.2).bind fun v4=>
   (zW v4 x2 v4.length).bind fun v5=>
   (f_n v5).bind fun r6=>
   (xC s1.1 [r6]).bind fun v7=>
   (rng (s1.2+1)).bind fun v8=>
   dJ (.inl (v7,v8))) (
   (rng (s1.2+1)).bind fun v9=>
   dJ (.inl (s1.1,v9)))) (
  dJ (.inr s1.1))
def zUc(x0:Int)(x1:dR)(x2:Int):Option dR:=
 (zS3 x0 x1).bind fun r1=>
 (zH (zIu x2 r1) ([],0)).bind fun r10=>
 dJ r10
def zUd(x0:SPr):Option Int:=
 (rng ((x0.zA.length:Int)-1)).bind fun v1=>
 (rng ((x0.zA.length:Int)*v1)).bind fun v2=>
 (uY v2 2).bind fun v3=>
 (rng ((x0.zA.length:Int)+v3)).bind fun v4=>
 dJ v4
def zUe(x0:Int)(x1:Int)(x2:Int):Option Int:=
 (rng (x1*x0)).bind fun v1=>
 (rng (x0+v1)).bind fun v2=>
 (rng (x1+1)).bind fun v3=>
 (rng (x1*v3)).bind fun v4=>
 (uY v4 2).bind fun v5=>
 (rng (v2-v5)).bind fun v6=>
 (rng (v6+x2)).bind fun v7=>
 (rng (v7-x1)).bind fun v8=>
 (rng (v8-1)).bind fun v9=>
 dJ v9
def zS4(x1:zC)(s1:(dQ)×Int):Option ((dQ×Int)⊕dQ):=
 cond (decide (s1.2<x1.Dim)) (
  (xC s1.1 [x1.Prime]).bind fun v2=>
  (rng (s1.2+1)).bind fun v3=>
  dJ (.inl (v2,v3))) (
  dJ (.inr s1.1))
def zPf(x0:SPr)(x2:dR)(s11:(dR)×(List dR)×Int)(s12:(dR)×Int):Option ((dR×Int)⊕dR):=
 cond (decide (s12.2<(x0.zA.length:Int))) (
  (ixO x0.zD s11.2.2).bind fun v11=>
  (rng (s12.2-s11.2.2)).bind fun v12=>
  (rng (v12-1)).bind fun v13=>
  (ixO v11 v13).bind fun v14=>
  (f_n v14).bind fun r15=>
  (zUe (x0.zA.length:Int) s11.2.2 s12.2).bind fun r16=>
  (ixO x2 r16).bind fun v17=>
  (xC r15 v17).bind fun v18=>
  (xC s12.1 [v18]).bind fun v19=>
  (rng (s12.2+1)).bind fun v20=>
  dJ (.inl (v19,v20))) (
  dJ (.inr s12.1))
def zPg(x0:SPr)(x1:zC)(s11:(dR)×(List dR)×Int)(s14:(dR)×Int):Option ((dR×Int)⊕dR):=
 cond (decide (s14.2<x1.Dim)) (
  (yV (x0.zA.length:Int)).bind fun m22=>
  (ixO x1.zI s11.2.2).bind fun v23=>
  (ixO v23 s14.2).bind fun v24=>
  (xC (J1 m22 (0:Int)) v24).bind fun v25=>
  (xC s14.1 [v25]).bind fun v26=>
  (rng (s14.2+1)).bind fun v27=>
  dJ (.inl (v26,v27))) (
  dJ (.inr s14.1))
def zMB(x0:SPr)(x1:zC)(x2:dR)(s11:(dR)×(List dR)×Int):Option ((dR×(List dR)×Int)⊕(dR×(List dR))):=
 cond (decide (s11.2.2<(x0.zA.length:Int))) (
  (ixO x0.zU s11.2.2).bind fun v5=>
  (f_n v5).bind fun r6=>
  (ixO x2 s11.2.2).bind fun v7=>
  (xC r6 v7).bind fun v8=>
  (xC s11.1 [v8]).bind fun v9=>
  (rng (s11.2.2+1)).bind fun v10=>
  (zH (zPf x0 x2 s11) ([],v10)).bind fun r21=>
  (zH (zPg x0 x1 s11) (r21,0)).bind fun r28=>
  (xC s11.2.1 [r28]).bind fun v29=>
  (rng (s11.2.2+1)).bind fun v30=>
  dJ (.inl (v9,v29,v30))) (
  dJ (.inr (s11.1,s11.2.1)))
def zPh(x0:SPr)(x1:zC)(s22:(dR)×Int):Option ((dR×Int)⊕dR):=
 cond (decide (s22.2<x1.Dim)) (
  (rng ((x0.zA.length:Int)+x1.Dim)).bind fun v36=>
  (rng ((x0.zA.length:Int)+s22.2)).bind fun v37=>
  (zJp v36 v37).bind fun r38=>
  (xC s22.1 [r38]).bind fun v39=>
  (rng (s22.2+1)).bind fun v40=>
  dJ (.inl (v39,v40))) (
  dJ (.inr s22.1))
def zMC(x0:SPr)(x1:zC)(s21:(dR)×(List dR)×Int):Option ((dR×(List dR)×Int)⊕(dR×(List dR))):=
 cond (decide (s21.2.2<x1.Dim)) (
  (rng ((x0.zA.length:Int)+x1.Dim)).bind fun v32=>
  (yV v32).bind fun m33=>
  (xC s21.1 [J1 m33 (0:Int)]).bind fun v34=>
  (rng (s21.2.2+1)).bind fun v35=>
  (zH (zPh x0 x1) ([],v35)).bind fun r41=>
  (xC s21.2.1 [r41]).bind fun v42=>
  (rng (s21.2.2+1)).bind fun v43=>
  dJ (.inl (v34,v42,v43))) (
  dJ (.inr (s21.1,s21.2.1)))
def f_h(x0:SPr)(x1:zC)(x2:dR):Option SPr:=
 (f_n x0.zA).bind fun r1=>
 (zH (zS4 x1) (r1,0)).bind fun r4=>
 (zH (zMB x0 x1 x2) ([],[],0)).bind fun r31=>
 (zH (zMC x0 x1) (r31.1,r31.2,0)).bind fun r44=>
 dJ (SPr.mk r4 r44.1 r44.2)
def zMD(x0:SPr)(x1:zC)(x2:dR):Option (SPr×Int):=
 (f_h x0 x1 x2).bind fun r1=>
 (f_t r1).bind fun r2=>
 cond (!r2) (
  dJ ((SPr.mk [] [] []),3)) (
  dJ (r1,0))
def zUf(x0:SPr):Option Int:=
 (rng ((x0.zA.length:Int)+1)).bind fun v1=>
 (rng ((x0.zA.length:Int)*v1)).bind fun v2=>
 (uY v2 2).bind fun v3=>
 dJ v3
def zLf(x0:dQ)(x1:Int)(s1:(dR)×Int):Option ((dR×Int)⊕dR):=
 cond (decide (s1.2<(x0.length:Int))) (
  (rng (s1.2+x1)).bind fun v1=>
  (zW x0 s1.2 v1).bind fun v2=>
  (f_z v2).bind fun r3=>
  (xC s1.1 [r3]).bind fun v4=>
  (rng (s1.2+x1)).bind fun v5=>
  dJ (.inl (v4,v5))) (
  dJ (.inr s1.1))
def zPi(x0:dQ)(x1:Int):Option dR:=
 (zH (zLf x0 x1) ([],0)).bind fun r6=>
 dJ r6
def zPj(x0:dQ)(s6:(dR)×Int):Option ((dR×Int)⊕dR):=
 cond (decide (s6.2<(x0.length:Int))) (
  (zGZ (x0.length:Int) s6.2).bind fun r5=>
  (xC s6.1 [r5]).bind fun v6=>
  (rng (s6.2+1)).bind fun v7=>
  dJ (.inl (v6,v7))) (
  dJ (.inr s6.1))
def zPk(x0:dQ)(s5:(dR)×(List dR)×Int):Option ((dR×(List dR)×Int)⊕(dR×(List dR))):=
 cond (decide (s5.2.2<(x0.length:Int))) (
  (yV (x0.length:Int)).bind fun m2=>
  (xC s5.1 [J1 m2 (0:Int)]).bind fun v3=>
  (rng (s5.2.2+1)).bind fun v4=>
  (zH (zPj x0) ([],v4)).bind fun r8=>
  (xC s5.2.1 [r8]).bind fun v9=>
  (rng (s5.2.2+1)).bind fun v10=>
  dJ (.inl (v3,v9,v10))) (
  dJ (.inr (s5.1,s5.2.1)))
def f_F(x0:dQ):Option SPr:=
 (f_z x0).bind fun r1=>
 (zH (zPk x0) ([],[],0)).bind fun r11=>
 dJ (SPr.mk r1 r11.1 r11.2)
def zME(x0:SPr)(x2:dR)(s1:(dR)×Int×Int):Option ((dR×Int×Int)⊕(dR×Int)):=
 cond (decide (s1.2.2<(x0.zU.length:Int))) (
  (ixO x0.zU s1.2.2).bind fun v5=>
  (ixO x2 s1.2.1).bind fun v6=>
  (f_u [v5,v6]).bind fun r7=>
  (ixO s1.1 s1.2.2).bind fun _=>
  (rng (s1.2.1+1)).bind fun v9=>
  (rng (s1.2.2+1)).bind fun v10=>
  dJ (.inl (s1.1.set s1.2.2.toNat r7,v9,v10))) (
  dJ (.inr (s1.1,s1.2.1)))
def zMF(x2:dR)(s11:(List dR)×Int×Int)(v12:dR)(s12:(List dR)×Int×Int):Option (((List dR)×Int×Int)⊕((List dR)×Int)):=
 cond (decide (s12.2.2<(v12.length:Int))) (
  (ixO v12 s12.2.2).bind fun v13=>
  (ixO s12.1 s11.2.2).bind fun v14=>
  (ixO x2 s12.2.1).bind fun v15=>
  (f_u [v13,v15]).bind fun r16=>
  (ixO v14 s12.2.2).bind fun _=>
  (rng (s12.2.1+1)).bind fun v18=>
  (rng (s12.2.2+1)).bind fun v19=>
  dJ (.inl (s12.1.set s11.2.2.toNat (v14.set s12.2.2.toNat r16),v18,v19))) (
  dJ (.inr (s12.1,s12.2.1)))
def zMG(x0:SPr)(s11:(List dR)×Int×Int)(v21:dR)(s14:(List dR)×Int):Option (((List dR)×Int)⊕(List dR)):=
 cond (decide (s14.2<(v21.length:Int))) (
  (ixO v21 s14.2).bind fun v22=>
  (ixO s14.1 s11.2.2).bind fun v23=>
  (rng ((x0.zA.length:Int)-1)).bind fun v24=>
  (rng (v24-s11.2.2)).bind fun v25=>
  (rng (v25+s14.2)).bind fun v26=>
  (zSq v22 (x0.zA.length:Int) 0).bind fun r27=>
  (ixO v23 v26).bind fun _=>
  (rng (s14.2+1)).bind fun v29=>
  dJ (.inl (s14.1.set s11.2.2.toNat (v23.set v26.toNat r27),v29))) (
  dJ (.inr s14.1))
def zMH(x0:SPr)(x1:zC)(x2:dR)(s11:(List dR)×Int×Int):Option (((List dR)×Int×Int)⊕(List dR)):=
 cond (decide (s11.2.2<(x0.zA.length:Int))) (
  (ixO x0.zD s11.2.2).bind fun v12=>
  (zH (zMF x2 s11 v12) (s11.1,s11.2.1,0)).bind fun r20=>
  (ixO x1.zI s11.2.2).bind fun v21=>
  (zH (zMG x0 s11 v21) (r20.1,0)).bind fun r30=>
  (rng (s11.2.2+1)).bind fun v31=>
  dJ (.inl (r30,r20.2,v31))) (
  dJ (.inr s11.1))
def f_j(x0:SPr)(x1:zC)(x2:dR):Option SPr:=
 (f_z x0.zA).bind fun r1=>
 (f_w [x1.Prime] x1.Dim).bind fun r2=>
 (xC r1 r2).bind fun v3=>
 (f_F v3).bind fun r4=>
 (zH (zME x0 x2) (r4.zU,0,0)).bind fun r11=>
 (zH (zMH x0 x1 x2) (r4.zD,r11.2,0)).bind fun r32=>
 dJ (SPr.mk r4.zA r11.1 r32)
def zMI(x0:SPr)(x1:zC)(x2:dR):Option (SPr×Int):=
 (f_j x0 x1 x2).bind fun r1=>
 (f_p r1).bind fun r2=>
 cond (!r2) (
  dJ ((SPr.mk [] [] []),3)) (
  dJ (r1,0))
def zS5(x0:SPr)(x1:Int):Option Int:=
 (f_Z x0.zA x1).bind fun r1=>
 cond (decide (r1<0)) (
  dJ (-1)) (
  (zPb x0.zU r1).bind fun r2=>
  cond (decide (r2<0)) (
   dJ (-1)) (
   (zW1 x0.zD r2).bind fun r3=>
   cond (decide (r3<0)) (
    dJ (-1)) (
    dJ r3)))
def zLg(x0:zC)(x1:dR)(s1:Int):Option (Int⊕(Unit⊕Bool)):=
 cond (decide (s1<(x1.length:Int))) (
  (ixO x1 s1).bind fun v1=>
  (zRA x0.Prime x0.Dim v1).bind fun r2=>
  cond (!r2) (
   dJ (.inr (.inr dM))) (
   (rng (s1+1)).bind fun v3=>
   dJ (.inl v3))) (
  dJ (.inr (.inl ())))
def zW2(x0:zC)(x1:dR):Option Bool:=
 (zH (zLg x0 x1) 0).bind fun r4=>
 match r4 with
 |(.inl r4)=>
  dJ dL
 |(.inr r4)=>
  dJ r4
def zLh(x0:zC)(x1:dR)(x2:dQ)(x3:Int):Option dQ:=
 (ixO x0.zI x3).bind fun v1=>
 (f_E x0.Prime x2 v1 x0.Dim).bind fun r2=>
 (ixO x1 x3).bind fun v3=>
 (f_s x0.Prime r2 1 v3).bind fun r4=>
 dJ r4
def zS6(x0:zC)(x1:dR)(x3:dQ)(s5:(dQ)×Int)(s6:(dQ)×Int):Option ((dQ×Int)⊕dQ):=
 (ixO x3 s5.2).bind fun v1=>
 cond (decide (s6.2<v1)) (
  (zLh x0 x1 s6.1 s5.2).bind fun r2=>
  (rng (s6.2+1)).bind fun v3=>
  dJ (.inl (r2,v3))) (
  dJ (.inr s6.1))
def zS7(x0:zC)(x1:dR)(x3:dQ)(s5:(dQ)×Int):Option ((dQ×Int)⊕dQ):=
 cond (decide (s5.2<(x3.length:Int))) (
  (zH (zS6 x0 x1 x3 s5) (s5.1,0)).bind fun r4=>
  (rng (s5.2+1)).bind fun v5=>
  dJ (.inl (r4,v5))) (
  dJ (.inr s5.1))
def f_L(x0:zC)(x1:dR)(x2:dQ)(x3:dQ):Option dQ:=
 (zH (zS7 x0 x1 x3) (x2,0)).bind fun r6=>
 dJ r6
def zVh(x0:dQ)(s1:Int):Option (Int⊕(Unit⊕Bool)):=
 cond (decide (s1<(x0.length:Int))) (
  (ixO x0 s1).bind fun v1=>
  cond (v1 != 0) (
   dJ (.inr (.inr dM))) (
   (rng (s1+1)).bind fun v2=>
   dJ (.inl v2))) (
  dJ (.inr (.inl ())))
def zS8(x0:dQ):Option Bool:=
 (zH (zVh x0) 0).bind fun r3=>
 match r3 with
 |(.inl r3)=>
  dJ dL
 |(.inr r3)=>
  dJ r3
def zOd(x0:zC)(x1:dR)(s1:Int):Option (Int⊕(Unit⊕Bool)):=
 cond (decide (s1<(x1.length:Int))) (
  (ixO x1 s1).bind fun v1=>
  (zSb v1 x0.Prime x0.Dim).bind fun r2=>
  cond (!r2) (
   dJ (.inr (.inr dM))) (
   (rng (s1+1)).bind fun v3=>
   dJ (.inl v3))) (
  dJ (.inr (.inl ())))
def zW3(x0:zC)(x1:dR):Option Bool:=
 (zH (zOd x0 x1) 0).bind fun r4=>
 match r4 with
 |(.inl r4)=>
  dJ dL
 |(.inr r4)=>
  dJ r4
def zLi(x0:zC)(x1:dR)(x2:dQ)(s1:(dQ)×Int):Option ((dQ×Int)⊕dQ):=
 cond (decide (s1.2<(x2.length:Int))) (
  (ixO x2 s1.2).bind fun v2=>
  (rng (v2-1)).bind fun v3=>
  (zM8 x0 v3).bind fun r4=>
  (zSi s1.1 r4).bind fun r5=>
  (rng (v2-1)).bind fun v6=>
  (ixO x1 v6).bind fun v7=>
  (f_v r5 v7 1 x0.Prime).bind fun r8=>
  (rng (s1.2+1)).bind fun v9=>
  dJ (.inl (r8,v9))) (
  dJ (.inr s1.1))
def zS9(x0:zC)(x1:dR)(x2:dQ):Option dQ:=
 (yV x0.Dim).bind fun m1=>
 (zH (zLi x0 x1 x2) (J1 m1 (0:Int),0)).bind fun r10=>
 dJ r10
def zLj(x1:zC)(x2:dR)(r1:(List (dQ×dQ)))(s1:(dR)×Int):Option ((dR×Int)⊕dR):=
 cond (decide (s1.2<(r1.length:Int))) (
  (ixO r1 s1.2).bind fun v2=>
  (zS9 x1 x2 v2.1).bind fun r3=>
  (zS9 x1 x2 v2.2).bind fun r4=>
  (f_v r3 r4 (-1) x1.Prime).bind fun r5=>
  (xC s1.1 [r5]).bind fun v6=>
  (rng (s1.2+1)).bind fun v7=>
  dJ (.inl (v6,v7))) (
  dJ (.inr s1.1))
def zUg(x0:SPr)(x1:zC)(x2:dR):Option dR:=
 (f_x x0).bind fun r1=>
 (zH (zLj x1 x2 r1) ([],0)).bind fun r8=>
 dJ r8
def zSA(x0:SPr)(x1:zC)(x2:dR):Option Bool:=
 (zUd x0).bind fun r1=>
 cond ((x2.length:Int)==r1) (
  (zW2 x1 x2).bind fun r2=>
  dJ r2) (
  dJ dM)
def zLk(x0:zP):Option zG:=
 cond (decide ((x0.zLu.length:Int)> 0)) (
  (ixO x0.zLu 0).bind fun v1=>
  (yV (x0.p.zA.length:Int)).bind fun m2=>
  (yV (v1.length:Int)).bind fun m3=>
  dJ (zG.mk (J1 m2 (0:Int)) (J1 m3 (0:Int)))) (
  (yV (x0.p.zA.length:Int)).bind fun m4=>
  (yV 0).bind fun m5=>
  dJ (zG.mk (J1 m4 (0:Int)) (J1 m5 (0:Int))))
def f_Y(x0:zP)(x1:Int)(x2:Int):Option zG:=
 (ixO x0.p.zD x1).bind fun v1=>
 (rng (x2-x1)).bind fun v2=>
 (rng (v2-1)).bind fun v3=>
 (ixO v1 v3).bind fun v4=>
 (zUe (x0.p.zA.length:Int) x1 x2).bind fun r5=>
 (ixO x0.zLu r5).bind fun v6=>
 dJ (zG.mk v4 v6)
def zIv(x0:zC)(x1:dQ)(x2:Int)(s1:(dQ)×Int):Option ((dQ×Int)⊕dQ):=
 cond (decide (s1.2<(x1.length:Int))) (
  (rng (s1.2+x0.Dim)).bind fun v1=>
  (zW x1 s1.2 v1).bind fun v2=>
  (ixO x0.zI x2).bind fun v3=>
  (f_E x0.Prime v2 v3 x0.Dim).bind fun r4=>
  (xC s1.1 r4).bind fun v5=>
  (rng (s1.2+x0.Dim)).bind fun v6=>
  dJ (.inl (v5,v6))) (
  dJ (.inr s1.1))
def zUh(x0:zC)(x1:dQ)(x2:Int):Option dQ:=
 (zH (zIv x0 x1 x2) ([],0)).bind fun r7=>
 dJ r7
def zMJ(x0:zP)(x1:Int):Option zG:=
 (ixO x0.p.zU x1).bind fun v1=>
 (ixO x0.zLu x1).bind fun v2=>
 dJ (zG.mk v1 v2)
def zUi(g_d:zP→Int→zG→zG→Option zG)(x0:zP)(x1:Int)(x2:zG)(s5:(dQ)×dQ×Int)(s6:(dQ)×dQ×Int):Option ((dQ×dQ×Int)⊕(dQ×dQ)):=
 (ixO x2.x s5.2.2).bind fun v3=>
 cond (decide (s6.2.2<v3)) (
  (rng (x1+1)).bind fun v4=>
  (f_Y x0 x1 s5.2.2).bind fun r5=>
  (g_d x0 v4 (zG.mk s6.1 s6.2.1) r5).bind fun r6=>
  (rng (s6.2.2+1)).bind fun v7=>
  dJ (.inl (r6.x,r6.v,v7))) (
  dJ (.inr (s6.1,s6.2.1)))
def zSB(g_d:zP→Int→zG→zG→Option zG)(x0:zP)(x1:Int)(x2:zG)(s5:(dQ)×dQ×Int):Option ((dQ×dQ×Int)⊕(dQ×dQ)):=
 cond (decide (s5.2.2<(x2.x.length:Int))) (
  (zH (zUi g_d x0 x1 x2 s5) (s5.1,s5.2.1,0)).bind fun r8=>
  (rng (s5.2.2+1)).bind fun v9=>
  dJ (.inl (r8.1,r8.2,v9))) (
  dJ (.inr (s5.1,s5.2.1)))
def b_f(g_d:zP→Int→zG→zG→Option zG)(x0:zP)(x1:Int)(x2:zG):Option zG:=
 (zLk x0).bind fun r1=>
 (rng (x1+1)).bind fun v2=>
 (zH (zSB g_d x0 x1 x2) (r1.x,r1.v,v2)).bind fun r10=>
 (zUh x0.m x2.v x1).bind fun r11=>
 (f_s x0.m.Prime r10.2 1 r11).bind fun r12=>
 dJ (zG.mk r10.1 r12)
def zPl(g_f:zP→Int→zG→Option zG)(x0:zP)(x1:Int)(x3:zG)(s1:(dQ)×dQ×Int):Option ((dQ×dQ×Int)⊕(dQ×dQ)):=
 (ixO x3.x x1).bind fun v7=>
 cond (decide (s1.2.2<v7)) (
  (g_f x0 x1 (zG.mk s1.1 s1.2.1)).bind fun r8=>
  (rng (s1.2.2+1)).bind fun v9=>
  dJ (.inl (r8.x,r8.v,v9))) (
  dJ (.inr (s1.1,s1.2.1)))
def b_d(g_f:zP→Int→zG→Option zG)(g_d:zP→Int→zG→zG→Option zG)(x0:zP)(x1:Int)(x2:zG)(x3:zG):Option zG:=
 cond (decide (x1≥(x0.p.zA.length:Int))) (
  (yV (x0.p.zA.length:Int)).bind fun m1=>
  (f_s x0.m.Prime x2.v 1 x3.v).bind fun r2=>
  dJ (zG.mk (J1 m1 (0:Int)) r2)) (
  (f_n x2.x).bind fun r3=>
  (f_n x3.x).bind fun r4=>
  (ixO r3 x1).bind fun _=>
  (ixO r4 x1).bind fun _=>
  (zH (zPl g_f x0 x1 x3) (r3.set x1.toNat 0,x2.v,0)).bind fun r10=>
  (rng (x1+1)).bind fun v11=>
  (g_d x0 v11 (zG.mk r10.1 r10.2) (zG.mk (r4.set x1.toNat 0) x3.v)).bind fun r12=>
  (ixO x2.x x1).bind fun v13=>
  (ixO x3.x x1).bind fun v14=>
  (rng (v13+v14)).bind fun v15=>
  (ixO x0.p.zA x1).bind fun v16=>
  cond (decide (v15≥v16)) (
   (ixO x0.p.zA x1).bind fun v17=>
   (rng (v15-v17)).bind fun v18=>
   (rng (x1+1)).bind fun v19=>
   (zMJ x0 x1).bind fun r20=>
   (g_d x0 v19 r20 r12).bind fun r21=>
   (f_n r21.x).bind fun r22=>
   (ixO r22 x1).bind fun _=>
   dJ (zG.mk (r22.set x1.toNat v18) r21.v)) (
   (f_n r12.x).bind fun r24=>
   (ixO r24 x1).bind fun _=>
   dJ (zG.mk (r24.set x1.toNat v15) r12.v)))
mutual
def zMK:Nat→zP→Int→zG→Option zG
 |0=>fun _ _ _=>dK
 |n+1=>b_f (zML n)
def zML:Nat→zP→Int→zG→zG→Option zG
 |0=>fun _ _ _ _=>dK
 |n+1=>b_d (zMK n) (zML n)
end
def f_f(x0:zP)(x1:Int)(x2:zG):Option zG:=zC9 fun n=>zMK n x0 x1 x2
def f_d(x0:zP)(x1:Int)(x2:zG)(x3:zG):Option zG:=zC9 fun n=>zML n x0 x1 x2 x3
def zLl(x0:zP)(x1:zG)(x2:zG):Option dQ:=
 (rng (x0.m.Prime-1)).bind fun v1=>
 (f_s x0.m.Prime x1.v v1 x2.v).bind fun r2=>
 dJ r2
def zPm(x0:zP)(x1:Int)(s9:(dR)×Int)(s10:(dQ)×dQ×Int):Option ((dQ×dQ×Int)⊕(dQ×dQ)):=
 (ixO x0.p.zA s9.2).bind fun v3=>
 cond (decide (s10.2.2<v3)) (
  (rng (x1+1)).bind fun v4=>
  (f_Y x0 x1 s9.2).bind fun r5=>
  (f_d x0 v4 (zG.mk s10.1 s10.2.1) r5).bind fun r6=>
  (rng (s10.2.2+1)).bind fun v7=>
  dJ (.inl (r6.x,r6.v,v7))) (
  dJ (.inr (s10.1,s10.2.1)))
def zPn(x0:zP)(x1:Int)(s9:(dR)×Int)(s12:(dR)×Int):Option ((dR×Int)⊕dR):=
 cond (decide (s12.2<(x0.p.zA.length:Int))) (
  (f_Y x0 x1 s9.2).bind fun r14=>
  (f_Y x0 x1 s12.2).bind fun r15=>
  (f_Y x0 s9.2 s12.2).bind fun r16=>
  (f_f x0 x1 r16).bind fun r17=>
  (rng (x1+1)).bind fun v18=>
  (f_d x0 v18 r15 r14).bind fun r19=>
  (rng (x1+1)).bind fun v20=>
  (f_d x0 v20 r14 r17).bind fun r21=>
  (zLl x0 r19 r21).bind fun r22=>
  (xC s12.1 [r22]).bind fun v23=>
  (rng (s12.2+1)).bind fun v24=>
  dJ (.inl (v23,v24))) (
  dJ (.inr s12.1))
def zSC(x0:zP)(x1:Int)(s9:(dR)×Int):Option ((dR×Int)⊕dR):=
 cond (decide (s9.2<(x0.p.zA.length:Int))) (
  (zLk x0).bind fun r2=>
  (zH (zPm x0 x1 s9) (r2.x,r2.v,0)).bind fun r8=>
  (zMJ x0 s9.2).bind fun r9=>
  (f_f x0 x1 r9).bind fun r10=>
  (zLl x0 (zG.mk r8.1 r8.2) r10).bind fun r11=>
  (xC s9.1 [r11]).bind fun v12=>
  (rng (s9.2+1)).bind fun v13=>
  (zH (zPn x0 x1 s9) (v12,v13)).bind fun r25=>
  (rng (s9.2+1)).bind fun v26=>
  dJ (.inl (r25,v26))) (
  dJ (.inr s9.1))
def zSD(x0:zP)(x1:Int)(s20:(dQ)×dQ×Int):Option ((dQ×dQ×Int)⊕(dQ×dQ)):=
 (ixO x0.p.zA x1).bind fun v35=>
 cond (decide (s20.2.2<v35)) (
  (f_f x0 x1 (zG.mk s20.1 s20.2.1)).bind fun r36=>
  (rng (s20.2.2+1)).bind fun v37=>
  dJ (.inl (r36.x,r36.v,v37))) (
  dJ (.inr (s20.1,s20.2.1)))
def zPo(x0:zP)(x1:Int)(r28:zG)(s19:(dR)×Int):Option ((dR×Int)⊕dR):=
 cond (decide (s19.2<(x0.p.zA.length:Int))) (
  (zLk x0).bind fun r33=>
  (ixO r33.x s19.2).bind fun _=>
  (zH (zSD x0 x1) (r33.x.set s19.2.toNat 1,r33.v,0)).bind fun r38=>
  (rng (x1+1)).bind fun v39=>
  (f_d x0 v39 r28 (zG.mk r38.1 r38.2)).bind fun r40=>
  (rng (x1+1)).bind fun v41=>
  (f_d x0 v41 (zG.mk (r33.x.set s19.2.toNat 1) r33.v) r28).bind fun r42=>
  (zLl x0 r40 r42).bind fun r43=>
  (xC s19.1 [r43]).bind fun v44=>
  (rng (s19.2+1)).bind fun v45=>
  dJ (.inl (v44,v45))) (
  dJ (.inr s19.1))
def f_i(x0:zP)(x1:Int):Option dR:=
 (rng (x1+1)).bind fun v1=>
 (zH (zSC x0 x1) ([],v1)).bind fun r27=>
 (zMJ x0 x1).bind fun r28=>
 (f_f x0 x1 r28).bind fun r29=>
 (zLl x0 r29 r28).bind fun r30=>
 (xC r27 [r30]).bind fun v31=>
 (rng (x1+1)).bind fun v32=>
 (zH (zPo x0 x1 r28) (v31,v32)).bind fun r46=>
 dJ r46
def zLm(x0:zP)(s1:(dR)×Int):Option ((dR×Int)⊕dR):=
 cond (decide (s1.2<(x0.p.zA.length:Int))) (
  (f_i x0 s1.2).bind fun r1=>
  (xC s1.1 r1).bind fun v2=>
  (rng (s1.2+1)).bind fun v3=>
  dJ (.inl (v2,v3))) (
  dJ (.inr s1.1))
def zUj(x0:zP):Option dR:=
 (zH (zLm x0) ([],0)).bind fun r4=>
 dJ r4
def zLn(r1:(dR))(s1:Int):Option (Int⊕(Unit⊕Bool)):=
 cond (decide (s1<(r1.length:Int))) (
  (ixO r1 s1).bind fun v2=>
  (zS8 v2).bind fun r3=>
  cond (!r3) (
   dJ (.inr (.inr dM))) (
   (rng (s1+1)).bind fun v4=>
   dJ (.inl v4))) (
  dJ (.inr (.inl ())))
def zSE(x0:SPr)(x1:zC)(x2:dR):Option Bool:=
 (zUj (zP.mk x0 x1 x2)).bind fun r1=>
 (zH (zLn r1) 0).bind fun r5=>
 match r5 with
 |(.inl r5)=>
  dJ dL
 |(.inr r5)=>
  dJ r5
def zUk(x0:SPr)(x1:zC)(x2:dR):Option Bool:=
 (zUf x0).bind fun r1=>
 cond ((x2.length:Int)==r1) (
  (zW3 x1 x2).bind fun r2=>
  dJ r2) (
  dJ dM)
def zUl(x0:SPr)(x1:zC)(x2:dR):Option Bool:=
 (f_j x0 x1 x2).bind fun r1=>
 (f_P r1).bind fun r2=>
 dJ (r2==0)
def zUm(x0:Int):Option Bool:=
 dJ (x0 != 0)
def zIw(x0:dQ)(s1:Int):Option (Int⊕(Unit⊕Int)):=
 cond (decide (s1<(x0.length:Int))) (
  (ixO x0 s1).bind fun v1=>
  (zUm v1).bind fun r2=>
  cond r2 (
   dJ (.inr (.inr s1))) (
   (rng (s1+1)).bind fun v3=>
   dJ (.inl v3))) (
  dJ (.inr (.inl ())))
def zUn(x0:dQ):Option Int:=
 (zH (zIw x0) 0).bind fun r4=>
 match r4 with
 |(.inl r4)=>
  dJ (-1)
 |(.inr r4)=>
  dJ r4
def zLo(x0:dR)(s1:(dQ)×Int):Option ((dQ×Int)⊕dQ):=
 cond (decide (s1.2<(x0.length:Int))) (
  (ixO x0 s1.2).bind fun v1=>
  (zUn v1).bind fun r2=>
  (xC s1.1 [r2]).bind fun v3=>
  (rng (s1.2+1)).bind fun v4=>
  dJ (.inl (v3,v4))) (
  dJ (.inr s1.1))
def zUo(x0:dR):Option dQ:=
 (zH (zLo x0) ([],0)).bind fun r5=>
 dJ r5
def zIx(x0:zV)(r2:(dQ))(s1:(dQ)×Int):Option ((dQ×Int)⊕dQ):=
 cond (decide (s1.2<(r2.length:Int))) (
  (ixO r2 s1.2).bind fun v3=>
  (ixO x0.Rows s1.2).bind fun v4=>
  (ixO s1.1 v3).bind fun v5=>
  (rng (0-v5)).bind fun v6=>
  (f_v s1.1 v4 v6 x0.Prime).bind fun r7=>
  (rng (s1.2+1)).bind fun v8=>
  dJ (.inl (r7,v8))) (
  dJ (.inr s1.1))
def zUp(x0:zV)(x1:dQ):Option dQ:=
 (f_z x1).bind fun r1=>
 (zUo x0.Rows).bind fun r2=>
 (zH (zIx x0 r2) (r1,0)).bind fun r9=>
 dJ r9
def zSF(x0:dR)(s1:(dQ)×Int):Option ((dQ×Int)⊕dQ):=
 cond (decide (s1.2<(x0.length:Int))) (
  (ixO x0 s1.2).bind fun v1=>
  (xC s1.1 v1).bind fun v2=>
  (rng (s1.2+1)).bind fun v3=>
  dJ (.inl (v2,v3))) (
  dJ (.inr s1.1))
def f_W(x0:dR):Option dQ:=
 (zH (zSF x0) ([],0)).bind fun r4=>
 dJ r4
def zIy(x2:Int)(r2:(dR))(s1:(dR)×Int):Option ((dR×Int)⊕dR):=
 cond (decide (s1.2<(r2.length:Int))) (
  (ixO r2 s1.2).bind fun v3=>
  (zW v3 0 x2).bind fun v4=>
  (f_D v4).bind fun r5=>
  cond r5 (
   (zW v3 x2 v3.length).bind fun v6=>
   (xC s1.1 [v6]).bind fun v7=>
   (rng (s1.2+1)).bind fun v8=>
   dJ (.inl (v7,v8))) (
   (rng (s1.2+1)).bind fun v9=>
   dJ (.inl (s1.1,v9)))) (
  dJ (.inr s1.1))
def zUq(x0:Int)(x1:dR)(x2:Int):Option dR:=
 (zSz x1).bind fun r1=>
 (f_g x0 r1).bind fun r2=>
 (zH (zIy x2 r2) ([],0)).bind fun r10=>
 (f_g x0 r10).bind fun r11=>
 dJ r11
def zSG(x0:dQ)(x1:Int)(s1:(dR)×Int):Option ((dR×Int)⊕dR):=
 (rng (s1.2+x1)).bind fun v1=>
 cond (decide (v1≤(x0.length:Int))) (
  (rng (s1.2+x1)).bind fun v2=>
  (zW x0 s1.2 v2).bind fun v3=>
  (f_n v3).bind fun r4=>
  (xC s1.1 [r4]).bind fun v5=>
  (rng (s1.2+x1)).bind fun v6=>
  dJ (.inl (v5,v6))) (
  dJ (.inr s1.1))
def f_X(x0:dQ)(x1:Int):Option dR:=
 (zH (zSG x0 x1) ([],0)).bind fun r7=>
 dJ r7
def zSH(x0:SPr)(x1:zC)(x2:dR)(s5:(dR)×Int)(s6:(dQ)×Int):Option ((dQ×Int)⊕dQ):=
 (ixO x0.zA s5.2).bind fun v2=>
 cond (decide (s6.2<v2)) (
  (zLh x1 x2 s6.1 s5.2).bind fun r3=>
  (rng (s6.2+1)).bind fun v4=>
  dJ (.inl (r3,v4))) (
  dJ (.inr s6.1))
def zSI(x0:SPr)(x1:zC)(x2:dR)(m1:Nat)(s5:(dR)×Int):Option ((dR×Int)⊕dR):=
 cond (decide (s5.2<(x0.zA.length:Int))) (
  (zH (zSH x0 x1 x2 s5) (J1 m1 (0:Int),0)).bind fun r5=>
  (rng (x1.Prime-1)).bind fun v6=>
  (ixO x0.zU s5.2).bind fun v7=>
  (f_L x1 x2 (J1 m1 (0:Int)) v7).bind fun r8=>
  (f_s x1.Prime r5 v6 r8).bind fun r9=>
  (xC s5.1 [r9]).bind fun v10=>
  (rng (s5.2+1)).bind fun v11=>
  dJ (.inl (v10,v11))) (
  dJ (.inr s5.1))
def zSJ(x0:SPr)(x1:zC)(x2:dR)(m1:Nat)(s13:(dR)×Int)(s14:(dR)×Int):Option ((dR×Int)⊕dR):=
 cond (decide (s14.2<(x0.zA.length:Int))) (
  (zLh x1 x2 (J1 m1 (0:Int)) s14.2).bind fun r14=>
  (zLh x1 x2 r14 s13.2).bind fun r15=>
  (zLh x1 x2 (J1 m1 (0:Int)) s13.2).bind fun r16=>
  (ixO x0.zD s13.2).bind fun v17=>
  (rng (s14.2-s13.2)).bind fun v18=>
  (rng (v18-1)).bind fun v19=>
  (ixO v17 v19).bind fun v20=>
  (f_L x1 x2 r16 v20).bind fun r21=>
  (rng (x1.Prime-1)).bind fun v22=>
  (f_s x1.Prime r15 v22 r21).bind fun r23=>
  (xC s14.1 [r23]).bind fun v24=>
  (rng (s14.2+1)).bind fun v25=>
  dJ (.inl (v24,v25))) (
  dJ (.inr s14.1))
def zSK(x0:SPr)(x1:zC)(x2:dR)(m1:Nat)(s13:(dR)×Int):Option ((dR×Int)⊕dR):=
 cond (decide (s13.2<(x0.zA.length:Int))) (
  (rng (s13.2+1)).bind fun v13=>
  (zH (zSJ x0 x1 x2 m1 s13) (s13.1,v13)).bind fun r26=>
  (rng (s13.2+1)).bind fun v27=>
  dJ (.inl (r26,v27))) (
  dJ (.inr s13.1))
def f_o(x0:SPr)(x1:zC)(x2:dR):Option dR:=
 (yV x1.Dim).bind fun m1=>
 (zH (zSI x0 x1 x2 m1) ([],0)).bind fun r12=>
 (zH (zSK x0 x1 x2 m1) (r12,0)).bind fun r28=>
 dJ r28
def zLp(x0:SPr)(x1:zC)(v1:Int)(s1:(dR)×Int):Option ((dR×Int)⊕dR):=
 cond (decide (s1.2<v1)) (
  (yV v1).bind fun m2=>
  (ixO (J1 m2 (0:Int)) s1.2).bind fun _=>
  (f_X ((J1 m2 (0:Int)).set s1.2.toNat 1) x1.Dim).bind fun r4=>
  (f_o x0 x1 r4).bind fun r5=>
  (f_W r5).bind fun r6=>
  (xC s1.1 [r6]).bind fun v7=>
  (rng (s1.2+1)).bind fun v8=>
  dJ (.inl (v7,v8))) (
  dJ (.inr s1.1))
def zUr(x0:SPr)(x1:zC):Option dR:=
 (rng ((x0.zA.length:Int)*x1.Dim)).bind fun v1=>
 (zH (zLp x0 x1 v1) ([],0)).bind fun r9=>
 dJ r9
def zLq(x0:SPr)(x1:zC)(v1:Int)(s1:(dR)×Int):Option ((dR×Int)⊕dR):=
 cond (decide (s1.2<v1)) (
  (zGZ v1 s1.2).bind fun r2=>
  (zPi r2 x1.Dim).bind fun r3=>
  (zUg x0 x1 r3).bind fun r4=>
  (f_u r4).bind fun r5=>
  (xC s1.1 [r5]).bind fun v6=>
  (rng (s1.2+1)).bind fun v7=>
  dJ (.inl (v6,v7))) (
  dJ (.inr s1.1))
def zUs(x0:SPr)(x1:zC):Option dR:=
 (rng ((x0.zA.length:Int)*x1.Dim)).bind fun v1=>
 (zH (zLq x0 x1 v1) ([],0)).bind fun r8=>
 dJ r8
def zUt(x0:SPr)(x1:zC)(x2:dR)(x3:dR):Option Int:=
 (zTP x0 x1).bind fun r1=>
 cond (!r1) (
  dJ 1) (
  (zSA x0 x1 x2).bind fun r2=>
  cond (!r2) (
   dJ 1) (
   (zSA x0 x1 x3).bind fun r3=>
   cond (!r3) (
    dJ 1) (
    (zSE x0 x1 x2).bind fun r4=>
    cond (!r4) (
     dJ 5) (
     (zSE x0 x1 x3).bind fun r5=>
     cond (!r5) (
      dJ 5) (
      dJ 0)))))
def zSL(x0:SPr)(x1:zC)(x2:List dR)(s1:Int):Option (Int⊕(Unit⊕Int)):=
 cond (decide (s1<(x2.length:Int))) (
  (ixO x2 s1).bind fun v2=>
  (zUk x0 x1 v2).bind fun r3=>
  cond (!r3) (
   dJ (.inr (.inr 1))) (
   (rng (s1+1)).bind fun v4=>
   dJ (.inl v4))) (
  dJ (.inr (.inl ())))
def zSM(x0:SPr)(x1:zC)(x2:List dR)(s3:Int):Option (Int⊕(Unit⊕Int)):=
 cond (decide (s3<(x2.length:Int))) (
  (ixO x2 s3).bind fun v6=>
  (zUl x0 x1 v6).bind fun r7=>
  cond (!r7) (
   dJ (.inr (.inr 5))) (
   (rng (s3+1)).bind fun v8=>
   dJ (.inl v8))) (
  dJ (.inr (.inl ())))
def f_M(x0:SPr)(x1:zC)(x2:List dR):Option Int:=
 (f_C x0 x1).bind fun r1=>
 cond (!r1) (
  dJ 1) (
  (zH (zSL x0 x1 x2) 0).bind fun r5=>
  match r5 with
  |(.inl r5)=>
   (zH (zSM x0 x1 x2) 0).bind fun r9=>
   match r9 with
   |(.inl r9)=>
    dJ 0
   |(.inr r9)=>
    dJ r9
  |(.inr r5)=>
   dJ r5)
def zPp(x2:Int)(r1:(dR))(s1:(dR)×Int):Option ((dR×Int)⊕dR):=
 cond (decide (s1.2<(r1.length:Int))) (
  (ixO r1 s1.2).bind fun v4=>
  (f_A v4).bind fun r5=>
  cond (decide (r5<x2)) (
   (ixO r1 s1.2).bind fun v6=>
   (xC s1.1 [v6]).bind fun v7=>
   (rng (s1.2+1)).bind fun v8=>
   dJ (.inl (v7,v8))) (
   (rng (s1.2+1)).bind fun v9=>
   dJ (.inl (s1.1,v9)))) (
  dJ (.inr s1.1))
def f_R(x0:Int)(x1:dR)(x2:Int)(x3:dQ):Option (dQ×Bool):=
 (zS3 x0 x1).bind fun r1=>
 (f_n x3).bind fun r2=>
 (wY r2 (x1.length:Int) (0:Int)).bind fun v3=>
 (zH (zPp x2 r1) ([],0)).bind fun r10=>
 (zPd x0 r10 v3).bind fun r11=>
 (zW r11 0 x2).bind fun v12=>
 (zS8 v12).bind fun r13=>
 cond (!r13) (
  dJ ([],dM)) (
  (rng (x0-1)).bind fun v14=>
  (zW r11 x2 r11.length).bind fun v15=>
  (zS2 x0 v14 v15).bind fun r16=>
  (zUc x0 x1 x2).bind fun r17=>
  (zPd x0 r17 r16).bind fun r18=>
  dJ (r18,dL))
def zW4(x0:Int)(x1:dR):Option zV:=
 (ixO x1 0).bind fun v1=>
 dJ (zV.mk x0 (v1.length:Int) x1)
def zUu(x0:Int):Option Bool:=
 dJ (x0 != 0)
def zLr(x0:dQ)(s1:Int):Option (Int⊕(Unit⊕Int)):=
 cond (decide (s1<(x0.length:Int))) (
  (ixO x0 s1).bind fun v1=>
  (zUu v1).bind fun r2=>
  cond r2 (
   dJ (.inr (.inr s1))) (
   (rng (s1+1)).bind fun v3=>
   dJ (.inl v3))) (
  dJ (.inr (.inl ())))
def zUv(x0:dQ):Option Int:=
 (zH (zLr x0) 0).bind fun r4=>
 match r4 with
 |(.inl r4)=>
  dJ (-1)
 |(.inr r4)=>
  dJ r4
def zW5(x0:zV):Option zV:=
 (zUq x0.Prime x0.Rows x0.xW).bind fun r1=>
 dJ (zV.mk x0.Prime (x0.Rows.length:Int) r1)
def zPq(x0:zV)(r4:(dR))(s1:(dQ)×Int):Option ((dQ×Int)⊕dQ):=
 cond (decide (s1.2<(r4.length:Int))) (
  (ixO r4 s1.2).bind fun v5=>
  (zUv v5).bind fun r6=>
  cond (decide (r6<x0.xW)) (
   (ixO s1.1 r6).bind fun v7=>
   (rng (0-v7)).bind fun v8=>
   (f_v s1.1 v5 v8 x0.Prime).bind fun r9=>
   (rng (s1.2+1)).bind fun v10=>
   dJ (.inl (r9,v10))) (
   (rng (s1.2+1)).bind fun v11=>
   dJ (.inl (s1.1,v11)))) (
  dJ (.inr s1.1))
def zPr(x0:zV)(r12:(dQ))(s3:(dQ)×Int):Option ((dQ×Int)⊕dQ):=
 cond (decide (s3.2<(((r12.length:Int).toNat-(x0.xW:Int).toNat:Nat):Int))) (
  (zW s3.1 x0.xW r12.length).bind fun v16=>
  (ixO v16 s3.2).bind fun v17=>
  (rng (0-v17)).bind fun v18=>
  (zHu v18 x0.Prime).bind fun r19=>
  (zW s3.1 x0.xW r12.length).bind fun v20=>
  (ixO v20 s3.2).bind fun _=>
  (rng (s3.2+1)).bind fun v22=>
  dJ (.inl (s3.1.set (x0.xW+s3.2).toNat r19,v22))) (
  dJ (.inr s3.1))
def f_y(x0:zV)(x1:dQ):Option (dQ×Bool):=
 (f_z x1).bind fun r1=>
 (wY r1 (x0.Rows.length:Int) (0:Int)).bind fun v2=>
 (zSz x0.Rows).bind fun r3=>
 (f_g x0.Prime r3).bind fun r4=>
 (zH (zPq x0 r4) (v2,0)).bind fun r12=>
 (zW r12 0 x0.xW).bind fun v13=>
 (f_D v13).bind fun r14=>
 cond (!r14) (
  dJ ([],dM)) (
  (zW r12 x0.xW r12.length).bind fun _=>
  (zH (zPr x0 r12) (r12,0)).bind fun r23=>
  (zW5 x0).bind fun r24=>
  (zW r23 x0.xW r12.length).bind fun v25=>
  (zUp r24 v25).bind fun r26=>
  dJ (r26,dL))
def zW6(x0:zC)(x1:dR)(x2:dR):Option dQ:=
 (f_u x1).bind fun r1=>
 (f_u x2).bind fun r2=>
 (f_v r1 r2 (-1) x0.Prime).bind fun r3=>
 dJ r3
def zUw(x0:SPr)(x1:zC)(x2:dQ):Option (dR×Bool):=
 cond ((x0.zA.length:Int)==0) (
  dJ ([],dL)) (
  (yV (x2.length:Int)).bind fun m1=>
  (f_v (J1 m1 (0:Int)) x2 (-1) x1.Prime).bind fun r2=>
  (zUs x0 x1).bind fun r3=>
  (zW4 x1.Prime r3).bind fun r4=>
  (f_y r4 r2).bind fun r5=>
  cond (!r5.2) (
   dJ ([],dM)) (
   (zPi r5.1 x1.Dim).bind fun r6=>
   dJ (r6,dL)))
def zW7(x0:SPr)(x1:zC)(x2:dR)(x3:dR):Option (dR×Bool):=
 (f_W x2).bind fun r1=>
 (rng (x1.Prime-1)).bind fun v2=>
 (f_W x3).bind fun r3=>
 (f_s x1.Prime r1 v2 r3).bind fun r4=>
 (zUr x0 x1).bind fun r5=>
 (f_R x1.Prime r5 (r4.length:Int) r4).bind fun r6=>
 cond (!r6.2) (
  dJ ([],dM)) (
  (f_X r6.1 x1.Dim).bind fun r7=>
  dJ (r7,dL))
structure tH where
 jC:SPr
 kD:SPr
 qK:dR
abbrev tD(x:tH):T:=.agg [yU x.jC,yU x.kD,(L 1 (L 1 I)) x.qK]
instance:Enc tD:=.of fun _=>zOo ⟨Enc.t (f:=yU) inferInstance _,Enc.t (f:=yU) inferInstance _,Enc.t (f:=(L 1 (L 1 I))) inferInstance _,trivial⟩
def zLs(x0:SPr)(x2:dR)(s1:(dR)×Int):Option ((dR×Int)⊕dR):=
 cond (decide (s1.2<(x2.length:Int))) (
  (zJp (x0.zA.length:Int) s1.2).bind fun r1=>
  (ixO x2 s1.2).bind fun v2=>
  (xC r1 v2).bind fun v3=>
  (xC s1.1 [v3]).bind fun v4=>
  (rng (s1.2+1)).bind fun v5=>
  dJ (.inl (v4,v5))) (
  dJ (.inr s1.1))
def zUx(x0:SPr)(x1:zC)(x2:dR):Option dR:=
 (zH (zLs x0 x2) ([],0)).bind fun r6=>
 dJ r6
def zPs(r2:SPr×Int)(s1:(dR)×Int):Option ((dR×Int)⊕dR):=
 cond (decide (s1.2<(r2.1.zA.length:Int))) (
  (zJp (r2.1.zA.length:Int) s1.2).bind fun r6=>
  (xC s1.1 [r6]).bind fun v7=>
  (rng (s1.2+1)).bind fun v8=>
  dJ (.inl (v7,v8))) (
  dJ (.inr s1.1))
def f_O(x0:SPr)(x1:zC)(x2:dR)(x3:dR):Option (tH×Int):=
 (zUt x0 x1 x2 x3).bind fun r1=>
 cond (r1 != 0) (
  dJ ((tH.mk (SPr.mk [] [] []) (SPr.mk [] [] []) []),r1)) (
  (zMD x0 x1 x2).bind fun r2=>
  cond (r2.2 != 0) (
   dJ ((tH.mk (SPr.mk [] [] []) (SPr.mk [] [] []) []),r2.2)) (
   (zMD x0 x1 x3).bind fun r3=>
   (zW7 x0 x1 x2 x3).bind fun r4=>
   cond (!r4.2) (
    dJ ((tH.mk (SPr.mk [] [] []) (SPr.mk [] [] []) []),4)) (
    (zUx x0 x1 r4.1).bind fun r5=>
    (zH (zPs r2) (r5,(r4.1.length:Int))).bind fun r9=>
    dJ ((tH.mk r2.1 r3.1 r9),0))))
def zLt(x0:Int)(x1:dR)(s1:(dR)×Int):Option ((dR×Int)⊕dR):=
 cond (decide (s1.2<(x1.length:Int))) (
  (ixO x1 s1.2).bind fun v1=>
  (zGZ x0 s1.2).bind fun r2=>
  (f_u [r2,v1]).bind fun r3=>
  (xC s1.1 [r3]).bind fun v4=>
  (rng (s1.2+1)).bind fun v5=>
  dJ (.inl (v4,v5))) (
  dJ (.inr s1.1))
def zUy(x0:Int)(x1:dR):Option dR:=
 (zH (zLt x0 x1) ([],0)).bind fun r6=>
 dJ r6
def zPt(x0:SPr)(x1:zC)(r2:SPr×Int)(s1:(dR)×Int):Option ((dR×Int)⊕dR):=
 cond (decide (s1.2<x1.Dim)) (
  (rng ((x0.zA.length:Int)+s1.2)).bind fun v7=>
  (zGZ (r2.1.zA.length:Int) v7).bind fun r8=>
  (xC s1.1 [r8]).bind fun v9=>
  (rng (s1.2+1)).bind fun v10=>
  dJ (.inl (v9,v10))) (
  dJ (.inr s1.1))
def f_G(x0:SPr)(x1:zC)(x2:dR)(x3:dR):Option (tH×Int):=
 (f_M x0 x1 [x2,x3]).bind fun r1=>
 cond (r1 != 0) (
  dJ ((tH.mk (SPr.mk [] [] []) (SPr.mk [] [] []) []),r1)) (
  (zMI x0 x1 x2).bind fun r2=>
  cond (r2.2 != 0) (
   dJ ((tH.mk (SPr.mk [] [] []) (SPr.mk [] [] []) []),r2.2)) (
   (zMI x0 x1 x3).bind fun r3=>
   (zW6 x1 x3 x2).bind fun r4=>
   (zUw x0 x1 r4).bind fun r5=>
   cond (!r5.2) (
    dJ ((tH.mk (SPr.mk [] [] []) (SPr.mk [] [] []) []),4)) (
    (zUy (x0.zA.length:Int) r5.1).bind fun r6=>
    (zH (zPt x0 x1 r2) (r6,0)).bind fun r11=>
    dJ ((tH.mk r2.1 r3.1 r11),0))))
def zPu(x0:tH)(x1:tH):Option Bool:=
 (zOY x0.jC x1.jC).bind fun r1=>
 cond (!r1) (
  dJ dM) (
  (zOY x0.kD x1.kD).bind fun r2=>
  cond (!r2) (
   dJ dM) (
   (f_S x0.qK x1.qK).bind fun r3=>
   cond (!r3) (
    dJ dM) (
    dJ dL)))
def zSN(x0:tH)(x1:Int):Option (Int×tH):=
 (zPa x0.jC x1).bind fun r1=>
 (zPa x0.kD r1.1).bind fun r2=>
 (f_N x0.qK r2.1).bind fun r3=>
 dJ (r3.1,(tH.mk r1.2 r2.2 r3.2))
def zSO(x0:tH)(x1:Int):Option Int:=
 (zS5 x0.jC x1).bind fun r1=>
 cond (decide (r1<0)) (
  dJ (-1)) (
  (zS5 x0.kD r1).bind fun r2=>
  cond (decide (r2<0)) (
   dJ (-1)) (
   (zPb x0.qK r2).bind fun r3=>
   cond (decide (r3<0)) (
    dJ (-1)) (
    dJ r3)))
def zSP(x0:SPr)(x1:zC)(x2:dR)(x3:dR):Option Bool:=
 (zTG x0 1048576).bind fun r1=>
 cond (decide (r1<0)) (
  dJ dL) (
  (zTH x1 r1).bind fun r2=>
  cond (decide (r2<0)) (
   dJ dL) (
   (zOT x2 r2).bind fun r3=>
   cond (decide (r3<0)) (
    dJ dL) (
    (zOT x3 r3).bind fun r4=>
    cond (decide (r4<0)) (
     dJ dL) (
     (zM0 x0).bind fun r5=>
     (zM1 x1).bind fun r6=>
     (f_r x2).bind fun r7=>
     (f_r x3).bind fun r8=>
     (f_O r5 r6 r7 r8).bind fun r9=>
     (zM0 x0).bind fun r10=>
     (zM1 x1).bind fun r11=>
     (f_r x2).bind fun r12=>
     (f_r x3).bind fun r13=>
     (f_G r10 r11 r12 r13).bind fun r14=>
     (zPu r14.1 r9.1).bind fun r15=>
     cond (!r15) (
      dJ dM) (
      cond (r14.2 != r9.2) (
       dJ dM) (
       (zM0 x0).bind fun r16=>
       (zOY r10 r16).bind fun r17=>
       cond (!r17) (
        dJ dM) (
        (zM1 x1).bind fun r18=>
        (zTY r11 r18).bind fun r19=>
        cond (!r19) (
         dJ dM) (
         (f_r x2).bind fun r20=>
         (f_S r12 r20).bind fun r21=>
         cond (!r21) (
          dJ dM) (
          (f_r x3).bind fun r22=>
          (f_S r13 r22).bind fun r23=>
          cond (!r23) (
           dJ dM) (
           (zPa r10 1).bind fun r24=>
           (zTZ r11 r24.1).bind fun r25=>
           (f_N r12 r25.1).bind fun r26=>
           (f_N r13 r26.1).bind fun r27=>
           cond (decide (r27.1<0)) (
            dJ dM) (
            (zPu r14.1 r9.1).bind fun r28=>
            cond (!r28) (
             dJ dM) (
             cond (r14.2 != r9.2) (
              dJ dM) (
              (zSN r14.1 1).bind fun r29=>
              (zSO r29.2 1).bind fun r30=>
              cond (decide (r30<0)) (
               dJ dM) (
               cond (r30 != r29.1) (
                dJ dM) (
                (zM0 x0).bind fun r31=>
                (zM1 x1).bind fun r32=>
                (f_r x2).bind fun r33=>
                (f_r x3).bind fun r34=>
                (f_G r31 r32 r33 r34).bind fun r35=>
                (zPu r35.1 r9.1).bind fun r36=>
                cond (!r36) (
                 dJ dM) (
                 cond (r35.2 != r9.2) (
                  dJ dM) (
                  (zSO r29.2 1).bind fun r37=>
                  cond (decide (r37<0)) (
                   dJ dM) (
                   cond (r37 != r29.1) (
                    dJ dM) (
                    dJ dL)))))))))))))))))))
end Go.Wk
