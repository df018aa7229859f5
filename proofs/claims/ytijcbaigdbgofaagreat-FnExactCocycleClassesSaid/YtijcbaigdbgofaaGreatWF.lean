/- The program's CocycleClasses returns what the reference's returns,for all arguments;no conditions. -/
import Derived.Test.YtijcbaigdbgofaaGreatAbC
open List renaming replicate→J1
open Int renaming fdiv→Gg
open Option renaming some→ik,none→im
open Bool renaming true→io,false→iq
noncomputable section
namespace Go.Wk
open Go Go.Ab
abbrev iv:=List Int
abbrev iw:=List iv
structure SPr where
 zA:iv
 zU:iw
 zF:List iw
abbrev yL(x:SPr):T:=.agg [(L 1 I) x.zA,(L 1 (L 1 I)) x.zU,(L 1 (L 1 (L 1 I))) x.zF]
instance:Enc yL:=.of fun _=>zNq ⟨Enc.t (f:=(L 1 I)) inferInstance _,Enc.t (f:=(L 1 (L 1 I))) inferInstance _,Enc.t (f:=(L 1 (L 1 (L 1 I)))) inferInstance _,trivial⟩
structure zB where
 Prime:Int
 Dim:Int
 zG:List iw
abbrev zS(x:zB):T:=.agg [I x.Prime,I x.Dim,(L 1 (L 1 (L 1 I))) x.zG]
instance:Enc zS:=.of fun _=>zNq ⟨Enc.t (f:=I) inferInstance _,Enc.t (f:=I) inferInstance _,Enc.t (f:=(L 1 (L 1 (L 1 I)))) inferInstance _,trivial⟩
structure xJ where
 Kind:Int
 zXw:Int
 zXv:Int
 zUW:Int
abbrev zGM(x:xJ):T:=.agg [I x.Kind,I x.zXw,I x.zXv,I x.zUW]
instance:Enc zGM:=.of fun _=>zNq ⟨Enc.t (f:=I) inferInstance _,Enc.t (f:=I) inferInstance _,Enc.t (f:=I) inferInstance _,Enc.t (f:=I) inferInstance _,trivial⟩
structure zT where
 Prime:Int
 xI:Int
 Rows:iw
abbrev zO(x:zT):T:=.agg [I x.Prime,I x.xI,(L 1 (L 1 I)) x.Rows]
instance:Enc zO:=.of fun _=>zNq ⟨Enc.t (f:=I) inferInstance _,Enc.t (f:=I) inferInstance _,Enc.t (f:=(L 1 (L 1 I))) inferInstance _,trivial⟩
structure zY where
 p:SPr
 m:zB
 zNb:iw
structure zJ where
 x:iv
 v:iv
abbrev xE(x:zJ):T:=.agg [(L 1 I) x.x,(L 1 I) x.v]
instance:Enc xE:=.of fun _=>zNq ⟨Enc.t (f:=(L 1 I)) inferInstance _,Enc.t (f:=(L 1 I)) inferInstance _,trivial⟩
def zTy(x0:iv)(x1:Int):Option Int:=
 (rng (x1-(x0.length:Int))).bind fun v1=>
 cond (decide (v1<0)) (
  ik (-1)) (
  ik v1)
def zXs(x0:iw)(s1:Int×Int):Option ((Int×Int)⊕(Int⊕Int)):=
 cond (decide (s1.2<(x0.length:Int))) (
  (ixO x0 s1.2).bind fun v2=>
  (zTy v2 s1.1).bind fun r3=>
  cond (decide (r3<0)) (
   ik (.inr (.inr (-1)))) (
   (rng (s1.2+1)).bind fun v4=>
   ik (.inl (r3,v4)))) (
  ik (.inr (.inl s1.1)))
def zVO(x0:iw)(x1:Int):Option Int:=
 (rng (x1-(x0.length:Int))).bind fun v1=>
 cond (decide (v1<0)) (
  ik (-1)) (
  (zI (zXs x0) (v1,0)).bind fun r5=>
  match r5 with
  |(.inl r5)=>
   ik r5
  |(.inr r5)=>
   ik r5)
def zXt(x0:List iw)(s1:Int×Int):Option ((Int×Int)⊕(Int⊕Int)):=
 cond (decide (s1.2<(x0.length:Int))) (
  (ixO x0 s1.2).bind fun v2=>
  (zVO v2 s1.1).bind fun r3=>
  cond (decide (r3<0)) (
   ik (.inr (.inr (-1)))) (
   (rng (s1.2+1)).bind fun v4=>
   ik (.inl (r3,v4)))) (
  ik (.inr (.inl s1.1)))
def zVP(x0:List iw)(x1:Int):Option Int:=
 (rng (x1-(x0.length:Int))).bind fun v1=>
 cond (decide (v1<0)) (
  ik (-1)) (
  (zI (zXt x0) (v1,0)).bind fun r5=>
  match r5 with
  |(.inl r5)=>
   ik r5
  |(.inr r5)=>
   ik r5)
def zVQ(x0:SPr)(x1:Int):Option Int:=
 (zTy x0.zA x1).bind fun r1=>
 cond (decide (r1<0)) (
  ik (-1)) (
  (zVO x0.zU r1).bind fun r2=>
  cond (decide (r2<0)) (
   ik (-1)) (
   (zVP x0.zF r2).bind fun r3=>
   cond (decide (r3<0)) (
    ik (-1)) (
    ik r3)))
def zVR(x0:zB)(x1:Int):Option Int:=
 (zVP x0.zG x1).bind fun r1=>
 cond (decide (r1<0)) (
  ik (-1)) (
  ik r1)
def zTz(x0:iv)(s1:(iv)×Int):Option ((iv×Int)⊕iv):=
 cond (decide (s1.2<(x0.length:Int))) (
  (ixO x0 s1.2).bind fun v2=>
  (ixO s1.1 s1.2).bind fun _=>
  (rng (s1.2+1)).bind fun v4=>
  ik (.inl (s1.1.set s1.2.toNat v2,v4))) (
  ik (.inr s1.1))
def zQE(x0:iv):Option iv:=
 (xF (x0.length:Int)).bind fun m1=>
 (zI (zTz x0) (J1 m1 (0:Int),0)).bind fun r5=>
 ik r5
def zT0(x0:iw)(s1:(iw)×Int):Option ((iw×Int)⊕iw):=
 cond (decide (s1.2<(x0.length:Int))) (
  (ixO x0 s1.2).bind fun v2=>
  (zQE v2).bind fun r3=>
  (ixO s1.1 s1.2).bind fun _=>
  (rng (s1.2+1)).bind fun v5=>
  ik (.inl (s1.1.set s1.2.toNat r3,v5))) (
  ik (.inr s1.1))
def zQF(x0:iw):Option iw:=
 (xF (x0.length:Int)).bind fun m1=>
 (zI (zT0 x0) (J1 m1 ([]:iv),0)).bind fun r6=>
 ik r6
def zT1(x0:List iw)(s1:(List iw)×Int):Option (((List iw)×Int)⊕(List iw)):=
 cond (decide (s1.2<(x0.length:Int))) (
  (ixO x0 s1.2).bind fun v2=>
  (zQF v2).bind fun r3=>
  (ixO s1.1 s1.2).bind fun _=>
  (rng (s1.2+1)).bind fun v5=>
  ik (.inl (s1.1.set s1.2.toNat r3,v5))) (
  ik (.inr s1.1))
def zT2(x0:List iw):Option (List iw):=
 (xF (x0.length:Int)).bind fun m1=>
 (zI (zT1 x0) (J1 m1 ([]:iw),0)).bind fun r6=>
 ik r6
def zNZ(x0:SPr):Option SPr:=
 (zQE x0.zA).bind fun r1=>
 (zQF x0.zU).bind fun r2=>
 (zT2 x0.zF).bind fun r3=>
 ik (SPr.mk r1 r2 r3)
def zOa(x0:zB):Option zB:=
 (zT2 x0.zG).bind fun r1=>
 ik (zB.mk x0.Prime x0.Dim r1)
def zVS(x0:Int):Option Bool:=
 cond (x0==2) (
  ik io) (
  cond (x0==3) (
   ik io) (
   cond (x0==5) (
    ik io) (
    ik (x0==7))))
def zM6(x0:iv)(s1:Int×Int):Option ((Int×Int)⊕Int):=
 cond (decide (s1.2<(x0.length:Int))) (
  cond (decide (s1.1≤729)) (
   (ixO x0 s1.2).bind fun v1=>
   (rng (s1.1*v1)).bind fun v2=>
   (rng (s1.2+1)).bind fun v3=>
   ik (.inl (v2,v3))) (
   (rng (s1.2+1)).bind fun v4=>
   ik (.inl (s1.1,v4)))) (
  ik (.inr s1.1))
def zVT(x0:iv):Option Int:=
 (zI (zM6 x0) (1,0)).bind fun r5=>
 ik r5
def zT3(x0:Int)(x1:Int)(x2:Int):Option Bool:=
 cond (decide (x0≥x1)) (
  ik (decide (x0≤x2))) (
  ik iq)
def zPJ(x0:iv)(x1:iv)(x2:Int)(s1:Int):Option (Int⊕(Unit⊕Bool)):=
 cond (decide (s1<(x1.length:Int))) (
  (ixO x1 s1).bind fun v1=>
  (ixO x0 s1).bind fun v2=>
  (rng (v2-1)).bind fun v3=>
  (zT3 v1 0 v3).bind fun r4=>
  cond (!r4) (
   ik (.inr (.inr iq))) (
   cond (decide (s1≤x2)) (
    (ixO x1 s1).bind fun v5=>
    cond (v5 != 0) (
     ik (.inr (.inr iq))) (
     (rng (s1+1)).bind fun v6=>
     ik (.inl v6))) (
    (rng (s1+1)).bind fun v5=>
    ik (.inl v5)))) (
  ik (.inr (.inl ())))
def zT4(x0:iv)(x1:iv)(x2:Int):Option Bool:=
 cond ((x1.length:Int) != (x0.length:Int)) (
  ik iq) (
  (zI (zPJ x0 x1 x2) 0).bind fun r6=>
  match r6 with
  |(.inl r6)=>
   ik io
  |(.inr r6)=>
   ik r6)
def zT5(x0:SPr)(s1:Int):Option (Int⊕(Unit⊕Bool)):=
 cond (decide (s1<(x0.zA.length:Int))) (
  (ixO x0.zA s1).bind fun v1=>
  (zVS v1).bind fun r2=>
  cond (!r2) (
   ik (.inr (.inr iq))) (
   (rng (s1+1)).bind fun v3=>
   ik (.inl v3))) (
  ik (.inr (.inl ())))
def zT6(x0:SPr)(s7:Int)(s8:Int):Option (Int⊕(Unit⊕Bool)):=
 (ixO x0.zF s7).bind fun v11=>
 cond (decide (s8<(v11.length:Int))) (
  (ixO x0.zF s7).bind fun v12=>
  (ixO v12 s8).bind fun v13=>
  (zT4 x0.zA v13 s7).bind fun r14=>
  cond (!r14) (
   ik (.inr (.inr iq))) (
   (rng (s8+1)).bind fun v15=>
   ik (.inl v15))) (
  ik (.inr (.inl ())))
def zOb(x0:SPr)(s7:Int):Option (Int⊕(Unit⊕Bool)):=
 cond (decide (s7<(x0.zA.length:Int))) (
  (ixO x0.zU s7).bind fun v6=>
  (zT4 x0.zA v6 s7).bind fun r7=>
  cond (!r7) (
   ik (.inr (.inr iq))) (
   (ixO x0.zF s7).bind fun v8=>
   (rng ((x0.zA.length:Int)-1)).bind fun v9=>
   (rng (v9-s7)).bind fun v10=>
   cond ((v8.length:Int) != v10) (
    ik (.inr (.inr iq))) (
    (zI (zT6 x0 s7) 0).bind fun r16=>
    match r16 with
    |(.inl r16)=>
     (rng (s7+1)).bind fun v17=>
     ik (.inl v17)
    |(.inr r16)=>
     ik (.inr (.inr r16))))) (
  ik (.inr (.inl ())))
def f_A(x0:SPr):Option Bool:=
 cond (decide ((x0.zA.length:Int)> 6)) (
  ik iq) (
  cond ((x0.zU.length:Int) != (x0.zA.length:Int)) (
   ik iq) (
   cond ((x0.zF.length:Int) != (x0.zA.length:Int)) (
    ik iq) (
    (zI (zT5 x0) 0).bind fun r4=>
    match r4 with
    |(.inl r4)=>
     (zVT x0.zA).bind fun r5=>
     cond (decide (r5> 729)) (
      ik iq) (
      (zI (zOb x0) 0).bind fun r18=>
      match r18 with
      |(.inl r18)=>
       ik io
      |(.inr r18)=>
       ik r18)
    |(.inr r4)=>
     ik r4)))
def f_B(x0:iv):Option iv:=
 (xW [] x0).bind fun v1=>
 ik v1
def zT7(g_a:SPr→Int→iv→iv→Option iv)(x0:SPr)(x1:Int)(x2:iv)(s5:(iv)×Int)(s6:(iv)×Int):Option ((iv×Int)⊕iv):=
 (ixO x2 s5.2).bind fun v3=>
 cond (decide (s6.2<v3)) (
  (rng (x1+1)).bind fun v4=>
  (ixO x0.zF x1).bind fun v5=>
  (rng (s5.2-x1)).bind fun v6=>
  (rng (v6-1)).bind fun v7=>
  (ixO v5 v7).bind fun v8=>
  (g_a x0 v4 s6.1 v8).bind fun r9=>
  (rng (s6.2+1)).bind fun v10=>
  ik (.inl (r9,v10))) (
  ik (.inr s6.1))
def zT8(g_a:SPr→Int→iv→iv→Option iv)(x0:SPr)(x1:Int)(x2:iv)(s5:(iv)×Int):Option ((iv×Int)⊕iv):=
 cond (decide (s5.2<(x0.zA.length:Int))) (
  (zI (zT7 g_a x0 x1 x2 s5) (s5.1,0)).bind fun r11=>
  (rng (s5.2+1)).bind fun v12=>
  ik (.inl (r11,v12))) (
  ik (.inr s5.1))
def b_g(g_a:SPr→Int→iv→iv→Option iv)(x0:SPr)(x1:Int)(x2:iv):Option iv:=
 (xF (x0.zA.length:Int)).bind fun m1=>
 (rng (x1+1)).bind fun v2=>
 (zI (zT8 g_a x0 x1 x2) (J1 m1 (0:Int),v2)).bind fun r13=>
 ik r13
def zVU(g_g:SPr→Int→iv→Option iv)(x0:SPr)(x1:Int)(x3:iv)(s1:(iv)×Int):Option ((iv×Int)⊕iv):=
 (ixO x3 x1).bind fun v6=>
 cond (decide (s1.2<v6)) (
  (g_g x0 x1 s1.1).bind fun r7=>
  (rng (s1.2+1)).bind fun v8=>
  ik (.inl (r7,v8))) (
  ik (.inr s1.1))
def b_a(g_g:SPr→Int→iv→Option iv)(g_a:SPr→Int→iv→iv→Option iv)(x0:SPr)(x1:Int)(x2:iv)(x3:iv):Option iv:=
 cond (decide (x1≥(x0.zA.length:Int))) (
  (xF (x0.zA.length:Int)).bind fun m1=>
  ik (J1 m1 (0:Int))) (
  (f_B x2).bind fun r2=>
  (f_B x3).bind fun r3=>
  (ixO r2 x1).bind fun _=>
  (ixO r3 x1).bind fun _=>
  (zI (zVU g_g x0 x1 x3) (r2.set x1.toNat 0,0)).bind fun r9=>
  (rng (x1+1)).bind fun v10=>
  (g_a x0 v10 r9 (r3.set x1.toNat 0)).bind fun r11=>
  (ixO x2 x1).bind fun v12=>
  (ixO x3 x1).bind fun v13=>
  (rng (v12+v13)).bind fun v14=>
  (ixO x0.zA x1).bind fun v15=>
  cond (decide (v14≥v15)) (
   (ixO x0.zA x1).bind fun v16=>
   (rng (v14-v16)).bind fun v17=>
   (rng (x1+1)).bind fun v18=>
   (ixO x0.zU x1).bind fun v19=>
   (g_a x0 v18 v19 r11).bind fun r20=>
   (f_B r20).bind fun r21=>
   (ixO r21 x1).bind fun _=>
   ik (r21.set x1.toNat v17)) (
   (f_B r11).bind fun r23=>
   (ixO r23 x1).bind fun _=>
   ik (r23.set x1.toNat v14)))
mutual
def zOc:Nat→SPr→Int→iv→Option iv
 |0=>fun _ _ _=>im
 |n+1=>b_g (zOd n)
def zOd:Nat→SPr→Int→iv→iv→Option iv
 |0=>fun _ _ _ _=>im
 |n+1=>b_a (zOc n) (zOd n)
end
def f_g(x0:SPr)(x1:Int)(x2:iv):Option iv:=zDG fun n=>zOc n x0 x1 x2
def f_a(x0:SPr)(x1:Int)(x2:iv)(x3:iv):Option iv:=zDG fun n=>zOd n x0 x1 x2 x3
def zPK(x0:SPr)(x1:Int)(s1:Int×iv×iv):Option ((Int×iv×iv)⊕iv):=
 cond (decide (s1.1> 0)) (
  (tB s1.1 2).bind fun v2=>
  cond (v2==1) (
   (f_a x0 x1 s1.2.1 s1.2.2).bind fun r3=>
   (f_a x0 x1 s1.2.2 s1.2.2).bind fun r4=>
   (tR s1.1 2).bind fun v5=>
   ik (.inl (v5,r3,r4))) (
   (f_a x0 x1 s1.2.2 s1.2.2).bind fun r6=>
   (tR s1.1 2).bind fun v7=>
   ik (.inl (v7,s1.2.1,r6)))) (
  ik (.inr s1.2.1))
def zVV(x0:SPr)(x1:Int)(x2:iv)(x3:Int):Option iv:=
 (xF (x0.zA.length:Int)).bind fun m1=>
 (zI (zPK x0 x1) (x3,J1 m1 (0:Int),x2)).bind fun r8=>
 ik r8
def zXu(x0:iv)(x1:iv)(s1:Int):Option (Int⊕(Unit⊕Bool)):=
 cond (decide (s1<(x0.length:Int))) (
  (ixO x0 s1).bind fun v1=>
  (ixO x1 s1).bind fun v2=>
  cond (v1 != v2) (
   ik (.inr (.inr iq))) (
   (rng (s1+1)).bind fun v3=>
   ik (.inl v3))) (
  ik (.inr (.inl ())))
def zKK(x0:iv)(x1:iv):Option Bool:=
 cond ((x0.length:Int) != (x1.length:Int)) (
  ik iq) (
  (zI (zXu x0 x1) 0).bind fun r4=>
  match r4 with
  |(.inl r4)=>
   ik io
  |(.inr r4)=>
   ik r4)
def zYI(x0:Int)(x1:Int):Option iv:=
 (xF x0).bind fun m1=>
 (ixO (J1 m1 (0:Int)) x1).bind fun _=>
 ik ((J1 m1 (0:Int)).set x1.toNat 1)
def zT9(x0:SPr)(x1:Int)(s1:Int):Option (Int⊕(Unit⊕xJ)):=
 cond (decide (s1<(x0.zA.length:Int))) (
  (rng (x1+1)).bind fun v2=>
  (ixO x0.zF x1).bind fun v3=>
  (rng (s1-x1)).bind fun v4=>
  (rng (v4-1)).bind fun v5=>
  (ixO v3 v5).bind fun v6=>
  (ixO x0.zA s1).bind fun v7=>
  (zVV x0 v2 v6 v7).bind fun r8=>
  (ixO x0.zU s1).bind fun v9=>
  (f_g x0 x1 v9).bind fun r10=>
  (zKK r8 r10).bind fun r11=>
  cond (!r11) (
   ik (.inr (.inr (xJ.mk 1 x1 s1 0)))) (
   (rng (s1+1)).bind fun v12=>
   ik (.inl v12))) (
  ik (.inr (.inl ())))
def zTA(x0:SPr)(x1:Int)(s7:Int)(s8:Int):Option (Int⊕(Unit⊕xJ)):=
 cond (decide (s8<(x0.zA.length:Int))) (
  (ixO x0.zF x1).bind fun v16=>
  (rng (s7-x1)).bind fun v17=>
  (rng (v17-1)).bind fun v18=>
  (ixO v16 v18).bind fun v19=>
  (ixO x0.zF x1).bind fun v20=>
  (rng (s8-x1)).bind fun v21=>
  (rng (v21-1)).bind fun v22=>
  (ixO v20 v22).bind fun v23=>
  (ixO x0.zF s7).bind fun v24=>
  (rng (s8-s7)).bind fun v25=>
  (rng (v25-1)).bind fun v26=>
  (ixO v24 v26).bind fun v27=>
  (f_g x0 x1 v27).bind fun r28=>
  (rng (x1+1)).bind fun v29=>
  (f_a x0 v29 v23 v19).bind fun r30=>
  (rng (x1+1)).bind fun v31=>
  (f_a x0 v31 v19 r28).bind fun r32=>
  (zKK r30 r32).bind fun r33=>
  cond (!r33) (
   ik (.inr (.inr (xJ.mk 2 x1 s7 s8)))) (
   (rng (s8+1)).bind fun v34=>
   ik (.inl v34))) (
  ik (.inr (.inl ())))
def zTB(x0:SPr)(x1:Int)(s7:Int):Option (Int⊕(Unit⊕xJ)):=
 cond (decide (s7<(x0.zA.length:Int))) (
  (rng (s7+1)).bind fun v15=>
  (zI (zTA x0 x1 s7) v15).bind fun r35=>
  match r35 with
  |(.inl r35)=>
   (rng (s7+1)).bind fun v36=>
   ik (.inl v36)
  |(.inr r35)=>
   ik (.inr (.inr r35))) (
  ik (.inr (.inl ())))
def zTC(x0:SPr)(x1:Int)(s16:(iv)×Int):Option ((iv×Int)⊕iv):=
 (ixO x0.zA x1).bind fun v43=>
 cond (decide (s16.2<v43)) (
  (f_g x0 x1 s16.1).bind fun r44=>
  (rng (s16.2+1)).bind fun v45=>
  ik (.inl (r44,v45))) (
  ik (.inr s16.1))
def zTD(x0:SPr)(x1:Int)(v38:iv)(s15:Int):Option (Int⊕(Unit⊕xJ)):=
 cond (decide (s15<(x0.zA.length:Int))) (
  (zYI (x0.zA.length:Int) s15).bind fun r42=>
  (zI (zTC x0 x1) (r42,0)).bind fun r46=>
  (rng (x1+1)).bind fun v47=>
  (f_a x0 v47 v38 r46).bind fun r48=>
  (rng (x1+1)).bind fun v49=>
  (f_a x0 v49 r42 v38).bind fun r50=>
  (zKK r48 r50).bind fun r51=>
  cond (!r51) (
   ik (.inr (.inr (xJ.mk 4 x1 s15 0)))) (
   (rng (s15+1)).bind fun v52=>
   ik (.inl v52))) (
  ik (.inr (.inl ())))
def f_o(x0:SPr)(x1:Int):Option xJ:=
 (rng (x1+1)).bind fun v1=>
 (zI (zT9 x0 x1) v1).bind fun r13=>
 match r13 with
 |(.inl r13)=>
  (rng (x1+1)).bind fun v14=>
  (zI (zTB x0 x1) v14).bind fun r37=>
  match r37 with
  |(.inl r37)=>
   (ixO x0.zU x1).bind fun v38=>
   (f_g x0 x1 v38).bind fun r39=>
   (zKK r39 v38).bind fun r40=>
   cond (!r40) (
    ik (xJ.mk 3 x1 0 0)) (
    (rng (x1+1)).bind fun v41=>
    (zI (zTD x0 x1 v38) v41).bind fun r53=>
    match r53 with
    |(.inl r53)=>
     ik (xJ.mk 0 0 0 0)
    |(.inr r53)=>
     ik r53)
  |(.inr r37)=>
   ik r37
 |(.inr r13)=>
  ik r13
def zM7(x0:SPr)(s1:Int):Option (Int⊕(Unit⊕xJ)):=
 cond (decide (s1≥0)) (
  (f_o x0 s1).bind fun r2=>
  cond (r2.Kind != 0) (
   ik (.inr (.inr r2))) (
   (rng (s1-1)).bind fun v3=>
   ik (.inl v3))) (
  ik (.inr (.inl ())))
def zYJ(x0:SPr):Option xJ:=
 (rng ((x0.zA.length:Int)-1)).bind fun v1=>
 (zI (zM7 x0) v1).bind fun r4=>
 match r4 with
 |(.inl r4)=>
  ik (xJ.mk 0 0 0 0)
 |(.inr r4)=>
  ik r4
def zYK(x0:SPr):Option Bool:=
 (zYJ x0).bind fun r1=>
 ik (r1.Kind==0)
def zVW(x0:SPr):Option Bool:=
 (f_A x0).bind fun r1=>
 cond r1 (
  (zYK x0).bind fun r2=>
  ik r2) (
  ik iq)
def zPL(x0:Int)(x2:iv)(s1:Int):Option (Int⊕(Unit⊕Bool)):=
 cond (decide (s1<(x2.length:Int))) (
  (ixO x2 s1).bind fun v1=>
  (rng (x0-1)).bind fun v2=>
  (zT3 v1 0 v2).bind fun r3=>
  cond (!r3) (
   ik (.inr (.inr iq))) (
   (rng (s1+1)).bind fun v4=>
   ik (.inl v4))) (
  ik (.inr (.inl ())))
def zVX(x0:Int)(x1:Int)(x2:iv):Option Bool:=
 cond ((x2.length:Int) != x1) (
  ik iq) (
  (zI (zPL x0 x2) 0).bind fun r5=>
  match r5 with
  |(.inl r5)=>
   ik io
  |(.inr r5)=>
   ik r5)
def zPM(x0:Int)(x1:Int)(x2:iw)(s1:Int):Option (Int⊕(Unit⊕Bool)):=
 cond (decide (s1<(x2.length:Int))) (
  (ixO x2 s1).bind fun v1=>
  (zVX x0 x1 v1).bind fun r2=>
  cond (!r2) (
   ik (.inr (.inr iq))) (
   (rng (s1+1)).bind fun v3=>
   ik (.inl v3))) (
  ik (.inr (.inl ())))
def zVY(x0:Int)(x1:Int)(x2:iw):Option Bool:=
 cond ((x2.length:Int) != x1) (
  ik iq) (
  (zI (zPM x0 x1 x2) 0).bind fun r4=>
  match r4 with
  |(.inl r4)=>
   ik io
  |(.inr r4)=>
   ik r4)
def zM8(x0:Int)(s1:(iw)×Int):Option ((iw×Int)⊕iw):=
 cond (decide (s1.2<x0)) (
  (xF x0).bind fun m1=>
  (ixO (J1 m1 (0:Int)) s1.2).bind fun _=>
  (xW s1.1 [(J1 m1 (0:Int)).set s1.2.toNat 1]).bind fun v3=>
  (rng (s1.2+1)).bind fun v4=>
  ik (.inl (v3,v4))) (
  ik (.inr s1.1))
def f_N(x0:Int):Option iw:=
 (zI (zM8 x0) ([],0)).bind fun r5=>
 ik r5
def zTE(x0:Int)(x1:iv)(x2:iw)(s5:(iv)×Int)(s6:(iv)×Int):Option ((iv×Int)⊕iv):=
 cond (decide (s6.2<(s6.1.length:Int))) (
  (ixO x2 s5.2).bind fun v2=>
  cond (decide (s6.2<(v2.length:Int))) (
   (ixO s6.1 s6.2).bind fun v3=>
   (ixO x1 s5.2).bind fun v4=>
   (ixO x2 s5.2).bind fun v5=>
   (ixO v5 s6.2).bind fun v6=>
   (rng (v4*v6)).bind fun v7=>
   (rng (v3+v7)).bind fun v8=>
   (tB v8 x0).bind fun v9=>
   (ixO s6.1 s6.2).bind fun _=>
   (rng (s6.2+1)).bind fun v11=>
   ik (.inl (s6.1.set s6.2.toNat v9,v11))) (
   ik (.inr s6.1))) (
  ik (.inr s6.1))
def zTF(x0:Int)(x1:iv)(x2:iw)(s5:(iv)×Int):Option ((iv×Int)⊕iv):=
 cond (decide (s5.2<(x1.length:Int))) (
  cond (decide (s5.2<(x2.length:Int))) (
   (zI (zTE x0 x1 x2 s5) (s5.1,0)).bind fun r12=>
   (rng (s5.2+1)).bind fun v13=>
   ik (.inl (r12,v13))) (
   ik (.inr s5.1))) (
  ik (.inr s5.1))
def f_K(x0:Int)(x1:iv)(x2:iw)(x3:Int):Option iv:=
 (xF x3).bind fun m1=>
 (zI (zTF x0 x1 x2) (J1 m1 (0:Int),0)).bind fun r14=>
 ik r14
def zTG(x0:Int)(x1:iw)(x2:iw)(x3:Int)(s1:(iw)×Int):Option ((iw×Int)⊕iw):=
 cond (decide (s1.2<(x1.length:Int))) (
  (ixO x1 s1.2).bind fun v1=>
  (f_K x0 v1 x2 x3).bind fun r2=>
  (xW s1.1 [r2]).bind fun v3=>
  (rng (s1.2+1)).bind fun v4=>
  ik (.inl (v3,v4))) (
  ik (.inr s1.1))
def f_W(x0:Int)(x1:iw)(x2:iw)(x3:Int):Option iw:=
 (zI (zTG x0 x1 x2 x3) ([],0)).bind fun r5=>
 ik r5
def zTH(x0:zB)(x1:iv)(s5:(iw)×Int)(s6:(iw)×Int):Option ((iw×Int)⊕iw):=
 (ixO x1 s5.2).bind fun v2=>
 cond (decide (s6.2<v2)) (
  (ixO x0.zG s5.2).bind fun v3=>
  (f_W x0.Prime s6.1 v3 x0.Dim).bind fun r4=>
  (rng (s6.2+1)).bind fun v5=>
  ik (.inl (r4,v5))) (
  ik (.inr s6.1))
def zTI(x0:zB)(x1:iv)(s5:(iw)×Int):Option ((iw×Int)⊕iw):=
 cond (decide (s5.2<(x1.length:Int))) (
  (zI (zTH x0 x1 s5) (s5.1,0)).bind fun r6=>
  (rng (s5.2+1)).bind fun v7=>
  ik (.inl (r6,v7))) (
  ik (.inr s5.1))
def f_O(x0:zB)(x1:iv):Option iw:=
 (f_N x0.Dim).bind fun r1=>
 (zI (zTI x0 x1) (r1,0)).bind fun r8=>
 ik r8
def zTJ(x0:iw)(x1:iw)(s1:Int):Option (Int⊕(Unit⊕Bool)):=
 cond (decide (s1<(x0.length:Int))) (
  (ixO x0 s1).bind fun v1=>
  (ixO x1 s1).bind fun v2=>
  (zKK v1 v2).bind fun r3=>
  cond (!r3) (
   ik (.inr (.inr iq))) (
   (rng (s1+1)).bind fun v4=>
   ik (.inl v4))) (
  ik (.inr (.inl ())))
def zVZ(x0:iw)(x1:iw):Option Bool:=
 cond ((x0.length:Int) != (x1.length:Int)) (
  ik iq) (
  (zI (zTJ x0 x1) 0).bind fun r5=>
  match r5 with
  |(.inl r5)=>
   ik io
  |(.inr r5)=>
   ik r5)
def zTK(x0:SPr)(x1:zB)(s1:Int):Option (Int⊕(Unit⊕Bool)):=
 cond (decide (s1<(x0.zA.length:Int))) (
  (ixO x1.zG s1).bind fun v3=>
  (zVY x1.Prime x1.Dim v3).bind fun r4=>
  cond (!r4) (
   ik (.inr (.inr iq))) (
   (rng (s1+1)).bind fun v5=>
   ik (.inl v5))) (
  ik (.inr (.inl ())))
def zTL(x0:SPr)(x1:zB)(s11:Int)(s12:(iw)×Int):Option ((iw×Int)⊕iw):=
 (ixO x0.zA s11).bind fun v8=>
 cond (decide (s12.2<v8)) (
  (ixO x1.zG s11).bind fun v9=>
  (f_W x1.Prime s12.1 v9 x1.Dim).bind fun r10=>
  (rng (s12.2+1)).bind fun v11=>
  ik (.inl (r10,v11))) (
  ik (.inr s12.1))
def zTM(x0:SPr)(x1:zB)(s11:Int)(s14:Int):Option (Int⊕(Unit⊕Bool)):=
 cond (decide (s14<(x0.zA.length:Int))) (
  (ixO x1.zG s14).bind fun v17=>
  (ixO x1.zG s11).bind fun v18=>
  (f_W x1.Prime v17 v18 x1.Dim).bind fun r19=>
  (ixO x1.zG s11).bind fun v20=>
  (ixO x0.zF s11).bind fun v21=>
  (rng (s14-s11)).bind fun v22=>
  (rng (v22-1)).bind fun v23=>
  (ixO v21 v23).bind fun v24=>
  (f_O x1 v24).bind fun r25=>
  (f_W x1.Prime v20 r25 x1.Dim).bind fun r26=>
  (zVZ r19 r26).bind fun r27=>
  cond (!r27) (
   ik (.inr (.inr iq))) (
   (rng (s14+1)).bind fun v28=>
   ik (.inl v28))) (
  ik (.inr (.inl ())))
def zTN(x0:SPr)(x1:zB)(s11:Int):Option (Int⊕(Unit⊕Bool)):=
 cond (decide (s11<(x0.zA.length:Int))) (
  (f_N x1.Dim).bind fun r7=>
  (zI (zTL x0 x1 s11) (r7,0)).bind fun r12=>
  (ixO x0.zU s11).bind fun v13=>
  (f_O x1 v13).bind fun r14=>
  (zVZ r12 r14).bind fun r15=>
  cond (!r15) (
   ik (.inr (.inr iq))) (
   (rng (s11+1)).bind fun v16=>
   (zI (zTM x0 x1 s11) v16).bind fun r29=>
   match r29 with
   |(.inl r29)=>
    (rng (s11+1)).bind fun v30=>
    ik (.inl v30)
   |(.inr r29)=>
    ik (.inr (.inr r29)))) (
  ik (.inr (.inl ())))
def f_u(x0:SPr)(x1:zB):Option Bool:=
 (zVS x1.Prime).bind fun r1=>
 cond (!r1) (
  ik iq) (
  (zT3 x1.Dim 1 3).bind fun r2=>
  cond (!r2) (
   ik iq) (
   cond ((x1.zG.length:Int) != (x0.zA.length:Int)) (
    ik iq) (
    (zI (zTK x0 x1) 0).bind fun r6=>
    match r6 with
    |(.inl r6)=>
     (zI (zTN x0 x1) 0).bind fun r31=>
     match r31 with
     |(.inl r31)=>
      ik io
     |(.inr r31)=>
      ik r31
    |(.inr r6)=>
     ik r6)))
def zWa(x0:SPr)(x1:zB):Option Bool:=
 (zVW x0).bind fun r1=>
 cond r1 (
  (f_u x0 x1).bind fun r2=>
  ik r2) (
  ik iq)
def zQG(x0:Int):Option Bool:=
 cond (x0==2) (
  ik io) (
  cond (x0==3) (
   ik io) (
   cond (x0==5) (
    ik io) (
    ik (x0==7))))
def zOe(x0:Int)(x1:Int)(x2:Int):Option Bool:=
 cond (decide (x0≥x1)) (
  ik (decide (x0≤x2))) (
  ik iq)
def zPN(x0:SPr)(x1:iv)(s1:Int):Option (Int⊕(Unit⊕Bool)):=
 cond (decide (s1<(x1.length:Int))) (
  (ixO x1 s1).bind fun v1=>
  (ixO x0.zA s1).bind fun v2=>
  (rng (v2-1)).bind fun v3=>
  (zOe v1 0 v3).bind fun r4=>
  cond (!r4) (
   ik (.inr (.inr iq))) (
   (rng (s1+1)).bind fun v5=>
   ik (.inl v5))) (
  ik (.inr (.inl ())))
def zWb(x0:SPr)(x1:iv):Option Bool:=
 cond ((x1.length:Int) != (x0.zA.length:Int)) (
  ik iq) (
  (zI (zPN x0 x1) 0).bind fun r6=>
  match r6 with
  |(.inl r6)=>
   ik io
  |(.inr r6)=>
   ik r6)
def zJ6(x0:iv)(s1:Int):Option (Int⊕(Unit⊕Bool)):=
 cond (decide (s1<(x0.length:Int))) (
  (ixO x0 s1).bind fun v1=>
  cond (v1 != 0) (
   ik (.inr (.inr iq))) (
   (rng (s1+1)).bind fun v2=>
   ik (.inl v2))) (
  ik (.inr (.inl ())))
def zTO(x0:iv):Option Bool:=
 (zI (zJ6 x0) 0).bind fun r3=>
 match r3 with
 |(.inl r3)=>
  ik io
 |(.inr r3)=>
  ik r3
def zTP(x0:SPr)(x1:Int)(x2:iv):Option Bool:=
 (zWb x0 x2).bind fun r1=>
 cond r1 (
  (rng (x1+1)).bind fun v2=>
  (yB x2 0 v2).bind fun v3=>
  (zTO v3).bind fun r4=>
  ik r4) (
  ik iq)
def zOf(x0:SPr)(s1:Int×Int):Option ((Int×Int)⊕(Unit⊕Bool)):=
 cond (decide (s1.2<(x0.zA.length:Int))) (
  (ixO x0.zA s1.2).bind fun v1=>
  (zQG v1).bind fun r2=>
  cond (!r2) (
   ik (.inr (.inr iq))) (
   (rng (s1.1*v1)).bind fun v3=>
   cond (decide (v3> 729)) (
    ik (.inr (.inr iq))) (
    (rng (s1.1*v1)).bind fun v4=>
    (rng (s1.2+1)).bind fun v5=>
    ik (.inl (v4,v5))))) (
  ik (.inr (.inl ())))
def zTQ(x0:SPr)(s7:Int)(v12:iw)(s8:Int):Option (Int⊕(Unit⊕Bool)):=
 cond (decide (s8<(v12.length:Int))) (
  (ixO v12 s8).bind fun v13=>
  (zTP x0 s7 v13).bind fun r14=>
  cond (!r14) (
   ik (.inr (.inr iq))) (
   (rng (s8+1)).bind fun v15=>
   ik (.inl v15))) (
  ik (.inr (.inl ())))
def zOg(x0:SPr)(s7:Int):Option (Int⊕(Unit⊕Bool)):=
 cond (decide (s7<(x0.zA.length:Int))) (
  (ixO x0.zU s7).bind fun v7=>
  (zTP x0 s7 v7).bind fun r8=>
  cond (!r8) (
   ik (.inr (.inr iq))) (
   (ixO x0.zF s7).bind fun v9=>
   (rng ((x0.zA.length:Int)-1)).bind fun v10=>
   (rng (v10-s7)).bind fun v11=>
   cond ((v9.length:Int) != v11) (
    ik (.inr (.inr iq))) (
    (ixO x0.zF s7).bind fun v12=>
    (zI (zTQ x0 s7 v12) 0).bind fun r16=>
    match r16 with
    |(.inl r16)=>
     (rng (s7+1)).bind fun v17=>
     ik (.inl v17)
    |(.inr r16)=>
     ik (.inr (.inr r16))))) (
  ik (.inr (.inl ())))
def f_v(x0:SPr):Option Bool:=
 cond (decide ((x0.zA.length:Int)> 6)) (
  ik iq) (
  cond ((x0.zU.length:Int) != (x0.zA.length:Int)) (
   ik iq) (
   cond ((x0.zF.length:Int) != (x0.zA.length:Int)) (
    ik iq) (
    (zI (zOf x0) (1,0)).bind fun r6=>
    match r6 with
    |(.inl r6)=>
     (zI (zOg x0) 0).bind fun r18=>
     match r18 with
     |(.inl r18)=>
      ik io
     |(.inr r18)=>
      ik r18
    |(.inr r6)=>
     ik r6)))
def f_J(x0:iv):Option iv:=
 (xW [] x0).bind fun v2=>
 ik v2
def zTR(x2:Int)(r3:(iv))(s1:(iv)×Int):Option ((iv×Int)⊕iv):=
 cond (decide (s1.2<(r3.length:Int))) (
  (rng (x2+1)).bind fun v4=>
  (rng (v4+s1.2)).bind fun v5=>
  (ixO s1.1 v5).bind fun _=>
  (rng (s1.2+1)).bind fun v7=>
  ik (.inl (s1.1.set v5.toNat 0,v7))) (
  ik (.inr s1.1))
def zYL(g_c:SPr→iv→iv→Option iv)(x0:SPr)(x2:Int)(s7:(iv)×Int)(v17:Int)(s8:(iv)×Int):Option ((iv×Int)⊕iv):=
 cond (decide (s8.2<v17)) (
  (ixO x0.zF x2).bind fun v18=>
  (ixO v18 s7.2).bind fun v19=>
  (g_c x0 s8.1 v19).bind fun r20=>
  (rng (s8.2+1)).bind fun v21=>
  ik (.inl (r20,v21))) (
  ik (.inr s8.1))
def zYM(g_c:SPr→iv→iv→Option iv)(x0:SPr)(x2:Int)(r3:(iv))(s7:(iv)×Int):Option ((iv×Int)⊕iv):=
 cond (decide (s7.2<(r3.length:Int))) (
  (ixO r3 s7.2).bind fun v17=>
  (zI (zYL g_c x0 x2 s7 v17) (s7.1,0)).bind fun r22=>
  (rng (s7.2+1)).bind fun v23=>
  ik (.inl (r22,v23))) (
  ik (.inr s7.1))
def zYN(g_c:SPr→iv→iv→Option iv)(x0:SPr)(x2:Int)(s15:(iv)×Int)(v25:Int)(s16:(iv)×Int):Option ((iv×Int)⊕iv):=
 cond (decide (s16.2<v25)) (
  (ixO x0.zF x2).bind fun v26=>
  (ixO v26 s15.2).bind fun v27=>
  (g_c x0 s16.1 v27).bind fun r28=>
  (rng (s16.2+1)).bind fun v29=>
  ik (.inl (r28,v29))) (
  ik (.inr s16.1))
def zYO(g_c:SPr→iv→iv→Option iv)(x0:SPr)(x2:Int)(r3:(iv))(s15:(iv)×Int):Option ((iv×Int)⊕iv):=
 cond (decide (s15.2<(r3.length:Int))) (
  (ixO r3 s15.2).bind fun v25=>
  (zI (zYN g_c x0 x2 s15 v25) (s15.1,0)).bind fun r30=>
  (rng (s15.2+1)).bind fun v31=>
  ik (.inl (r30,v31))) (
  ik (.inr s15.1))
def b_b(g_c:SPr→iv→iv→Option iv)(x0:SPr)(x1:iv)(x2:Int):Option iv:=
 (rng (x2+1)).bind fun v1=>
 (yB x1 v1 x1.length).bind fun v2=>
 (f_J v2).bind fun r3=>
 (zI (zTR x2 r3) (x1,0)).bind fun r8=>
 (ixO r8 x2).bind fun v9=>
 (rng (v9+1)).bind fun v10=>
 (ixO r8 x2).bind fun _=>
 (ixO (r8.set x2.toNat v10) x2).bind fun v12=>
 (ixO x0.zA x2).bind fun v13=>
 cond (v12==v13) (
  (ixO (r8.set x2.toNat v10) x2).bind fun _=>
  (ixO x0.zU x2).bind fun v15=>
  (g_c x0 ((r8.set x2.toNat v10).set x2.toNat 0) v15).bind fun r16=>
  (zI (zYM g_c x0 x2 r3) (r16,0)).bind fun r24=>
  ik r24) (
  (zI (zYO g_c x0 x2 r3) (r8.set x2.toNat v10,0)).bind fun r32=>
  ik r32)
def zTS(g_b:SPr→iv→Int→Option iv)(x0:SPr)(s5:(iv)×Int)(v1:Int)(s6:(iv)×Int):Option ((iv×Int)⊕iv):=
 cond (decide (s6.2<v1)) (
  (g_b x0 s6.1 s5.2).bind fun r2=>
  (rng (s6.2+1)).bind fun v3=>
  ik (.inl (r2,v3))) (
  ik (.inr s6.1))
def zTT(g_b:SPr→iv→Int→Option iv)(x0:SPr)(x2:iv)(s5:(iv)×Int):Option ((iv×Int)⊕iv):=
 cond (decide (s5.2<(x2.length:Int))) (
  (ixO x2 s5.2).bind fun v1=>
  (zI (zTS g_b x0 s5 v1) (s5.1,0)).bind fun r4=>
  (rng (s5.2+1)).bind fun v5=>
  ik (.inl (r4,v5))) (
  ik (.inr s5.1))
def b_c(g_b:SPr→iv→Int→Option iv)(x0:SPr)(x1:iv)(x2:iv):Option iv:=
 (zI (zTT g_b x0 x2) (x1,0)).bind fun r6=>
 ik r6
mutual
def zTU:Nat→SPr→iv→Int→Option iv
 |0=>fun _ _ _=>im
 |n+1=>b_b (zQH n)
def zQH:Nat→SPr→iv→iv→Option iv
 |0=>fun _ _ _=>im
 |n+1=>b_c (zTU n)
end
def f_b(x0:SPr)(x1:iv)(x2:Int):Option iv:=zDG fun n=>zTU n x0 x1 x2
def f_c(x0:SPr)(x1:iv)(x2:iv):Option iv:=zDG fun n=>zQH n x0 x1 x2
def zM9(x0:SPr)(x1:iv)(x2:Int)(s1:(iv)×Int):Option ((iv×Int)⊕iv):=
 cond (decide (s1.2<x2)) (
  (f_c x0 s1.1 x1).bind fun r2=>
  (rng (s1.2+1)).bind fun v3=>
  ik (.inl (r2,v3))) (
  ik (.inr s1.1))
def zWc(x0:SPr)(x1:iv)(x2:Int):Option iv:=
 (xF (x1.length:Int)).bind fun m1=>
 (zI (zM9 x0 x1 x2) (J1 m1 (0:Int),0)).bind fun r4=>
 ik r4
def zTV(x0:SPr)(v3:iv)(v6:Int)(s6:(iv)×Int):Option ((iv×Int)⊕iv):=
 cond (decide (s6.2<v6)) (
  (f_c x0 s6.1 v3).bind fun r7=>
  (rng (s6.2+1)).bind fun v8=>
  ik (.inl (r7,v8))) (
  ik (.inr s6.1))
def zTW(x0:SPr)(x1:Int)(x2:iv)(v2:iw)(s5:(iv)×Int):Option ((iv×Int)⊕iv):=
 cond (decide (s5.2<(v2.length:Int))) (
  (ixO v2 s5.2).bind fun v3=>
  (rng (x1+1)).bind fun v4=>
  (rng (v4+s5.2)).bind fun v5=>
  (ixO x2 v5).bind fun v6=>
  (zI (zTV x0 v3 v6) (s5.1,0)).bind fun r9=>
  (rng (s5.2+1)).bind fun v10=>
  ik (.inl (r9,v10))) (
  ik (.inr s5.1))
def f_H(x0:SPr)(x1:Int)(x2:iv):Option iv:=
 (xF (x2.length:Int)).bind fun m1=>
 (ixO x0.zF x1).bind fun v2=>
 (zI (zTW x0 x1 x2 v2) (J1 m1 (0:Int),0)).bind fun r11=>
 ik r11
def zYP(x0:iv)(x1:iv)(s1:Int):Option (Int⊕(Unit⊕Bool)):=
 cond (decide (s1<(x0.length:Int))) (
  (ixO x0 s1).bind fun v1=>
  (ixO x1 s1).bind fun v2=>
  cond (v1 != v2) (
   ik (.inr (.inr iq))) (
   (rng (s1+1)).bind fun v3=>
   ik (.inl v3))) (
  ik (.inr (.inl ())))
def f_V(x0:iv)(x1:iv):Option Bool:=
 cond ((x0.length:Int) != (x1.length:Int)) (
  ik iq) (
  (zI (zYP x0 x1) 0).bind fun r4=>
  match r4 with
  |(.inl r4)=>
   ik io
  |(.inr r4)=>
   ik r4)
def zQI(x0:SPr)(s5:(iv)×iv×Int)(s6:(iv)×iv):Option ((iv×iv)⊕(iv×iv)):=
 (ixO s6.1 s5.2.2).bind fun v3=>
 cond (v3 != 0) (
  (f_b x0 s6.1 s5.2.2).bind fun r4=>
  (f_b x0 s6.2 s5.2.2).bind fun r5=>
  ik (.inl (r4,r5))) (
  ik (.inr (s6.1,s6.2)))
def zTX(x0:SPr)(r1:(iv))(s5:(iv)×iv×Int):Option ((iv×iv×Int)⊕iv):=
 cond (decide (s5.2.2<(r1.length:Int))) (
  (zI (zQI x0 s5) (s5.1,s5.2.1)).bind fun r6=>
  (rng (s5.2.2+1)).bind fun v7=>
  ik (.inl (r6.1,r6.2,v7))) (
  ik (.inr s5.2.1))
def f_M(x0:SPr)(x1:iv):Option iv:=
 (f_J x1).bind fun r1=>
 (xF (x1.length:Int)).bind fun m2=>
 (zI (zTX x0 r1) (r1,J1 m2 (0:Int),0)).bind fun r8=>
 ik r8
def zTY(x0:SPr)(x1:iv)(x2:iv):Option iv:=
 (f_J x1).bind fun r1=>
 (f_c x0 r1 x2).bind fun r2=>
 ik r2
def zTZ(x0:SPr)(x1:iv)(x2:iv):Option iv:=
 (f_M x0 x2).bind fun r1=>
 (zTY x0 x1 x2).bind fun r2=>
 (zTY x0 r1 r2).bind fun r3=>
 ik r3
def zMA(x0:Int)(x1:Int):Option iv:=
 (xF x0).bind fun m1=>
 (ixO (J1 m1 (0:Int)) x1).bind fun _=>
 ik ((J1 m1 (0:Int)).set x1.toNat 1)
def zUa(x0:SPr)(x1:Int)(s1:Int):Option (Int⊕(Unit⊕xJ)):=
 cond (decide (s1<(x0.zA.length:Int))) (
  (ixO x0.zF x1).bind fun v2=>
  (rng (s1-x1)).bind fun v3=>
  (rng (v3-1)).bind fun v4=>
  (ixO v2 v4).bind fun v5=>
  (ixO x0.zA s1).bind fun v6=>
  (zWc x0 v5 v6).bind fun r7=>
  (ixO x0.zU s1).bind fun v8=>
  (f_H x0 x1 v8).bind fun r9=>
  (f_V r7 r9).bind fun r10=>
  cond (!r10) (
   ik (.inr (.inr (xJ.mk 1 x1 s1 0)))) (
   (rng (s1+1)).bind fun v11=>
   ik (.inl v11))) (
  ik (.inr (.inl ())))
def zUb(x0:SPr)(x1:Int)(s7:Int)(s8:Int):Option (Int⊕(Unit⊕xJ)):=
 cond (decide (s8<(x0.zA.length:Int))) (
  (ixO x0.zF x1).bind fun v15=>
  (rng (s8-x1)).bind fun v16=>
  (rng (v16-1)).bind fun v17=>
  (ixO v15 v17).bind fun v18=>
  (ixO x0.zF x1).bind fun v19=>
  (rng (s7-x1)).bind fun v20=>
  (rng (v20-1)).bind fun v21=>
  (ixO v19 v21).bind fun v22=>
  (zTZ x0 v18 v22).bind fun r23=>
  (ixO x0.zF s7).bind fun v24=>
  (rng (s8-s7)).bind fun v25=>
  (rng (v25-1)).bind fun v26=>
  (ixO v24 v26).bind fun v27=>
  (f_H x0 x1 v27).bind fun r28=>
  (f_V r23 r28).bind fun r29=>
  cond (!r29) (
   ik (.inr (.inr (xJ.mk 2 x1 s7 s8)))) (
   (rng (s8+1)).bind fun v30=>
   ik (.inl v30))) (
  ik (.inr (.inl ())))
def zUc(x0:SPr)(x1:Int)(s7:Int):Option (Int⊕(Unit⊕xJ)):=
 cond (decide (s7<(x0.zA.length:Int))) (
  (rng (s7+1)).bind fun v14=>
  (zI (zUb x0 x1 s7) v14).bind fun r31=>
  match r31 with
  |(.inl r31)=>
   (rng (s7+1)).bind fun v32=>
   ik (.inl v32)
  |(.inr r31)=>
   ik (.inr (.inr r31))) (
  ik (.inr (.inl ())))
def zUd(x0:SPr)(x1:Int)(v39:Int)(s16:(iv)×Int):Option ((iv×Int)⊕iv):=
 cond (decide (s16.2<v39)) (
  (f_H x0 x1 s16.1).bind fun r40=>
  (rng (s16.2+1)).bind fun v41=>
  ik (.inl (r40,v41))) (
  ik (.inr s16.1))
def zUe(x0:SPr)(x1:Int)(v34:iv)(s15:Int):Option (Int⊕(Unit⊕xJ)):=
 cond (decide (s15<(x0.zA.length:Int))) (
  (zMA (x0.zA.length:Int) s15).bind fun r38=>
  (ixO x0.zA x1).bind fun v39=>
  (zI (zUd x0 x1 v39) (r38,0)).bind fun r42=>
  (zMA (x0.zA.length:Int) s15).bind fun r43=>
  (zTZ x0 r43 v34).bind fun r44=>
  (f_V r42 r44).bind fun r45=>
  cond (!r45) (
   ik (.inr (.inr (xJ.mk 4 x1 s15 0)))) (
   (rng (s15+1)).bind fun v46=>
   ik (.inl v46))) (
  ik (.inr (.inl ())))
def f_n(x0:SPr)(x1:Int):Option xJ:=
 (rng (x1+1)).bind fun v1=>
 (zI (zUa x0 x1) v1).bind fun r12=>
 match r12 with
 |(.inl r12)=>
  (rng (x1+1)).bind fun v13=>
  (zI (zUc x0 x1) v13).bind fun r33=>
  match r33 with
  |(.inl r33)=>
   (ixO x0.zU x1).bind fun v34=>
   (f_H x0 x1 v34).bind fun r35=>
   (f_V r35 v34).bind fun r36=>
   cond (!r36) (
    ik (xJ.mk 3 x1 0 0)) (
    (rng (x1+1)).bind fun v37=>
    (zI (zUe x0 x1 v34) v37).bind fun r47=>
    match r47 with
    |(.inl r47)=>
     ik (xJ.mk 0 0 0 0)
    |(.inr r47)=>
     ik r47)
  |(.inr r33)=>
   ik r33
 |(.inr r12)=>
  ik r12
def zMB(x0:SPr)(s1:Int):Option (Int⊕Int):=
 cond (decide (s1> 0)) (
  (rng (s1-1)).bind fun v1=>
  (f_n x0 v1).bind fun r2=>
  cond (r2.Kind==0&&(r2.zXw==0&&(r2.zXv==0&&r2.zUW==0))) (
   (rng (s1-1)).bind fun v3=>
   ik (.inl v3)) (
   ik (.inr s1))) (
  ik (.inr s1))
def zYQ(x0:SPr):Option Int:=
 (zI (zMB x0) (x0.zA.length:Int)).bind fun r4=>
 ik r4
def zWd(x0:SPr):Option Bool:=
 (f_v x0).bind fun r1=>
 cond r1 (
  (zYQ x0).bind fun r2=>
  ik (r2==0)) (
  ik iq)
def zOh(x0:zB)(x1:Int):Option zT:=
 (ixO x0.zG x1).bind fun v1=>
 ik (zT.mk x0.Prime x0.Dim v1)
def zPO(x0:iv)(x1:Int)(s1:Int):Option (Int⊕(Unit⊕Bool)):=
 cond (decide (s1<(x0.length:Int))) (
  (ixO x0 s1).bind fun v1=>
  (rng (x1-1)).bind fun v2=>
  (zOe v1 0 v2).bind fun r3=>
  cond (!r3) (
   ik (.inr (.inr iq))) (
   (rng (s1+1)).bind fun v4=>
   ik (.inl v4))) (
  ik (.inr (.inl ())))
def zWe(x0:iv)(x1:Int)(x2:Int):Option Bool:=
 cond ((x0.length:Int) != x2) (
  ik iq) (
  (zI (zPO x0 x1) 0).bind fun r5=>
  match r5 with
  |(.inl r5)=>
   ik io
  |(.inr r5)=>
   ik r5)
def zMC(x0:zT)(s1:Int):Option (Int⊕(Unit⊕Bool)):=
 cond (decide (s1<(x0.Rows.length:Int))) (
  (ixO x0.Rows s1).bind fun v3=>
  (zWe v3 x0.Prime x0.xI).bind fun r4=>
  cond (!r4) (
   ik (.inr (.inr iq))) (
   (rng (s1+1)).bind fun v5=>
   ik (.inl v5))) (
  ik (.inr (.inl ())))
def zWf(x0:zT):Option Bool:=
 (zQG x0.Prime).bind fun r1=>
 cond (!r1) (
  ik iq) (
  (zOe x0.xI 0 8).bind fun r2=>
  cond (!r2) (
   ik iq) (
   cond (decide ((x0.Rows.length:Int)> 8)) (
    ik iq) (
    (zI (zMC x0) 0).bind fun r6=>
    match r6 with
    |(.inl r6)=>
     ik io
    |(.inr r6)=>
     ik r6)))
def yAL(x0:Int)(x1:Int):Option (Int×Int):=
 ik ((IntKind.wrap .u64 ((IntKind.wrap .u64 ((IntKind.wrap .u64 ((Gg x0 (2 ^ (min (32:Int).toNat (IntKind.bits .u64))))*(Gg x1 (2 ^ (min (32:Int).toNat (IntKind.bits .u64))))))+(Gg (IntKind.wrap .u64 ((IntKind.wrap .u64 ((Gg x0 (2 ^ (min (32:Int).toNat (IntKind.bits .u64))))*(zGz .u64 x1 4294967295)))+(Gg (IntKind.wrap .u64 ((zGz .u64 x0 4294967295)*(zGz .u64 x1 4294967295))) (2 ^ (min (32:Int).toNat (IntKind.bits .u64)))))) (2 ^ (min (32:Int).toNat (IntKind.bits .u64))))))+(Gg (IntKind.wrap .u64 ((zGz .u64 (IntKind.wrap .u64 ((IntKind.wrap .u64 ((Gg x0 (2 ^ (min (32:Int).toNat (IntKind.bits .u64))))*(zGz .u64 x1 4294967295)))+(Gg (IntKind.wrap .u64 ((zGz .u64 x0 4294967295)*(zGz .u64 x1 4294967295))) (2 ^ (min (32:Int).toNat (IntKind.bits .u64)))))) 4294967295)+(IntKind.wrap .u64 ((zGz .u64 x0 4294967295)*(Gg x1 (2 ^ (min (32:Int).toNat (IntKind.bits .u64)))))))) (2 ^ (min (32:Int).toNat (IntKind.bits .u64)))))),(IntKind.wrap .u64 (x0*x1)))
def zWg(x0:Int)(x1:Int):Option (Int×Int):=
 (yAL x0 x1).bind fun r1=>
 ik (r1.1,r1.2)
def zAh(s1:(iv)×Int):Option ((iv×Int)⊕iv):=
 cond (decide (s1.2<(s1.1.length:Int))) (
  (yB s1.1 s1.2 s1.1.length).bind fun _=>
  (yB s1.1 0 s1.2).bind fun v4=>
  (rng (s1.2+((min v4.length (((s1.1.length:Int).toNat)-((s1.2:Int).toNat)):Nat):Int))).bind fun v5=>
  ik (.inl (wQ s1.1 ((s1.2:Int).toNat) (v4.take (((s1.1.length:Int).toNat)-((s1.2:Int).toNat))),v5))) (
  ik (.inr s1.1))
def f_k(x0:iv)(x1:Int):Option iv:=
 cond (decide (x1<0)) (
  im) (
  (zWg (IntKind.wrap .u64 (x0.length:Int)) (IntKind.wrap .u64 x1)).bind fun r1=>
  cond (decide (r1.1> 0)) (
   im) (
   cond (decide (r1.2> 9223372036854775807)) (
    im) (
    (xF (IntKind.wrap .i64 r1.2)).bind fun m2=>
    (zI zAh (wQ (J1 m2 (0:Int)) 0 (x0.take (((J1 m2 (0:Int)).length)-0)),((min x0.length (((J1 m2 (0:Int)).length)-0):Nat):Int))).bind fun r6=>
    ik r6)))
def zUf(s5:(iv)×Int)(v1:Int)(s6:(iv)×Int):Option ((iv×Int)⊕iv):=
 cond (decide (s6.2<v1)) (
  (rng (s5.2+1)).bind fun v2=>
  (xW s6.1 [v2]).bind fun v3=>
  (rng (s6.2+1)).bind fun v4=>
  ik (.inl (v3,v4))) (
  ik (.inr s6.1))
def zUg(x0:iv)(s5:(iv)×Int):Option ((iv×Int)⊕iv):=
 cond (decide (s5.2<(x0.length:Int))) (
  (ixO x0 s5.2).bind fun v1=>
  (zI (zUf s5 v1) (s5.1,0)).bind fun r5=>
  (rng (s5.2+1)).bind fun v6=>
  ik (.inl (r5,v6))) (
  ik (.inr s5.1))
def f_x(x0:iv):Option iv:=
 (zI (zUg x0) ([],0)).bind fun r7=>
 ik r7
def zUh(x0:SPr)(s1:(List (iv×iv))×Int):Option (((List (iv×iv))×Int)⊕(List (iv×iv))):=
 cond (decide (s1.2<(x0.zA.length:Int))) (
  (ixO x0.zA s1.2).bind fun v1=>
  (rng (s1.2+1)).bind fun v2=>
  (f_k [v2] v1).bind fun r3=>
  (ixO x0.zU s1.2).bind fun v4=>
  (f_x v4).bind fun r5=>
  (xW s1.1 [(r3,r5)]).bind fun v6=>
  (rng (s1.2+1)).bind fun v7=>
  ik (.inl (v6,v7))) (
  ik (.inr s1.1))
def zUi(s7:(List (iv×iv))×Int)(v9:iw)(s8:(List (iv×iv))×Int):Option (((List (iv×iv))×Int)⊕(List (iv×iv))):=
 cond (decide (s8.2<(v9.length:Int))) (
  (ixO v9 s8.2).bind fun v10=>
  (rng (s7.2+1)).bind fun v11=>
  (rng (s7.2+s8.2)).bind fun v12=>
  (rng (v12+2)).bind fun v13=>
  (f_x v10).bind fun r14=>
  (xW [v11] r14).bind fun v15=>
  (xW s8.1 [([v13,v11],v15)]).bind fun v16=>
  (rng (s8.2+1)).bind fun v17=>
  ik (.inl (v16,v17))) (
  ik (.inr s8.1))
def zUj(x0:SPr)(s7:(List (iv×iv))×Int):Option (((List (iv×iv))×Int)⊕(List (iv×iv))):=
 cond (decide (s7.2<(x0.zA.length:Int))) (
  (ixO x0.zF s7.2).bind fun v9=>
  (zI (zUi s7 v9) (s7.1,0)).bind fun r18=>
  (rng (s7.2+1)).bind fun v19=>
  ik (.inl (r18,v19))) (
  ik (.inr s7.1))
def f_C(x0:SPr):Option (List (iv×iv)):=
 (zI (zUh x0) ([],0)).bind fun r8=>
 (zI (zUj x0) (r8,0)).bind fun r20=>
 ik r20
def zQJ(x1:Int)(s1:(iw)×Int):Option ((iw×Int)⊕iw):=
 cond (decide (s1.2<x1)) (
  (xF x1).bind fun m1=>
  (ixO (J1 m1 (0:Int)) s1.2).bind fun _=>
  (xW s1.1 [(J1 m1 (0:Int)).set s1.2.toNat 1]).bind fun v3=>
  (rng (s1.2+1)).bind fun v4=>
  ik (.inl (v3,v4))) (
  ik (.inr s1.1))
def f_X(x0:Int)(x1:Int):Option zT:=
 (zI (zQJ x1) ([],0)).bind fun r5=>
 ik (zT.mk x0 x1 r5)
def zKL(x0:Int)(x1:Int):Option Int:=
 (tB x0 x1).bind fun v1=>
 (rng (v1+x1)).bind fun v2=>
 (tB v2 x1).bind fun v3=>
 ik v3
def zMD(x0:iv)(x1:iv)(x2:Int)(x3:Int)(s1:(iv)×Int):Option ((iv×Int)⊕iv):=
 cond (decide (s1.2<(x0.length:Int))) (
  (ixO s1.1 s1.2).bind fun v1=>
  (ixO x1 s1.2).bind fun v2=>
  (rng (x2*v2)).bind fun v3=>
  (rng (v1+v3)).bind fun v4=>
  (zKL v4 x3).bind fun r5=>
  (ixO s1.1 s1.2).bind fun _=>
  (rng (s1.2+1)).bind fun v7=>
  ik (.inl (s1.1.set s1.2.toNat r5,v7))) (
  ik (.inr s1.1))
def f_s(x0:iv)(x1:iv)(x2:Int)(x3:Int):Option iv:=
 (zI (zMD x0 x1 x2 x3) (x0,0)).bind fun r8=>
 ik r8
def zME(x0:iv)(x1:zT)(s1:(iv)×Int):Option ((iv×Int)⊕iv):=
 cond (decide (s1.2<(x0.length:Int))) (
  (ixO x0 s1.2).bind fun v2=>
  (ixO x1.Rows s1.2).bind fun v3=>
  (f_s s1.1 v3 v2 x1.Prime).bind fun r4=>
  (rng (s1.2+1)).bind fun v5=>
  ik (.inl (r4,v5))) (
  ik (.inr s1.1))
def zUk(x0:iv)(x1:zT):Option iv:=
 (xF x1.xI).bind fun m1=>
 (zI (zME x0 x1) (J1 m1 (0:Int),0)).bind fun r6=>
 ik r6
def zMF(x0:zT)(x1:zT)(s1:(iw)×Int):Option ((iw×Int)⊕iw):=
 cond (decide (s1.2<(x0.Rows.length:Int))) (
  (ixO x0.Rows s1.2).bind fun v1=>
  (zUk v1 x1).bind fun r2=>
  (xW s1.1 [r2]).bind fun v3=>
  (rng (s1.2+1)).bind fun v4=>
  ik (.inl (v3,v4))) (
  ik (.inr s1.1))
def zWh(x0:zT)(x1:zT):Option zT:=
 (zI (zMF x0 x1) ([],0)).bind fun r5=>
 ik (zT.mk x0.Prime x1.xI r5)
def zUl(x0:zB)(x1:iv)(s1:Int×Int×iw×Int):Option ((Int×Int×iw×Int)⊕(Int×Int×iw)):=
 cond (decide (s1.2.2.2<(x1.length:Int))) (
  (ixO x1 s1.2.2.2).bind fun v2=>
  (rng (v2-1)).bind fun v3=>
  (zOh x0 v3).bind fun r4=>
  (zWh (zT.mk s1.1 s1.2.1 s1.2.2.1) r4).bind fun r5=>
  (rng (s1.2.2.2+1)).bind fun v6=>
  ik (.inl (r5.Prime,r5.xI,r5.Rows,v6))) (
  ik (.inr (s1.1,s1.2.1,s1.2.2.1)))
def f_E(x0:zB)(x1:iv):Option zT:=
 (f_X x0.Prime x0.Dim).bind fun r1=>
 (zI (zUl x0 x1) (r1.Prime,r1.xI,r1.Rows,0)).bind fun r7=>
 ik (zT.mk r7.1 r7.2.1 r7.2.2)
def zUm(x0:iw)(x1:iw)(s1:Int):Option (Int⊕(Unit⊕Bool)):=
 cond (decide (s1<(x0.length:Int))) (
  (ixO x0 s1).bind fun v1=>
  (ixO x1 s1).bind fun v2=>
  (f_V v1 v2).bind fun r3=>
  cond (!r3) (
   ik (.inr (.inr iq))) (
   (rng (s1+1)).bind fun v4=>
   ik (.inl v4))) (
  ik (.inr (.inl ())))
def zYR(x0:iw)(x1:iw):Option Bool:=
 cond ((x0.length:Int) != (x1.length:Int)) (
  ik iq) (
  (zI (zUm x0 x1) 0).bind fun r5=>
  match r5 with
  |(.inl r5)=>
   ik io
  |(.inr r5)=>
   ik r5)
def zWi(x0:iw)(x1:iw):Option Bool:=
 (zYR x0 x1).bind fun r1=>
 ik r1
def zUn(x1:zB)(s1:Int):Option (Int⊕(Unit⊕Bool)):=
 cond (decide (s1<(x1.zG.length:Int))) (
  (ixO x1.zG s1).bind fun v4=>
  cond ((v4.length:Int) != x1.Dim) (
   ik (.inr (.inr iq))) (
   (zOh x1 s1).bind fun r5=>
   (zWf r5).bind fun r6=>
   cond (!r6) (
    ik (.inr (.inr iq))) (
    (rng (s1+1)).bind fun v7=>
    ik (.inl v7)))) (
  ik (.inr (.inl ())))
def zUo(x1:zB)(r9:(List (iv×iv)))(s3:Int):Option (Int⊕(Unit⊕Bool)):=
 cond (decide (s3<(r9.length:Int))) (
  (ixO r9 s3).bind fun v10=>
  (f_E x1 v10.1).bind fun r11=>
  (f_E x1 v10.2).bind fun r12=>
  (zWi r11.Rows r12.Rows).bind fun r13=>
  cond (!r13) (
   ik (.inr (.inr iq))) (
   (rng (s3+1)).bind fun v14=>
   ik (.inl v14))) (
  ik (.inr (.inl ())))
def f_I(x0:SPr)(x1:zB):Option Bool:=
 (zWd x0).bind fun r1=>
 cond (!r1) (
  ik iq) (
  (zQG x1.Prime).bind fun r2=>
  cond (!r2) (
   ik iq) (
   (zOe x1.Dim 1 3).bind fun r3=>
   cond (!r3) (
    ik iq) (
    cond ((x1.zG.length:Int) != (x0.zA.length:Int)) (
     ik iq) (
     (zI (zUn x1) 0).bind fun r8=>
     match r8 with
     |(.inl r8)=>
      (f_C x0).bind fun r9=>
      (zI (zUo x1 r9) 0).bind fun r15=>
      match r15 with
      |(.inl r15)=>
       ik io
      |(.inr r15)=>
       ik r15
     |(.inr r8)=>
      ik r8))))
def zUp(x1:Int):Option iv:=
 cond (decide (x1<0)) (
  im) (
  (rng (0-0)).bind fun v1=>
  (rng (x1-v1)).bind fun v2=>
  cond (decide (v2> 0)) (
   (uP [] v2 (0:Int)).bind fun v3=>
   (yB v3 0 0).bind fun v4=>
   ik v4) (
   ik []))
def zUq(x0:iw)(s1:Int×Int):Option ((Int×Int)⊕Int):=
 cond (decide (s1.2<(x0.length:Int))) (
  (ixO x0 s1.2).bind fun v1=>
  (rng (s1.1+(v1.length:Int))).bind fun v2=>
  cond (decide (v2<0)) (
   im) (
   (rng (s1.2+1)).bind fun v3=>
   ik (.inl (v2,v3)))) (
  ik (.inr s1.1))
def zUr(x0:iw)(s3:(iv)×Int):Option ((iv×Int)⊕iv):=
 cond (decide (s3.2<(x0.length:Int))) (
  (ixO x0 s3.2).bind fun v6=>
  (xW s3.1 v6).bind fun v7=>
  (rng (s3.2+1)).bind fun v8=>
  ik (.inl (v7,v8))) (
  ik (.inr s3.1))
def f_y(x0:iw):Option iv:=
 (zI (zUq x0) (0,0)).bind fun r4=>
 (zUp r4).bind fun r5=>
 (zI (zUr x0) (r5,0)).bind fun r9=>
 ik r9
def zUs(x0:iv)(x1:iv)(s1:Int):Option (Int⊕(Unit⊕Bool)):=
 cond (decide (s1<(x0.length:Int))) (
  (ixO x0 s1).bind fun v1=>
  (ixO x1 s1).bind fun v2=>
  cond (v1 != v2) (
   ik (.inr (.inr iq))) (
   (rng (s1+1)).bind fun v3=>
   ik (.inl v3))) (
  ik (.inr (.inl ())))
def zUt(x0:iv)(x1:iv):Option Bool:=
 cond ((x0.length:Int) != (x1.length:Int)) (
  ik iq) (
  (zI (zUs x0 x1) 0).bind fun r4=>
  match r4 with
  |(.inl r4)=>
   ik io
  |(.inr r4)=>
   ik r4)
def zUu(x0:iw)(x1:iw)(s1:Int):Option (Int⊕(Unit⊕Bool)):=
 cond (decide (s1<(x0.length:Int))) (
  (ixO x0 s1).bind fun v1=>
  (ixO x1 s1).bind fun v2=>
  (zUt v1 v2).bind fun r3=>
  cond (!r3) (
   ik (.inr (.inr iq))) (
   (rng (s1+1)).bind fun v4=>
   ik (.inl v4))) (
  ik (.inr (.inl ())))
def zUv(x0:iw)(x1:iw):Option Bool:=
 cond ((x0.length:Int) != (x1.length:Int)) (
  ik iq) (
  (zI (zUu x0 x1) 0).bind fun r5=>
  match r5 with
  |(.inl r5)=>
   ik io
  |(.inr r5)=>
   ik r5)
def zYS(x0:List iw)(x1:List iw)(s1:Int):Option (Int⊕(Unit⊕Bool)):=
 cond (decide (s1<(x0.length:Int))) (
  (ixO x0 s1).bind fun v1=>
  (ixO x1 s1).bind fun v2=>
  (zUv v1 v2).bind fun r3=>
  cond (!r3) (
   ik (.inr (.inr iq))) (
   (rng (s1+1)).bind fun v4=>
   ik (.inl v4))) (
  ik (.inr (.inl ())))
def f_S(x0:List iw)(x1:List iw):Option Bool:=
 cond ((x0.length:Int) != (x1.length:Int)) (
  ik iq) (
  (zI (zYS x0 x1) 0).bind fun r5=>
  match r5 with
  |(.inl r5)=>
   ik io
  |(.inr r5)=>
   ik r5)
def zWj(x0:zB)(x1:zB):Option Bool:=
 cond (x0.Prime != x1.Prime) (
  ik iq) (
  cond (x0.Dim != x1.Dim) (
   ik iq) (
   (f_S x0.zG x1.zG).bind fun r1=>
   cond (!r1) (
    ik iq) (
    ik io)))
def zWk(x0:SPr)(x1:SPr):Option Bool:=
 (zUt x0.zA x1.zA).bind fun r1=>
 cond (!r1) (
  ik iq) (
  (zUv x0.zU x1.zU).bind fun r2=>
  cond (!r2) (
   ik iq) (
   (f_S x0.zF x1.zF).bind fun r3=>
   cond (!r3) (
    ik iq) (
    ik io)))
def zPP(s1:(iv)×Int×Int):Option ((iv×Int×Int)⊕(iv×Int)):=
 cond (decide (s1.2.2<(s1.1.length:Int))) (
  (ixO s1.1 s1.2.2).bind fun _=>
  (rng (s1.2.1+1)).bind fun v2=>
  (rng (s1.2.2+1)).bind fun v3=>
  ik (.inl (s1.1.set s1.2.2.toNat s1.2.1,v2,v3))) (
  ik (.inr (s1.1,s1.2.1)))
def zQK(x0:iv)(x1:Int):Option (Int×iv):=
 (zI zPP (x0,x1,0)).bind fun r4=>
 ik (r4.2,r4.1)
def zUw(s1:(iw)×Int×Int):Option ((iw×Int×Int)⊕(iw×Int)):=
 cond (decide (s1.2.2<(s1.1.length:Int))) (
  (ixO s1.1 s1.2.2).bind fun v1=>
  (zQK v1 s1.2.1).bind fun r2=>
  (rng (s1.2.2+1)).bind fun v3=>
  ik (.inl (s1.1.set s1.2.2.toNat r2.2,r2.1,v3))) (
  ik (.inr (s1.1,s1.2.1)))
def zQL(x0:iw)(x1:Int):Option (Int×iw):=
 (zI zUw (x0,x1,0)).bind fun r4=>
 ik (r4.2,r4.1)
def zUx(s1:(List iw)×Int×Int):Option (((List iw)×Int×Int)⊕((List iw)×Int)):=
 cond (decide (s1.2.2<(s1.1.length:Int))) (
  (ixO s1.1 s1.2.2).bind fun v1=>
  (zQL v1 s1.2.1).bind fun r2=>
  (rng (s1.2.2+1)).bind fun v3=>
  ik (.inl (s1.1.set s1.2.2.toNat r2.2,r2.1,v3))) (
  ik (.inr (s1.1,s1.2.1)))
def zQM(x0:List iw)(x1:Int):Option (Int×(List iw)):=
 (zI zUx (x0,x1,0)).bind fun r4=>
 ik (r4.2,r4.1)
def zWl(x0:SPr)(x1:Int):Option (Int×SPr):=
 (zQK x0.zA x1).bind fun r1=>
 (zQL x0.zU r1.1).bind fun r2=>
 (zQM x0.zF r2.1).bind fun r3=>
 ik (r3.1,(SPr.mk r1.2 r2.2 r3.2))
def zWm(x0:zB)(x1:Int):Option (Int×zB):=
 (zQM x0.zG x1).bind fun r1=>
 ik (r1.1,(zB.mk x0.Prime x0.Dim r1.2))
def zMG(x0:iv)(s1:Int×Int):Option ((Int×Int)⊕(Int⊕Int)):=
 cond (decide (s1.2<(x0.length:Int))) (
  (ixO x0 s1.2).bind fun v1=>
  cond (v1 != s1.1) (
   ik (.inr (.inr (-1)))) (
   (rng (s1.1+1)).bind fun v2=>
   (rng (s1.2+1)).bind fun v3=>
   ik (.inl (v2,v3)))) (
  ik (.inr (.inl s1.1)))
def zUy(x0:iv)(x1:Int):Option Int:=
 (zI (zMG x0) (x1,0)).bind fun r4=>
 match r4 with
 |(.inl r4)=>
  ik r4
 |(.inr r4)=>
  ik r4
def zUz(x0:iw)(s1:Int×Int):Option ((Int×Int)⊕(Int⊕Int)):=
 cond (decide (s1.2<(x0.length:Int))) (
  (ixO x0 s1.2).bind fun v1=>
  (zUy v1 s1.1).bind fun r2=>
  cond (decide (r2<0)) (
   ik (.inr (.inr (-1)))) (
   (rng (s1.2+1)).bind fun v3=>
   ik (.inl (r2,v3)))) (
  ik (.inr (.inl s1.1)))
def zWn(x0:iw)(x1:Int):Option Int:=
 (zI (zUz x0) (x1,0)).bind fun r4=>
 match r4 with
 |(.inl r4)=>
  ik r4
 |(.inr r4)=>
  ik r4
def zU0(x0:List iw)(s1:Int×Int):Option ((Int×Int)⊕(Int⊕Int)):=
 cond (decide (s1.2<(x0.length:Int))) (
  (ixO x0 s1.2).bind fun v1=>
  (zWn v1 s1.1).bind fun r2=>
  cond (decide (r2<0)) (
   ik (.inr (.inr (-1)))) (
   (rng (s1.2+1)).bind fun v3=>
   ik (.inl (r2,v3)))) (
  ik (.inr (.inl s1.1)))
def zWo(x0:List iw)(x1:Int):Option Int:=
 (zI (zU0 x0) (x1,0)).bind fun r4=>
 match r4 with
 |(.inl r4)=>
  ik r4
 |(.inr r4)=>
  ik r4
def zMH(x0:iw)(s1:(iw)×Int):Option ((iw×Int)⊕iw):=
 cond (decide (s1.2<(x0.length:Int))) (
  (ixO x0 s1.2).bind fun v1=>
  (rng ((v1.length:Int)+(x0.length:Int))).bind fun v2=>
  (xF v2).bind fun m3=>
  (rng ((v1.length:Int)+s1.2)).bind fun v4=>
  (ixO (wQ (J1 m3 (0:Int)) 0 (v1.take (((J1 m3 (0:Int)).length)-0))) v4).bind fun _=>
  (xW s1.1 [(wQ (J1 m3 (0:Int)) 0 (v1.take (((J1 m3 (0:Int)).length)-0))).set v4.toNat 1]).bind fun v6=>
  (rng (s1.2+1)).bind fun v7=>
  ik (.inl (v6,v7))) (
  ik (.inr s1.1))
def zWp(x0:iw):Option iw:=
 (zI (zMH x0) ([],0)).bind fun r8=>
 ik r8
def zMI(x0:iw)(s1:(iw)×Int):Option ((iw×Int)⊕iw):=
 cond (decide (s1.2<(x0.length:Int))) (
  (ixO x0 s1.2).bind fun v1=>
  (f_J v1).bind fun r2=>
  (xW s1.1 [r2]).bind fun v3=>
  (rng (s1.2+1)).bind fun v4=>
  ik (.inl (v3,v4))) (
  ik (.inr s1.1))
def zWq(x0:iw):Option iw:=
 (zI (zMI x0) ([],0)).bind fun r5=>
 ik r5
def zQN(s1:Int×Int×Int×Int):Option ((Int×Int×Int×Int)⊕(Int×Int)):=
 cond (s1.2.1 != 0) (
  (tR s1.1 s1.2.1).bind fun v1=>
  (rng (v1*s1.2.1)).bind fun v2=>
  (rng (s1.1-v2)).bind fun v3=>
  (rng (v1*s1.2.2.2)).bind fun v4=>
  (rng (s1.2.2.1-v4)).bind fun v5=>
  ik (.inl (s1.2.1,v3,s1.2.2.2,v5))) (
  ik (.inr (s1.1,s1.2.2.1)))
def f_R(x0:Int)(x1:Int):Option (Int×Bool):=
 (zI zQN (x1,x0,0,1)).bind fun r6=>
 (zKL r6.2 x1).bind fun r7=>
 ik (r7,(r6.1==1))
def zIF(s13:(iw)×Int×Int)(s14:Int):Option (Int⊕Int):=
 cond (decide (s14<(s13.1.length:Int))) (
  (ixO s13.1 s14).bind fun v3=>
  (ixO v3 s13.2.2).bind fun v4=>
  cond (v4==0) (
   (rng (s14+1)).bind fun v5=>
   ik (.inl v5)) (
   ik (.inr s14))) (
  ik (.inr s14))
def zMJ(x0:Int)(s13:(iw)×Int×Int)(r12:Int×Bool)(v13:iv)(s16:(iw)×Int):Option ((iw×Int)⊕iw):=
 cond (decide (s16.2<(v13.length:Int))) (
  (ixO s16.1 s13.2.1).bind fun v14=>
  (ixO s16.1 s13.2.1).bind fun v15=>
  (ixO v15 s16.2).bind fun v16=>
  (rng (v16*r12.1)).bind fun v17=>
  (tB v17 x0).bind fun v18=>
  (ixO v14 s16.2).bind fun _=>
  (rng (s16.2+1)).bind fun v20=>
  ik (.inl (s16.1.set s13.2.1.toNat (v14.set s16.2.toNat v18),v20))) (
  ik (.inr s16.1))
def zOi(x0:Int)(s13:(iw)×Int×Int)(r21:(iw))(s18:(iw)×Int):Option ((iw×Int)⊕iw):=
 cond (decide (s18.2<(r21.length:Int))) (
  cond (s18.2 != s13.2.1) (
   (ixO s18.1 s18.2).bind fun v22=>
   (ixO s18.1 s13.2.1).bind fun v23=>
   (ixO s18.1 s18.2).bind fun v24=>
   (ixO v24 s13.2.2).bind fun v25=>
   (rng (0-v25)).bind fun v26=>
   (f_s v22 v23 v26 x0).bind fun r27=>
   (rng (s18.2+1)).bind fun v28=>
   ik (.inl (s18.1.set s18.2.toNat r27,v28))) (
   (rng (s18.2+1)).bind fun v29=>
   ik (.inl (s18.1,v29)))) (
  ik (.inr s18.1))
def zOj(x0:Int)(s13:(iw)×Int×Int):Option ((iw×Int×Int)⊕(iw×Int)):=
 cond (decide ((s13.1.length:Int)> 0)) (
  (ixO s13.1 0).bind fun v2=>
  cond (decide (s13.2.2<(v2.length:Int))) (
   cond (decide (s13.2.1<(s13.1.length:Int))) (
    (zI (zIF s13) s13.2.1).bind fun r6=>
    cond (r6==(s13.1.length:Int)) (
     (rng (s13.2.2+1)).bind fun v7=>
     ik (.inl (s13.1,s13.2.1,v7))) (
     (ixO s13.1 r6).bind fun v8=>
     (ixO s13.1 s13.2.1).bind fun v9=>
     (ixO (jS s13.1 s13.2.1 r6 v8 v9) s13.2.1).bind fun v10=>
     (ixO v10 s13.2.2).bind fun v11=>
     (f_R v11 x0).bind fun r12=>
     (ixO (jS s13.1 s13.2.1 r6 v8 v9) s13.2.1).bind fun v13=>
     (zI (zMJ x0 s13 r12 v13) (jS s13.1 s13.2.1 r6 v8 v9,0)).bind fun r21=>
     (zI (zOi x0 s13 r21) (r21,0)).bind fun r30=>
     (rng (s13.2.1+1)).bind fun v31=>
     (rng (s13.2.2+1)).bind fun v32=>
     ik (.inl (r30,v31,v32)))) (
    ik (.inr (s13.1,s13.2.1)))) (
   ik (.inr (s13.1,s13.2.1)))) (
  ik (.inr (s13.1,s13.2.1)))
def f_i(x0:Int)(x1:iw):Option iw:=
 (zWq x1).bind fun r1=>
 (zI (zOj x0) (r1,0,0)).bind fun r33=>
 (yB r33.1 0 r33.2).bind fun v34=>
 ik v34
def zU1(x0:Int)(x1:Int):Option Int:=
 (tB x0 x1).bind fun v1=>
 cond (decide (v1<0)) (
  (rng (v1+x1)).bind fun v2=>
  ik v2) (
  ik v1)
def zIG(x0:iv)(s1:Int):Option (Int⊕(Unit⊕Int)):=
 cond (decide (s1<(x0.length:Int))) (
  (ixO x0 s1).bind fun v1=>
  cond (v1 != 0) (
   ik (.inr (.inr s1))) (
   (rng (s1+1)).bind fun v2=>
   ik (.inl v2))) (
  ik (.inr (.inl ())))
def f_F(x0:iv):Option Int:=
 (zI (zIG x0) 0).bind fun r3=>
 match r3 with
 |(.inl r3)=>
  ik (x0.length:Int)
 |(.inr r3)=>
  ik r3
def zU2(x0:Int)(x2:Int)(x3:iv)(s1:(iv)×Int):Option ((iv×Int)⊕iv):=
 cond (decide (s1.2<(s1.1.length:Int))) (
  cond (decide (s1.2<(x3.length:Int))) (
   (ixO s1.1 s1.2).bind fun v2=>
   (ixO x3 s1.2).bind fun v3=>
   (rng (x2*v3)).bind fun v4=>
   (rng (v2+v4)).bind fun v5=>
   (zU1 v5 x0).bind fun r6=>
   (ixO s1.1 s1.2).bind fun _=>
   (rng (s1.2+1)).bind fun v8=>
   ik (.inl (s1.1.set s1.2.toNat r6,v8))) (
   ik (.inr s1.1))) (
  ik (.inr s1.1))
def f_w(x0:Int)(x1:iv)(x2:Int)(x3:iv):Option iv:=
 (f_B x1).bind fun r1=>
 (zI (zU2 x0 x2 x3) (r1,0)).bind fun r9=>
 ik r9
def zMK(x0:Int)(x1:iw)(s1:(iv)×Int):Option ((iv×Int)⊕iv):=
 cond (decide (s1.2<(x1.length:Int))) (
  (ixO x1 s1.2).bind fun v2=>
  (f_F v2).bind fun r3=>
  cond (decide (r3<(s1.1.length:Int))) (
   (ixO s1.1 r3).bind fun v4=>
   cond (v4 != 0) (
    (ixO s1.1 r3).bind fun v5=>
    (rng (x0-v5)).bind fun v6=>
    (ixO x1 s1.2).bind fun v7=>
    (f_w x0 s1.1 v6 v7).bind fun r8=>
    (rng (s1.2+1)).bind fun v9=>
    ik (.inl (r8,v9))) (
    (rng (s1.2+1)).bind fun v10=>
    ik (.inl (s1.1,v10)))) (
   (rng (s1.2+1)).bind fun v11=>
   ik (.inl (s1.1,v11)))) (
  ik (.inr s1.1))
def zQO(x0:Int)(x1:iw)(x2:iv):Option iv:=
 (f_B x2).bind fun r1=>
 (zI (zMK x0 x1) (r1,0)).bind fun r12=>
 ik r12
def zML(x0:Int)(x1:Int)(s1:Int):Option (Int⊕(Unit⊕Int)):=
 cond (decide (s1<x1)) (
  (zU1 x0 x1).bind fun r1=>
  (rng (r1*s1)).bind fun v2=>
  (tB v2 x1).bind fun v3=>
  cond (v3==1) (
   ik (.inr (.inr s1))) (
   (rng (s1+1)).bind fun v4=>
   ik (.inl v4))) (
  ik (.inr (.inl ())))
def zWr(x0:Int)(x1:Int):Option Int:=
 (zI (zML x0 x1) 1).bind fun r5=>
 match r5 with
 |(.inl r5)=>
  ik 0
 |(.inr r5)=>
  ik r5
def zWs(x0:Int)(x1:Int)(x2:iv):Option iv:=
 (xF (x2.length:Int)).bind fun m1=>
 (f_w x0 (J1 m1 (0:Int)) x1 x2).bind fun r2=>
 ik r2
def zIH(x0:Int)(s5:(iw)×Int)(r3:Int)(r7:(iv))(s6:(iw)×Bool×Int):Option ((iw×Bool×Int)⊕(iw×Bool)):=
 cond (decide (s6.2.2<(s5.1.length:Int))) (
  cond (!s6.2.1) (
   (ixO s5.1 s6.2.2).bind fun v8=>
   (f_F v8).bind fun r9=>
   cond (decide (r9> r3)) (
    (xW s6.1 [r7]).bind fun v10=>
    (ixO s5.1 s6.2.2).bind fun v11=>
    (ixO s5.1 s6.2.2).bind fun v12=>
    (ixO v12 r3).bind fun v13=>
    (rng (x0-v13)).bind fun v14=>
    (f_w x0 v11 v14 r7).bind fun r15=>
    (xW v10 [r15]).bind fun v16=>
    (rng (s6.2.2+1)).bind fun v17=>
    ik (.inl (v16,io,v17))) (
    (ixO s5.1 s6.2.2).bind fun v18=>
    (ixO s5.1 s6.2.2).bind fun v19=>
    (ixO v19 r3).bind fun v20=>
    (rng (x0-v20)).bind fun v21=>
    (f_w x0 v18 v21 r7).bind fun r22=>
    (xW s6.1 [r22]).bind fun v23=>
    (rng (s6.2.2+1)).bind fun v24=>
    ik (.inl (v23,s6.2.1,v24)))) (
   (ixO s5.1 s6.2.2).bind fun v25=>
   (ixO s5.1 s6.2.2).bind fun v26=>
   (ixO v26 r3).bind fun v27=>
   (rng (x0-v27)).bind fun v28=>
   (f_w x0 v25 v28 r7).bind fun r29=>
   (xW s6.1 [r29]).bind fun v30=>
   (rng (s6.2.2+1)).bind fun v31=>
   ik (.inl (v30,s6.2.1,v31)))) (
  ik (.inr (s6.1,s6.2.1)))
def zQP(x0:Int)(x1:iw)(s5:(iw)×Int):Option ((iw×Int)⊕iw):=
 cond (decide (s5.2<(x1.length:Int))) (
  (ixO x1 s5.2).bind fun v1=>
  (zQO x0 s5.1 v1).bind fun r2=>
  (f_F r2).bind fun r3=>
  cond (r3==(r2.length:Int)) (
   (rng (s5.2+1)).bind fun v4=>
   ik (.inl (s5.1,v4))) (
   (ixO r2 r3).bind fun v5=>
   (zWr v5 x0).bind fun r6=>
   (zWs x0 r6 r2).bind fun r7=>
   (zI (zIH x0 s5 r3 r7) ([],iq,0)).bind fun r32=>
   cond (!r32.2) (
    (xW r32.1 [r7]).bind fun v33=>
    (rng (s5.2+1)).bind fun v34=>
    ik (.inl (v33,v34))) (
    (rng (s5.2+1)).bind fun v35=>
    ik (.inl (r32.1,v35))))) (
  ik (.inr s5.1))
def f_q(x0:Int)(x1:iw):Option iw:=
 (zI (zQP x0 x1) ([],0)).bind fun r36=>
 ik r36
def zMM(x1:iw)(r1:(iw))(s1:(iw)×Int):Option ((iw×Int)⊕iw):=
 cond (decide (s1.2<(x1.length:Int))) (
  (ixO x1 s1.2).bind fun v2=>
  (f_B v2).bind fun r3=>
  (ixO r1 s1.2).bind fun v4=>
  (xW r3 v4).bind fun v5=>
  (xW s1.1 [v5]).bind fun v6=>
  (rng (s1.2+1)).bind fun v7=>
  ik (.inl (v6,v7))) (
  ik (.inr s1.1))
def zWt(x0:Int)(x1:iw):Option iw:=
 (f_N (x1.length:Int)).bind fun r1=>
 (zI (zMM x1 r1) ([],0)).bind fun r8=>
 (f_q x0 r8).bind fun r9=>
 ik r9
def zJ7(x2:Int)(r1:(iw))(s1:(iw)×Int):Option ((iw×Int)⊕iw):=
 cond (decide (s1.2<(r1.length:Int))) (
  (ixO r1 s1.2).bind fun v2=>
  (f_F v2).bind fun r3=>
  cond (decide (r3≥x2)) (
   (ixO r1 s1.2).bind fun v4=>
   (yB v4 x2 v4.length).bind fun v5=>
   (f_B v5).bind fun r6=>
   (xW s1.1 [r6]).bind fun v7=>
   (rng (s1.2+1)).bind fun v8=>
   ik (.inl (v7,v8))) (
   (rng (s1.2+1)).bind fun v9=>
   ik (.inl (s1.1,v9)))) (
  ik (.inr s1.1))
def zWu(x0:Int)(x1:iw)(x2:Int):Option iw:=
 (zWt x0 x1).bind fun r1=>
 (zI (zJ7 x2 r1) ([],0)).bind fun r10=>
 ik r10
def zU3(x0:SPr):Option Int:=
 (rng ((x0.zA.length:Int)-1)).bind fun v1=>
 (rng ((x0.zA.length:Int)*v1)).bind fun v2=>
 (tR v2 2).bind fun v3=>
 (rng ((x0.zA.length:Int)+v3)).bind fun v4=>
 ik v4
def zYT(x0:Int)(x1:Int)(x2:Int):Option Int:=
 (rng (x1*x0)).bind fun v1=>
 (rng (x0+v1)).bind fun v2=>
 (rng (x1+1)).bind fun v3=>
 (rng (x1*v3)).bind fun v4=>
 (tR v4 2).bind fun v5=>
 (rng (v2-v5)).bind fun v6=>
 (rng (v6+x2)).bind fun v7=>
 (rng (v7-x1)).bind fun v8=>
 (rng (v8-1)).bind fun v9=>
 ik v9
def zU4(x0:SPr):Option Int:=
 (rng ((x0.zA.length:Int)+1)).bind fun v1=>
 (rng ((x0.zA.length:Int)*v1)).bind fun v2=>
 (tR v2 2).bind fun v3=>
 ik v3
def zU5(x0:iv)(x1:Int)(s1:(iw)×Int):Option ((iw×Int)⊕iw):=
 cond (decide (s1.2<(x0.length:Int))) (
  (rng (s1.2+x1)).bind fun v1=>
  (yB x0 s1.2 v1).bind fun v2=>
  (f_J v2).bind fun r3=>
  (xW s1.1 [r3]).bind fun v4=>
  (rng (s1.2+x1)).bind fun v5=>
  ik (.inl (v4,v5))) (
  ik (.inr s1.1))
def f_Y(x0:iv)(x1:Int):Option iw:=
 (zI (zU5 x0 x1) ([],0)).bind fun r6=>
 ik r6
def zMN(x0:zB)(x1:iw)(x2:iv)(x3:Int):Option iv:=
 (ixO x0.zG x3).bind fun v1=>
 (f_K x0.Prime x2 v1 x0.Dim).bind fun r2=>
 (ixO x1 x3).bind fun v3=>
 (f_w x0.Prime r2 1 v3).bind fun r4=>
 ik r4
def zU6(x0:zB)(x1:iw)(x3:iv)(s5:(iv)×Int)(s6:(iv)×Int):Option ((iv×Int)⊕iv):=
 (ixO x3 s5.2).bind fun v1=>
 cond (decide (s6.2<v1)) (
  (zMN x0 x1 s6.1 s5.2).bind fun r2=>
  (rng (s6.2+1)).bind fun v3=>
  ik (.inl (r2,v3))) (
  ik (.inr s6.1))
def zU7(x0:zB)(x1:iw)(x3:iv)(s5:(iv)×Int):Option ((iv×Int)⊕iv):=
 cond (decide (s5.2<(x3.length:Int))) (
  (zI (zU6 x0 x1 x3 s5) (s5.1,0)).bind fun r4=>
  (rng (s5.2+1)).bind fun v5=>
  ik (.inl (r4,v5))) (
  ik (.inr s5.1))
def f_P(x0:zB)(x1:iw)(x2:iv)(x3:iv):Option iv:=
 (zI (zU7 x0 x1 x3) (x2,0)).bind fun r6=>
 ik r6
def zMO(x0:zB)(x1:iw)(x2:iv)(s1:(iv)×Int):Option ((iv×Int)⊕iv):=
 cond (decide (s1.2<(x2.length:Int))) (
  (ixO x2 s1.2).bind fun v2=>
  (rng (v2-1)).bind fun v3=>
  (zOh x0 v3).bind fun r4=>
  (zUk s1.1 r4).bind fun r5=>
  (rng (v2-1)).bind fun v6=>
  (ixO x1 v6).bind fun v7=>
  (f_s r5 v7 1 x0.Prime).bind fun r8=>
  (rng (s1.2+1)).bind fun v9=>
  ik (.inl (r8,v9))) (
  ik (.inr s1.1))
def zU8(x0:zB)(x1:iw)(x2:iv):Option iv:=
 (xF x0.Dim).bind fun m1=>
 (zI (zMO x0 x1 x2) (J1 m1 (0:Int),0)).bind fun r10=>
 ik r10
def zMP(x1:zB)(x2:iw)(r1:(List (iv×iv)))(s1:(iw)×Int):Option ((iw×Int)⊕iw):=
 cond (decide (s1.2<(r1.length:Int))) (
  (ixO r1 s1.2).bind fun v2=>
  (zU8 x1 x2 v2.1).bind fun r3=>
  (zU8 x1 x2 v2.2).bind fun r4=>
  (f_s r3 r4 (-1) x1.Prime).bind fun r5=>
  (xW s1.1 [r5]).bind fun v6=>
  (rng (s1.2+1)).bind fun v7=>
  ik (.inl (v6,v7))) (
  ik (.inr s1.1))
def zWv(x0:SPr)(x1:zB)(x2:iw):Option iw:=
 (f_C x0).bind fun r1=>
 (zI (zMP x1 x2 r1) ([],0)).bind fun r8=>
 ik r8
def zMQ(x0:zY):Option zJ:=
 cond (decide ((x0.zNb.length:Int)> 0)) (
  (ixO x0.zNb 0).bind fun v1=>
  (xF (x0.p.zA.length:Int)).bind fun m2=>
  (xF (v1.length:Int)).bind fun m3=>
  ik (zJ.mk (J1 m2 (0:Int)) (J1 m3 (0:Int)))) (
  (xF (x0.p.zA.length:Int)).bind fun m4=>
  (xF 0).bind fun m5=>
  ik (zJ.mk (J1 m4 (0:Int)) (J1 m5 (0:Int))))
def f_Z(x0:zY)(x1:Int)(x2:Int):Option zJ:=
 (ixO x0.p.zF x1).bind fun v1=>
 (rng (x2-x1)).bind fun v2=>
 (rng (v2-1)).bind fun v3=>
 (ixO v1 v3).bind fun v4=>
 (zYT (x0.p.zA.length:Int) x1 x2).bind fun r5=>
 (ixO x0.zNb r5).bind fun v6=>
 ik (zJ.mk v4 v6)
def zMR(x0:zB)(x1:iv)(x2:Int)(s1:(iv)×Int):Option ((iv×Int)⊕iv):=
 cond (decide (s1.2<(x1.length:Int))) (
  (rng (s1.2+x0.Dim)).bind fun v1=>
  (yB x1 s1.2 v1).bind fun v2=>
  (ixO x0.zG x2).bind fun v3=>
  (f_K x0.Prime v2 v3 x0.Dim).bind fun r4=>
  (xW s1.1 r4).bind fun v5=>
  (rng (s1.2+x0.Dim)).bind fun v6=>
  ik (.inl (v5,v6))) (
  ik (.inr s1.1))
def zWw(x0:zB)(x1:iv)(x2:Int):Option iv:=
 (zI (zMR x0 x1 x2) ([],0)).bind fun r7=>
 ik r7
def zOl(x0:zY)(x1:Int):Option zJ:=
 (ixO x0.p.zU x1).bind fun v1=>
 (ixO x0.zNb x1).bind fun v2=>
 ik (zJ.mk v1 v2)
def zWx(g_d:zY→Int→zJ→zJ→Option zJ)(x0:zY)(x1:Int)(x2:zJ)(s5:(iv)×iv×Int)(s6:(iv)×iv×Int):Option ((iv×iv×Int)⊕(iv×iv)):=
 (ixO x2.x s5.2.2).bind fun v3=>
 cond (decide (s6.2.2<v3)) (
  (rng (x1+1)).bind fun v4=>
  (f_Z x0 x1 s5.2.2).bind fun r5=>
  (g_d x0 v4 (zJ.mk s6.1 s6.2.1) r5).bind fun r6=>
  (rng (s6.2.2+1)).bind fun v7=>
  ik (.inl (r6.x,r6.v,v7))) (
  ik (.inr (s6.1,s6.2.1)))
def zU9(g_d:zY→Int→zJ→zJ→Option zJ)(x0:zY)(x1:Int)(x2:zJ)(s5:(iv)×iv×Int):Option ((iv×iv×Int)⊕(iv×iv)):=
 cond (decide (s5.2.2<(x2.x.length:Int))) (
  (zI (zWx g_d x0 x1 x2 s5) (s5.1,s5.2.1,0)).bind fun r8=>
  (rng (s5.2.2+1)).bind fun v9=>
  ik (.inl (r8.1,r8.2,v9))) (
  ik (.inr (s5.1,s5.2.1)))
def b_h(g_d:zY→Int→zJ→zJ→Option zJ)(x0:zY)(x1:Int)(x2:zJ):Option zJ:=
 (zMQ x0).bind fun r1=>
 (rng (x1+1)).bind fun v2=>
 (zI (zU9 g_d x0 x1 x2) (r1.x,r1.v,v2)).bind fun r10=>
 (zWw x0.m x2.v x1).bind fun r11=>
 (f_w x0.m.Prime r10.2 1 r11).bind fun r12=>
 ik (zJ.mk r10.1 r12)
def zQQ(g_h:zY→Int→zJ→Option zJ)(x0:zY)(x1:Int)(x3:zJ)(s1:(iv)×iv×Int):Option ((iv×iv×Int)⊕(iv×iv)):=
 (ixO x3.x x1).bind fun v7=>
 cond (decide (s1.2.2<v7)) (
  (g_h x0 x1 (zJ.mk s1.1 s1.2.1)).bind fun r8=>
  (rng (s1.2.2+1)).bind fun v9=>
  ik (.inl (r8.x,r8.v,v9))) (
  ik (.inr (s1.1,s1.2.1)))
def b_d(g_h:zY→Int→zJ→Option zJ)(g_d:zY→Int→zJ→zJ→Option zJ)(x0:zY)(x1:Int)(x2:zJ)(x3:zJ):Option zJ:=
 cond (decide (x1≥(x0.p.zA.length:Int))) (
  (xF (x0.p.zA.length:Int)).bind fun m1=>
  (f_w x0.m.Prime x2.v 1 x3.v).bind fun r2=>
  ik (zJ.mk (J1 m1 (0:Int)) r2)) (
  (f_B x2.x).bind fun r3=>
  (f_B x3.x).bind fun r4=>
  (ixO r3 x1).bind fun _=>
  (ixO r4 x1).bind fun _=>
  (zI (zQQ g_h x0 x1 x3) (r3.set x1.toNat 0,x2.v,0)).bind fun r10=>
  (rng (x1+1)).bind fun v11=>
  (g_d x0 v11 (zJ.mk r10.1 r10.2) (zJ.mk (r4.set x1.toNat 0) x3.v)).bind fun r12=>
  (ixO x2.x x1).bind fun v13=>
  (ixO x3.x x1).bind fun v14=>
  (rng (v13+v14)).bind fun v15=>
  (ixO x0.p.zA x1).bind fun v16=>
  cond (decide (v15≥v16)) (
   (ixO x0.p.zA x1).bind fun v17=>
   (rng (v15-v17)).bind fun v18=>
   (rng (x1+1)).bind fun v19=>
   (zOl x0 x1).bind fun r20=>
   (g_d x0 v19 r20 r12).bind fun r21=>
   (f_B r21.x).bind fun r22=>
   (ixO r22 x1).bind fun _=>
   ik (zJ.mk (r22.set x1.toNat v18) r21.v)) (
   (f_B r12.x).bind fun r24=>
   (ixO r24 x1).bind fun _=>
   ik (zJ.mk (r24.set x1.toNat v15) r12.v)))
mutual
def zOm:Nat→zY→Int→zJ→Option zJ
 |0=>fun _ _ _=>im
 |n+1=>b_h (zOn n)
def zOn:Nat→zY→Int→zJ→zJ→Option zJ
 |0=>fun _ _ _ _=>im
 |n+1=>b_d (zOm n) (zOn n)
end
def f_h(x0:zY)(x1:Int)(x2:zJ):Option zJ:=zDG fun n=>zOm n x0 x1 x2
def f_d(x0:zY)(x1:Int)(x2:zJ)(x3:zJ):Option zJ:=zDG fun n=>zOn n x0 x1 x2 x3
def zMS(x0:zY)(x1:zJ)(x2:zJ):Option iv:=
 (rng (x0.m.Prime-1)).bind fun v1=>
 (f_w x0.m.Prime x1.v v1 x2.v).bind fun r2=>
 ik r2
def zQR(x0:zY)(x1:Int)(s9:(iw)×Int)(s10:(iv)×iv×Int):Option ((iv×iv×Int)⊕(iv×iv)):=
 (ixO x0.p.zA s9.2).bind fun v3=>
 cond (decide (s10.2.2<v3)) (
  (rng (x1+1)).bind fun v4=>
  (f_Z x0 x1 s9.2).bind fun r5=>
  (f_d x0 v4 (zJ.mk s10.1 s10.2.1) r5).bind fun r6=>
  (rng (s10.2.2+1)).bind fun v7=>
  ik (.inl (r6.x,r6.v,v7))) (
  ik (.inr (s10.1,s10.2.1)))
def zQS(x0:zY)(x1:Int)(s9:(iw)×Int)(s12:(iw)×Int):Option ((iw×Int)⊕iw):=
 cond (decide (s12.2<(x0.p.zA.length:Int))) (
  (f_Z x0 x1 s9.2).bind fun r14=>
  (f_Z x0 x1 s12.2).bind fun r15=>
  (f_Z x0 s9.2 s12.2).bind fun r16=>
  (f_h x0 x1 r16).bind fun r17=>
  (rng (x1+1)).bind fun v18=>
  (f_d x0 v18 r15 r14).bind fun r19=>
  (rng (x1+1)).bind fun v20=>
  (f_d x0 v20 r14 r17).bind fun r21=>
  (zMS x0 r19 r21).bind fun r22=>
  (xW s12.1 [r22]).bind fun v23=>
  (rng (s12.2+1)).bind fun v24=>
  ik (.inl (v23,v24))) (
  ik (.inr s12.1))
def zUA(x0:zY)(x1:Int)(s9:(iw)×Int):Option ((iw×Int)⊕iw):=
 cond (decide (s9.2<(x0.p.zA.length:Int))) (
  (zMQ x0).bind fun r2=>
  (zI (zQR x0 x1 s9) (r2.x,r2.v,0)).bind fun r8=>
  (zOl x0 s9.2).bind fun r9=>
  (f_h x0 x1 r9).bind fun r10=>
  (zMS x0 (zJ.mk r8.1 r8.2) r10).bind fun r11=>
  (xW s9.1 [r11]).bind fun v12=>
  (rng (s9.2+1)).bind fun v13=>
  (zI (zQS x0 x1 s9) (v12,v13)).bind fun r25=>
  (rng (s9.2+1)).bind fun v26=>
  ik (.inl (r25,v26))) (
  ik (.inr s9.1))
def zUB(x0:zY)(x1:Int)(s20:(iv)×iv×Int):Option ((iv×iv×Int)⊕(iv×iv)):=
 (ixO x0.p.zA x1).bind fun v35=>
 cond (decide (s20.2.2<v35)) (
  (f_h x0 x1 (zJ.mk s20.1 s20.2.1)).bind fun r36=>
  (rng (s20.2.2+1)).bind fun v37=>
  ik (.inl (r36.x,r36.v,v37))) (
  ik (.inr (s20.1,s20.2.1)))
def zQT(x0:zY)(x1:Int)(r28:zJ)(s19:(iw)×Int):Option ((iw×Int)⊕iw):=
 cond (decide (s19.2<(x0.p.zA.length:Int))) (
  (zMQ x0).bind fun r33=>
  (ixO r33.x s19.2).bind fun _=>
  (zI (zUB x0 x1) (r33.x.set s19.2.toNat 1,r33.v,0)).bind fun r38=>
  (rng (x1+1)).bind fun v39=>
  (f_d x0 v39 r28 (zJ.mk r38.1 r38.2)).bind fun r40=>
  (rng (x1+1)).bind fun v41=>
  (f_d x0 v41 (zJ.mk (r33.x.set s19.2.toNat 1) r33.v) r28).bind fun r42=>
  (zMS x0 r40 r42).bind fun r43=>
  (xW s19.1 [r43]).bind fun v44=>
  (rng (s19.2+1)).bind fun v45=>
  ik (.inl (v44,v45))) (
  ik (.inr s19.1))
def f_l(x0:zY)(x1:Int):Option iw:=
 (rng (x1+1)).bind fun v1=>
 (zI (zUA x0 x1) ([],v1)).bind fun r27=>
 (zOl x0 x1).bind fun r28=>
 (f_h x0 x1 r28).bind fun r29=>
 (zMS x0 r29 r28).bind fun r30=>
 (xW r27 [r30]).bind fun v31=>
 (rng (x1+1)).bind fun v32=>
 (zI (zQT x0 x1 r28) (v31,v32)).bind fun r46=>
 ik r46
def zQU(x0:zY)(s1:(iw)×Int):Option ((iw×Int)⊕iw):=
 cond (decide (s1.2<(x0.p.zA.length:Int))) (
  (f_l x0 s1.2).bind fun r1=>
  (xW s1.1 r1).bind fun v2=>
  (rng (s1.2+1)).bind fun v3=>
  ik (.inl (v2,v3))) (
  ik (.inr s1.1))
def f_Q(x0:zY):Option iw:=
 (zI (zQU x0) ([],0)).bind fun r4=>
 ik r4
def zYU(x0:Int)(x1:Int)(x2:iw):Option zT:=
 (f_i x0 x2).bind fun r1=>
 ik (zT.mk x0 x1 r1)
def zWy(x0:Int):Option Bool:=
 ik (x0 != 0)
def zJ8(x0:iv)(s1:Int):Option (Int⊕(Unit⊕Int)):=
 cond (decide (s1<(x0.length:Int))) (
  (ixO x0 s1).bind fun v1=>
  (zWy v1).bind fun r2=>
  cond r2 (
   ik (.inr (.inr s1))) (
   (rng (s1+1)).bind fun v3=>
   ik (.inl v3))) (
  ik (.inr (.inl ())))
def zWz(x0:iv):Option Int:=
 (zI (zJ8 x0) 0).bind fun r4=>
 match r4 with
 |(.inl r4)=>
  ik (-1)
 |(.inr r4)=>
  ik r4
def zMT(x0:iw)(s1:(iv)×Int):Option ((iv×Int)⊕iv):=
 cond (decide (s1.2<(x0.length:Int))) (
  (ixO x0 s1.2).bind fun v1=>
  (zWz v1).bind fun r2=>
  (xW s1.1 [r2]).bind fun v3=>
  (rng (s1.2+1)).bind fun v4=>
  ik (.inl (v3,v4))) (
  ik (.inr s1.1))
def zW0(x0:iw):Option iv:=
 (zI (zMT x0) ([],0)).bind fun r5=>
 ik r5
def zJ9(x0:zT)(r2:(iv))(s1:(iv)×Int):Option ((iv×Int)⊕iv):=
 cond (decide (s1.2<(r2.length:Int))) (
  (ixO r2 s1.2).bind fun v3=>
  (ixO x0.Rows s1.2).bind fun v4=>
  (ixO s1.1 v3).bind fun v5=>
  (rng (0-v5)).bind fun v6=>
  (f_s s1.1 v4 v6 x0.Prime).bind fun r7=>
  (rng (s1.2+1)).bind fun v8=>
  ik (.inl (r7,v8))) (
  ik (.inr s1.1))
def zW1(x0:zT)(x1:iv):Option iv:=
 (f_J x1).bind fun r1=>
 (zW0 x0.Rows).bind fun r2=>
 (zI (zJ9 x0 r2) (r1,0)).bind fun r9=>
 ik r9
def zMU(x0:iw)(s1:(iv)×Int):Option ((iv×Int)⊕iv):=
 cond (decide (s1.2<(x0.length:Int))) (
  (ixO x0 s1.2).bind fun v1=>
  (xW s1.1 v1).bind fun v2=>
  (rng (s1.2+1)).bind fun v3=>
  ik (.inl (v2,v3))) (
  ik (.inr s1.1))
def zW2(x0:iw):Option iv:=
 (zI (zMU x0) ([],0)).bind fun r4=>
 ik r4
def zQV(x2:Int)(r2:(iw))(s1:(iw)×Int):Option ((iw×Int)⊕iw):=
 cond (decide (s1.2<(r2.length:Int))) (
  (ixO r2 s1.2).bind fun v3=>
  (yB v3 0 x2).bind fun v4=>
  (zTO v4).bind fun r5=>
  cond r5 (
   (yB v3 x2 v3.length).bind fun v6=>
   (xW s1.1 [v6]).bind fun v7=>
   (rng (s1.2+1)).bind fun v8=>
   ik (.inl (v7,v8))) (
   (rng (s1.2+1)).bind fun v9=>
   ik (.inl (s1.1,v9)))) (
  ik (.inr s1.1))
def f_L(x0:Int)(x1:iw)(x2:Int):Option iw:=
 (zWp x1).bind fun r1=>
 (f_i x0 r1).bind fun r2=>
 (zI (zQV x2 r2) ([],0)).bind fun r10=>
 (f_i x0 r10).bind fun r11=>
 ik r11
def zMV(x0:iv)(x1:Int)(s1:(iw)×Int):Option ((iw×Int)⊕iw):=
 (rng (s1.2+x1)).bind fun v1=>
 cond (decide (v1≤(x0.length:Int))) (
  (rng (s1.2+x1)).bind fun v2=>
  (yB x0 s1.2 v2).bind fun v3=>
  (f_B v3).bind fun r4=>
  (xW s1.1 [r4]).bind fun v5=>
  (rng (s1.2+x1)).bind fun v6=>
  ik (.inl (v5,v6))) (
  ik (.inr s1.1))
def zQW(x0:iv)(x1:Int):Option iw:=
 (zI (zMV x0 x1) ([],0)).bind fun r7=>
 ik r7
def zUC(x0:SPr)(x1:zB)(x2:iw)(s5:(iw)×Int)(s6:(iv)×Int):Option ((iv×Int)⊕iv):=
 (ixO x0.zA s5.2).bind fun v2=>
 cond (decide (s6.2<v2)) (
  (zMN x1 x2 s6.1 s5.2).bind fun r3=>
  (rng (s6.2+1)).bind fun v4=>
  ik (.inl (r3,v4))) (
  ik (.inr s6.1))
def zUD(x0:SPr)(x1:zB)(x2:iw)(m1:Nat)(s5:(iw)×Int):Option ((iw×Int)⊕iw):=
 cond (decide (s5.2<(x0.zA.length:Int))) (
  (zI (zUC x0 x1 x2 s5) (J1 m1 (0:Int),0)).bind fun r5=>
  (rng (x1.Prime-1)).bind fun v6=>
  (ixO x0.zU s5.2).bind fun v7=>
  (f_P x1 x2 (J1 m1 (0:Int)) v7).bind fun r8=>
  (f_w x1.Prime r5 v6 r8).bind fun r9=>
  (xW s5.1 [r9]).bind fun v10=>
  (rng (s5.2+1)).bind fun v11=>
  ik (.inl (v10,v11))) (
  ik (.inr s5.1))
def zUE(x0:SPr)(x1:zB)(x2:iw)(m1:Nat)(s13:(iw)×Int)(s14:(iw)×Int):Option ((iw×Int)⊕iw):=
 cond (decide (s14.2<(x0.zA.length:Int))) (
  (zMN x1 x2 (J1 m1 (0:Int)) s14.2).bind fun r14=>
  (zMN x1 x2 r14 s13.2).bind fun r15=>
  (zMN x1 x2 (J1 m1 (0:Int)) s13.2).bind fun r16=>
  (ixO x0.zF s13.2).bind fun v17=>
  (rng (s14.2-s13.2)).bind fun v18=>
  (rng (v18-1)).bind fun v19=>
  (ixO v17 v19).bind fun v20=>
  (f_P x1 x2 r16 v20).bind fun r21=>
  (rng (x1.Prime-1)).bind fun v22=>
  (f_w x1.Prime r15 v22 r21).bind fun r23=>
  (xW s14.1 [r23]).bind fun v24=>
  (rng (s14.2+1)).bind fun v25=>
  ik (.inl (v24,v25))) (
  ik (.inr s14.1))
def zUF(x0:SPr)(x1:zB)(x2:iw)(m1:Nat)(s13:(iw)×Int):Option ((iw×Int)⊕iw):=
 cond (decide (s13.2<(x0.zA.length:Int))) (
  (rng (s13.2+1)).bind fun v13=>
  (zI (zUE x0 x1 x2 m1 s13) (s13.1,v13)).bind fun r26=>
  (rng (s13.2+1)).bind fun v27=>
  ik (.inl (r26,v27))) (
  ik (.inr s13.1))
def f_t(x0:SPr)(x1:zB)(x2:iw):Option iw:=
 (xF x1.Dim).bind fun m1=>
 (zI (zUD x0 x1 x2 m1) ([],0)).bind fun r12=>
 (zI (zUF x0 x1 x2 m1) (r12,0)).bind fun r28=>
 ik r28
def zMW(x0:SPr)(x1:zB)(v1:Int)(s1:(iw)×Int):Option ((iw×Int)⊕iw):=
 cond (decide (s1.2<v1)) (
  (xF v1).bind fun m2=>
  (ixO (J1 m2 (0:Int)) s1.2).bind fun _=>
  (zQW ((J1 m2 (0:Int)).set s1.2.toNat 1) x1.Dim).bind fun r4=>
  (f_t x0 x1 r4).bind fun r5=>
  (zW2 r5).bind fun r6=>
  (xW s1.1 [r6]).bind fun v7=>
  (rng (s1.2+1)).bind fun v8=>
  ik (.inl (v7,v8))) (
  ik (.inr s1.1))
def zW3(x0:SPr)(x1:zB):Option iw:=
 (rng ((x0.zA.length:Int)*x1.Dim)).bind fun v1=>
 (zI (zMW x0 x1 v1) ([],0)).bind fun r9=>
 ik r9
def zUG(x0:SPr)(x1:zB):Option iw:=
 (zW3 x0 x1).bind fun r1=>
 (f_q x1.Prime r1).bind fun r2=>
 ik r2
def zMX(x0:SPr)(x1:zB)(v1:Int)(s1:(iw)×Int):Option ((iw×Int)⊕iw):=
 cond (decide (s1.2<v1)) (
  (zMA v1 s1.2).bind fun r2=>
  (f_Y r2 x1.Dim).bind fun r3=>
  (zWv x0 x1 r3).bind fun r4=>
  (f_y r4).bind fun r5=>
  (xW s1.1 [r5]).bind fun v6=>
  (rng (s1.2+1)).bind fun v7=>
  ik (.inl (v6,v7))) (
  ik (.inr s1.1))
def zUH(x0:SPr)(x1:zB):Option iw:=
 (rng ((x0.zA.length:Int)*x1.Dim)).bind fun v1=>
 (zI (zMX x0 x1 v1) ([],0)).bind fun r8=>
 ik r8
def zW4(x0:SPr)(x1:zB)(x2:iv):Option iw:=
 (zUH x0 x1).bind fun r1=>
 (zYU x1.Prime x1.Dim r1).bind fun r2=>
 (zW1 r2 x2).bind fun r3=>
 (f_Y r3 x1.Dim).bind fun r4=>
 ik r4
structure zK where
 Word:iv
 Left:iv
 zXx:iv
abbrev zH(x:zK):T:=.agg [(L 1 I) x.Word,(L 1 I) x.Left,(L 1 I) x.zXx]
instance:Enc zH:=.of fun _=>zNq ⟨Enc.t (f:=(L 1 I)) inferInstance _,Enc.t (f:=(L 1 I)) inferInstance _,Enc.t (f:=(L 1 I)) inferInstance _,trivial⟩
structure xQ where
 p:SPr
 m:zB
 sums:List zT
abbrev zJA(x:xQ):T:=.agg [(Pt yL) x.p,(Pt zS) x.m,(L 3 zO) x.sums]
instance:Enc zJA:=.of fun _=>zNq ⟨Enc.t (f:=(Pt yL)) inferInstance _,Enc.t (f:=(Pt zS)) inferInstance _,Enc.t (f:=(L 3 zO)) inferInstance _,trivial⟩
def zQX(x1:zB)(s5:(iw)×Int)(s6:(iv)×Int):Option ((iv×Int)⊕iv):=
 cond (decide (s6.2<x1.Dim)) (
  (rng (s5.2*x1.Dim)).bind fun v5=>
  (rng (v5+s6.2)).bind fun v6=>
  (rng (v6*x1.Dim)).bind fun v7=>
  (rng (v7+s6.2)).bind fun v8=>
  (ixO s6.1 v8).bind fun _=>
  (rng (s6.2+1)).bind fun v10=>
  ik (.inl (s6.1.set v8.toNat 1,v10))) (
  ik (.inr s6.1))
def zUI(x1:zB)(r1:Int)(v2:Int)(s5:(iw)×Int):Option ((iw×Int)⊕iw):=
 cond (decide (s5.2<r1)) (
  (rng (v2*x1.Dim)).bind fun v3=>
  (xF v3).bind fun m4=>
  (zI (zQX x1 s5) (J1 m4 (0:Int),0)).bind fun r11=>
  (xW s5.1 [r11]).bind fun v12=>
  (rng (s5.2+1)).bind fun v13=>
  ik (.inl (v12,v13))) (
  ik (.inr s5.1))
def zQY(x1:zB)(r15:(iw))(s13:(iw)×Int)(s14:(iv)×Int):Option ((iv×Int)⊕iv):=
 cond (decide (s14.2<(r15.length:Int))) (
  (ixO r15 s14.2).bind fun v16=>
  (rng (s13.2*x1.Dim)).bind fun v17=>
  (rng (s13.2+1)).bind fun v18=>
  (rng (v18*x1.Dim)).bind fun v19=>
  (yB v16 v17 v19).bind fun v20=>
  (xW s14.1 v20).bind fun v21=>
  (rng (s14.2+1)).bind fun v22=>
  ik (.inl (v21,v22))) (
  ik (.inr s14.1))
def zUJ(x1:zB)(v2:Int)(r15:(iw))(s13:(iw)×Int):Option ((iw×Int)⊕iw):=
 cond (decide (s13.2<v2)) (
  (zI (zQY x1 r15 s13) ([],0)).bind fun r23=>
  (xW s13.1 [r23]).bind fun v24=>
  (rng (s13.2+1)).bind fun v25=>
  ik (.inl (v24,v25))) (
  ik (.inr s13.1))
def f_m(x0:SPr)(x1:zB):Option iw:=
 (zU3 x0).bind fun r1=>
 (rng (r1*x1.Dim)).bind fun v2=>
 (zI (zUI x1 r1 v2) ([],0)).bind fun r14=>
 (f_Q (zY.mk x0 x1 r14)).bind fun r15=>
 (zI (zUJ x1 v2 r15) ([],0)).bind fun r26=>
 (rng ((r15.length:Int)*x1.Dim)).bind fun v27=>
 (zWu x1.Prime r26 v27).bind fun r28=>
 ik r28
def zOo(x0:SPr)(x1:iv)(x2:Int):Option iv:=
 (rng (x2+1)).bind fun v1=>
 cond (decide (v1<(x1.length:Int))) (
  (ixO x1 x2).bind fun v2=>
  (rng (x2+1)).bind fun v3=>
  (ixO x1 v3).bind fun v4=>
  cond (decide (v2> v4)) (
   (ixO x1 x2).bind fun v5=>
   (rng (v5-1)).bind fun v6=>
   (rng (x2+1)).bind fun v7=>
   (ixO x1 v7).bind fun v8=>
   (rng (v8-1)).bind fun v9=>
   (yB x1 0 x2).bind fun v10=>
   (rng (v9+1)).bind fun v11=>
   (ixO x0.zF v9).bind fun v12=>
   (rng (v6-v9)).bind fun v13=>
   (rng (v13-1)).bind fun v14=>
   (ixO v12 v14).bind fun v15=>
   (f_x v15).bind fun r16=>
   (rng (x2+2)).bind fun v17=>
   (yB x1 v17 x1.length).bind fun v18=>
   (f_y [v10,[v11],r16,v18]).bind fun r19=>
   ik r19) (
   (ixO x1 x2).bind fun v20=>
   (rng (v20-1)).bind fun v21=>
   (yB x1 0 x2).bind fun v22=>
   (ixO x0.zU v21).bind fun v23=>
   (f_x v23).bind fun r24=>
   (ixO x0.zA v21).bind fun v25=>
   (rng (x2+v25)).bind fun v26=>
   (yB x1 v26 x1.length).bind fun v27=>
   (f_y [v22,r24,v27]).bind fun r28=>
   ik r28)) (
  (ixO x1 x2).bind fun v2=>
  (rng (v2-1)).bind fun v3=>
  (yB x1 0 x2).bind fun v4=>
  (ixO x0.zU v3).bind fun v5=>
  (f_x v5).bind fun r6=>
  (ixO x0.zA v3).bind fun v7=>
  (rng (x2+v7)).bind fun v8=>
  (yB x1 v8 x1.length).bind fun v9=>
  (f_y [v4,r6,v9]).bind fun r10=>
  ik r10)
def f_U(x0:iv)(x1:Int)(x2:List zK)(x3:SPr):Option (List zK):=
 (zOo x3 x0 0).bind fun r1=>
 (zOo x3 x0 x1).bind fun r2=>
 (xW x2 [(zK.mk x0 r1 r2)]).bind fun v3=>
 ik v3
def zMY(x0:Int)(x1:Int):Option iv:=
 (f_k [x0] x1).bind fun r1=>
 ik r1
def zQZ(x0:SPr)(s17:(List zK)×Int)(s22:(List zK)×Int)(s23:(List zK)×Int):Option (((List zK)×Int)⊕(List zK)):=
 cond (decide (s23.2≤(x0.zA.length:Int))) (
  (f_U [s23.2,s22.2,s17.2] 1 s23.1 x0).bind fun r3=>
  (rng (s23.2+1)).bind fun v4=>
  ik (.inl (r3,v4))) (
  ik (.inr s23.1))
def zRa(x0:SPr)(s17:(List zK)×Int)(s22:(List zK)×Int):Option (((List zK)×Int)⊕(List zK)):=
 cond (decide (s22.2≤(x0.zA.length:Int))) (
  (rng (s22.2+1)).bind fun v2=>
  (zI (zQZ x0 s17 s22) (s22.1,v2)).bind fun r5=>
  (rng (s22.2+1)).bind fun v6=>
  ik (.inl (r5,v6))) (
  ik (.inr s22.1))
def zRb(x0:SPr)(s17:(List zK)×Int):Option (((List zK)×Int)⊕(List zK)):=
 cond (decide (s17.2≤(x0.zA.length:Int))) (
  (rng (s17.2+1)).bind fun v1=>
  (zI (zRa x0 s17) (s17.1,v1)).bind fun r7=>
  (rng (s17.2+1)).bind fun v8=>
  ik (.inl (r7,v8))) (
  ik (.inr s17.1))
def zRc(x0:SPr)(s31:(List zK)×Int)(s32:(List zK)×Int):Option (((List zK)×Int)⊕(List zK)):=
 cond (decide (s32.2≤(x0.zA.length:Int))) (
  (rng (s32.2-1)).bind fun v11=>
  (ixO x0.zA v11).bind fun v12=>
  (zMY s32.2 v12).bind fun r13=>
  (xW r13 [s31.2]).bind fun v14=>
  (rng (s32.2-1)).bind fun v15=>
  (ixO x0.zA v15).bind fun v16=>
  (rng (v16-1)).bind fun v17=>
  (f_U v14 v17 s32.1 x0).bind fun r18=>
  (rng (s32.2+1)).bind fun v19=>
  ik (.inl (r18,v19))) (
  ik (.inr s32.1))
def zRd(x0:SPr)(s31:(List zK)×Int):Option (((List zK)×Int)⊕(List zK)):=
 cond (decide (s31.2≤(x0.zA.length:Int))) (
  (rng (s31.2+1)).bind fun v10=>
  (zI (zRc x0 s31) (s31.1,v10)).bind fun r20=>
  (rng (s31.2+1)).bind fun v21=>
  ik (.inl (r20,v21))) (
  ik (.inr s31.1))
def zRe(x0:SPr)(s39:(List zK)×Int)(s40:(List zK)×Int):Option (((List zK)×Int)⊕(List zK)):=
 cond (decide (s40.2≤(x0.zA.length:Int))) (
  (rng (s39.2-1)).bind fun v24=>
  (ixO x0.zA v24).bind fun v25=>
  (zMY s39.2 v25).bind fun r26=>
  (xW [s40.2] r26).bind fun v27=>
  (f_U v27 1 s40.1 x0).bind fun r28=>
  (rng (s40.2+1)).bind fun v29=>
  ik (.inl (r28,v29))) (
  ik (.inr s40.1))
def zRf(x0:SPr)(s39:(List zK)×Int):Option (((List zK)×Int)⊕(List zK)):=
 cond (decide (s39.2≤(x0.zA.length:Int))) (
  (rng (s39.2+1)).bind fun v23=>
  (zI (zRe x0 s39) (s39.1,v23)).bind fun r30=>
  (rng (s39.2+1)).bind fun v31=>
  ik (.inl (r30,v31))) (
  ik (.inr s39.1))
def zRg(x0:SPr)(s43:(List zK)×Int):Option (((List zK)×Int)⊕(List zK)):=
 cond (decide (s43.2≤(x0.zA.length:Int))) (
  (rng (s43.2-1)).bind fun v33=>
  (ixO x0.zA v33).bind fun v34=>
  (rng (v34+1)).bind fun v35=>
  (zMY s43.2 v35).bind fun r36=>
  (f_U r36 1 s43.1 x0).bind fun r37=>
  (rng (s43.2+1)).bind fun v38=>
  ik (.inl (r37,v38))) (
  ik (.inr s43.1))
def f_e(x0:SPr):Option (List zK):=
 (zI (zRb x0) ([],1)).bind fun r9=>
 (zI (zRd x0) (r9,1)).bind fun r22=>
 (zI (zRf x0) (r22,1)).bind fun r32=>
 (zI (zRg x0) (r32,1)).bind fun r39=>
 ik r39
def zW5(x0:xQ)(x1:iv)(x2:Int):Option Int:=
 (rng (x2+1)).bind fun v1=>
 cond (decide (v1<(x1.length:Int))) (
  (ixO x1 x2).bind fun v2=>
  (rng (x2+1)).bind fun v3=>
  (ixO x1 v3).bind fun v4=>
  cond (decide (v2> v4)) (
   (ixO x1 x2).bind fun v5=>
   (rng (v5-1)).bind fun v6=>
   (rng (x2+1)).bind fun v7=>
   (ixO x1 v7).bind fun v8=>
   (rng (v8-1)).bind fun v9=>
   (rng ((x0.p.zA.length:Int)-1)).bind fun v10=>
   (rng (v9*v10)).bind fun v11=>
   (rng ((x0.p.zA.length:Int)+v11)).bind fun v12=>
   (rng (v9-1)).bind fun v13=>
   (rng (v9*v13)).bind fun v14=>
   (tR v14 2).bind fun v15=>
   (rng (v12-v15)).bind fun v16=>
   (rng (v16+v6)).bind fun v17=>
   (rng (v17-v9)).bind fun v18=>
   (rng (v18-1)).bind fun v19=>
   ik v19) (
   (ixO x1 x2).bind fun v20=>
   (rng (v20-1)).bind fun v21=>
   ik v21)) (
  (ixO x1 x2).bind fun v2=>
  (rng (v2-1)).bind fun v3=>
  ik v3)
def zUK(x0:xQ)(x3:Int)(r1:Int)(r9:zT)(s1:(List zT)×Int):Option (((List zT)×Int)⊕(List zT)):=
 cond (decide (s1.2<(r9.Rows.length:Int))) (
  (ixO r9.Rows s1.2).bind fun v10=>
  (ixO s1.1 r1).bind fun v11=>
  (ixO v11.Rows s1.2).bind fun v12=>
  (f_s v12 v10 x3 x0.m.Prime).bind fun r13=>
  (rng (s1.2+1)).bind fun v14=>
  ik (.inl (s1.1.set r1.toNat (zT.mk v11.Prime v11.xI (v11.Rows.set s1.2.toNat r13)),v14))) (
  ik (.inr s1.1))
def zUL(x0:xQ)(x3:Int)(r1:Int)(r12:zT)(s3:(List zT)×Int):Option (((List zT)×Int)⊕(List zT)):=
 cond (decide (s3.2<(r12.Rows.length:Int))) (
  (ixO r12.Rows s3.2).bind fun v13=>
  (ixO s3.1 r1).bind fun v14=>
  (ixO v14.Rows s3.2).bind fun v15=>
  (f_s v15 v13 x3 x0.m.Prime).bind fun r16=>
  (rng (s3.2+1)).bind fun v17=>
  ik (.inl (s3.1.set r1.toNat (zT.mk v14.Prime v14.xI (v14.Rows.set s3.2.toNat r16)),v17))) (
  ik (.inr s3.1))
def zUM(x0:xQ)(x3:Int)(r1:Int)(r21:zT)(s5:(List zT)×Int):Option (((List zT)×Int)⊕(List zT)):=
 cond (decide (s5.2<(r21.Rows.length:Int))) (
  (ixO r21.Rows s5.2).bind fun v22=>
  (ixO s5.1 r1).bind fun v23=>
  (ixO v23.Rows s5.2).bind fun v24=>
  (f_s v24 v22 x3 x0.m.Prime).bind fun r25=>
  (rng (s5.2+1)).bind fun v26=>
  ik (.inl (s5.1.set r1.toNat (zT.mk v23.Prime v23.xI (v23.Rows.set s5.2.toNat r25)),v26))) (
  ik (.inr s5.1))
def f_j(x0:xQ)(x1:iv)(x2:Int)(x3:Int):Option (iv×xQ):=
 (zW5 x0 x1 x2).bind fun r1=>
 (zOo x0.p x1 x2).bind fun r2=>
 (rng (x2+1)).bind fun v3=>
 cond (decide (v3≥(x1.length:Int))) (
  (ixO x1 x2).bind fun v4=>
  (rng (v4-1)).bind fun v5=>
  (ixO x0.p.zA v5).bind fun v6=>
  (rng (x2+v6)).bind fun v7=>
  (yB x1 v7 x1.length).bind fun v8=>
  (f_E x0.m v8).bind fun r9=>
  (zI (zUK x0 x3 r1 r9) (x0.sums,0)).bind fun r15=>
  ik (r2,(xQ.mk x0.p x0.m r15))) (
  (ixO x1 x2).bind fun v4=>
  (rng (x2+1)).bind fun v5=>
  (ixO x1 v5).bind fun v6=>
  cond (decide (v4≤v6)) (
   (ixO x1 x2).bind fun v7=>
   (rng (v7-1)).bind fun v8=>
   (ixO x0.p.zA v8).bind fun v9=>
   (rng (x2+v9)).bind fun v10=>
   (yB x1 v10 x1.length).bind fun v11=>
   (f_E x0.m v11).bind fun r12=>
   (zI (zUL x0 x3 r1 r12) (x0.sums,0)).bind fun r18=>
   ik (r2,(xQ.mk x0.p x0.m r18))) (
   (rng (x2+2)).bind fun v19=>
   (yB x1 v19 x1.length).bind fun v20=>
   (f_E x0.m v20).bind fun r21=>
   (zI (zUM x0 x3 r1 r21) (x0.sums,0)).bind fun r27=>
   ik (r2,(xQ.mk x0.p x0.m r27))))
def zOp(x1:iv)(x2:Int)(v10:iv)(s1:Int):Option (Int⊕(Unit⊕Bool)):=
 cond (decide (s1<(v10.length:Int))) (
  (ixO v10 s1).bind fun v11=>
  (ixO x1 x2).bind fun v12=>
  cond (v11 != v12) (
   ik (.inr (.inr iq))) (
   (rng (s1+1)).bind fun v13=>
   ik (.inl v13))) (
  ik (.inr (.inl ())))
def zOq(x1:iv)(x2:Int)(v7:iv)(s3:Int):Option (Int⊕(Unit⊕Bool)):=
 cond (decide (s3<(v7.length:Int))) (
  (ixO v7 s3).bind fun v8=>
  (ixO x1 x2).bind fun v9=>
  cond (v8 != v9) (
   ik (.inr (.inr iq))) (
   (rng (s3+1)).bind fun v10=>
   ik (.inl v10))) (
  ik (.inr (.inl ())))
def f_G(x0:SPr)(x1:iv)(x2:Int):Option Bool:=
 (rng (x2+1)).bind fun v1=>
 cond (decide (v1<(x1.length:Int))) (
  (ixO x1 x2).bind fun v2=>
  (rng (x2+1)).bind fun v3=>
  (ixO x1 v3).bind fun v4=>
  cond (decide (v2> v4)) (
   ik io) (
   (ixO x1 x2).bind fun v5=>
   (rng (v5-1)).bind fun v6=>
   (ixO x0.zA v6).bind fun v7=>
   (rng (x2+v7)).bind fun v8=>
   cond (decide (v8> (x1.length:Int))) (
    ik iq) (
    (rng (x2+v7)).bind fun v9=>
    (yB x1 x2 v9).bind fun v10=>
    (zI (zOp x1 x2 v10) 0).bind fun r14=>
    match r14 with
    |(.inl r14)=>
     ik io
    |(.inr r14)=>
     ik r14))) (
  (ixO x1 x2).bind fun v2=>
  (rng (v2-1)).bind fun v3=>
  (ixO x0.zA v3).bind fun v4=>
  (rng (x2+v4)).bind fun v5=>
  cond (decide (v5> (x1.length:Int))) (
   ik iq) (
   (rng (x2+v4)).bind fun v6=>
   (yB x1 x2 v6).bind fun v7=>
   (zI (zOq x1 x2 v7) 0).bind fun r11=>
   match r11 with
   |(.inl r11)=>
    ik io
   |(.inr r11)=>
    ik r11))
def zUN(x0:SPr)(x1:iv)(s1:Int):Option (Int⊕(Unit⊕Int)):=
 cond (decide (s1<(x1.length:Int))) (
  (f_G x0 x1 s1).bind fun r1=>
  cond r1 (
   ik (.inr (.inr s1))) (
   (rng (s1+1)).bind fun v2=>
   ik (.inl v2))) (
  ik (.inr (.inl ())))
def f_T(x0:SPr)(x1:iv):Option Int:=
 (zI (zUN x0 x1) 0).bind fun r3=>
 match r3 with
 |(.inl r3)=>
  ik (-1)
 |(.inr r3)=>
  ik r3
def zRh(x2:Int)(s1:SPr×zB×(List zT)×iv×Int):Option ((SPr×zB×(List zT)×iv×Int)⊕(SPr×zB×(List zT))):=
 cond (decide (s1.2.2.2.2≥0)) (
  (f_j (xQ.mk s1.1 s1.2.1 s1.2.2.1) s1.2.2.2.1 s1.2.2.2.2 x2).bind fun r2=>
  (f_T r2.2.p r2.1).bind fun r3=>
  ik (.inl (r2.2.p,r2.2.m,r2.2.sums,r2.1,r3))) (
  ik (.inr (s1.1,s1.2.1,s1.2.2.1)))
def f_r(x0:xQ)(x1:iv)(x2:Int):Option xQ:=
 (f_T x0.p x1).bind fun r1=>
 (zI (zRh x2) (x0.p,x0.m,x0.sums,x1,r1)).bind fun r4=>
 ik (xQ.mk r4.1 r4.2.1 r4.2.2)
def zRi(r6:zT)(s71:(iw)×Int):Option ((iw×Int)⊕iw):=
 cond (decide (s71.2<(r6.Rows.length:Int))) (
  (ixO s71.1 s71.2).bind fun v7=>
  (ixO v7 s71.2).bind fun _=>
  (rng (s71.2+1)).bind fun v9=>
  ik (.inl (s71.1.set s71.2.toNat (v7.set s71.2.toNat 0),v9))) (
  ik (.inr s71.1))
def zRj(x1:zB)(r1:Int)(s70:(List zT)×Int):Option (((List zT)×Int)⊕(List zT)):=
 cond (decide (s70.2<r1)) (
  (f_X x1.Prime x1.Dim).bind fun r6=>
  (zI (zRi r6) (r6.Rows,0)).bind fun r10=>
  (xW s70.1 [(zT.mk r6.Prime r6.xI r10)]).bind fun v11=>
  (rng (s70.2+1)).bind fun v12=>
  ik (.inl (v11,v12))) (
  ik (.inr s70.1))
def zRk(x1:zB)(s78:(iw)×Int)(v23:zT)(s79:(iw)×Int):Option ((iw×Int)⊕iw):=
 cond (decide (s79.2<(v23.Rows.length:Int))) (
  (ixO v23.Rows s79.2).bind fun v24=>
  (rng (s78.2*x1.Dim)).bind fun v25=>
  (rng (v25+s79.2)).bind fun v26=>
  (ixO s79.1 v26).bind fun v27=>
  (xW v27 v24).bind fun v28=>
  (rng (s79.2+1)).bind fun v29=>
  ik (.inl (s79.1.set v26.toNat v28,v29))) (
  ik (.inr s79.1))
def zMZ(x1:zB)(r22:xQ)(s78:(iw)×Int):Option ((iw×Int)⊕iw):=
 cond (decide (s78.2<(r22.sums.length:Int))) (
  (ixO r22.sums s78.2).bind fun v23=>
  (zI (zRk x1 s78 v23) (s78.1,0)).bind fun r30=>
  (rng (s78.2+1)).bind fun v31=>
  ik (.inl (r30,v31))) (
  ik (.inr s78.1))
def yAM(x1:zB)(s86:(iw)×Int)(v38:zT)(s87:(iw)×Int):Option ((iw×Int)⊕iw):=
 cond (decide (s87.2<(v38.Rows.length:Int))) (
  (ixO v38.Rows s87.2).bind fun v39=>
  (rng (s86.2*x1.Dim)).bind fun v40=>
  (rng (v40+s87.2)).bind fun v41=>
  (ixO s87.1 v41).bind fun v42=>
  (xW v42 v39).bind fun v43=>
  (rng (s87.2+1)).bind fun v44=>
  ik (.inl (s87.1.set v41.toNat v43,v44))) (
  ik (.inr s87.1))
def zYV(x1:zB)(r37:xQ)(s86:(iw)×Int):Option ((iw×Int)⊕iw):=
 cond (decide (s86.2<(r37.sums.length:Int))) (
  (ixO r37.sums s86.2).bind fun v38=>
  (zI (yAM x1 s86 v38) (s86.1,0)).bind fun r45=>
  (rng (s86.2+1)).bind fun v46=>
  ik (.inl (r45,v46))) (
  ik (.inr s86.1))
def yAN(x1:zB)(s94:(iw)×Int)(v20:zT)(s95:(iw)×Int):Option ((iw×Int)⊕iw):=
 cond (decide (s95.2<(v20.Rows.length:Int))) (
  (ixO v20.Rows s95.2).bind fun v21=>
  (rng (s94.2*x1.Dim)).bind fun v22=>
  (rng (v22+s95.2)).bind fun v23=>
  (ixO s95.1 v23).bind fun v24=>
  (xW v24 v21).bind fun v25=>
  (rng (s95.2+1)).bind fun v26=>
  ik (.inl (s95.1.set v23.toNat v25,v26))) (
  ik (.inr s95.1))
def zYW(x1:zB)(r19:xQ)(s94:(iw)×Int):Option ((iw×Int)⊕iw):=
 cond (decide (s94.2<(r19.sums.length:Int))) (
  (ixO r19.sums s94.2).bind fun v20=>
  (zI (yAN x1 s94 v20) (s94.1,0)).bind fun r27=>
  (rng (s94.2+1)).bind fun v28=>
  ik (.inl (r27,v28))) (
  ik (.inr s94.1))
def zRl(x0:SPr)(x1:zB)(r1:Int)(r4:(List zK))(s65:(iw)×Int):Option ((iw×Int)⊕iw):=
 cond (decide (s65.2<(r4.length:Int))) (
  (ixO r4 s65.2).bind fun v5=>
  (zI (zRj x1 r1) ([],0)).bind fun r13=>
  (ixO v5.Word 0).bind fun v14=>
  (ixO v5.Word 1).bind fun v15=>
  cond (v14==v15) (
   (rng ((v5.Word.length:Int)-1)).bind fun v16=>
   (ixO v5.Word v16).bind fun v17=>
   cond (v17 != v14) (
    (rng ((v5.Word.length:Int)-2)).bind fun v18=>
    (f_j (xQ.mk x0 x1 r13) v5.Word 0 1).bind fun r19=>
    (f_r r19.2 r19.1 1).bind fun r20=>
    (f_j r20 v5.Word v18 (-1)).bind fun r21=>
    (f_r r21.2 r21.1 (-1)).bind fun r22=>
    (zI (zMZ x1 r22) (s65.1,0)).bind fun r32=>
    (rng (s65.2+1)).bind fun v33=>
    ik (.inl (r32,v33))) (
    (f_j (xQ.mk x0 x1 r13) v5.Word 0 1).bind fun r34=>
    (f_r r34.2 r34.1 1).bind fun r35=>
    (f_j r35 v5.Word 1 (-1)).bind fun r36=>
    (f_r r36.2 r36.1 (-1)).bind fun r37=>
    (zI (zYV x1 r37) (s65.1,0)).bind fun r47=>
    (rng (s65.2+1)).bind fun v48=>
    ik (.inl (r47,v48)))) (
   (f_j (xQ.mk x0 x1 r13) v5.Word 0 1).bind fun r16=>
   (f_r r16.2 r16.1 1).bind fun r17=>
   (f_j r17 v5.Word 1 (-1)).bind fun r18=>
   (f_r r18.2 r18.1 (-1)).bind fun r19=>
   (zI (zYW x1 r19) (s65.1,0)).bind fun r29=>
   (rng (s65.2+1)).bind fun v30=>
   ik (.inl (r29,v30)))) (
  ik (.inr s65.1))
def f_f(x0:SPr)(x1:zB):Option iw:=
 (zU4 x0).bind fun r1=>
 (rng (r1*x1.Dim)).bind fun v2=>
 (xF v2).bind fun m3=>
 (f_e x0).bind fun r4=>
 (zI (zRl x0 x1 r1 r4) (J1 m3 ([]:iv),0)).bind fun r31=>
 cond (decide ((r31.length:Int)> 0)) (
  (ixO r31 0).bind fun v32=>
  (f_L x1.Prime r31 (v32.length:Int)).bind fun r33=>
  ik r33) (
  (f_L x1.Prime r31 0).bind fun r34=>
  ik r34)
def zNa(x1:zB)(r1:(iw))(r2:(iw))(s1:(iw)×Int):Option ((iw×Int)⊕iw):=
 cond (decide (s1.2<(r2.length:Int))) (
  (ixO r2 s1.2).bind fun v3=>
  (zQO x1.Prime r1 v3).bind fun r4=>
  (xW s1.1 [r4]).bind fun v5=>
  (rng (s1.2+1)).bind fun v6=>
  ik (.inl (v5,v6))) (
  ik (.inr s1.1))
def zW6(x0:SPr)(x1:zB):Option iw:=
 (zUG x0 x1).bind fun r1=>
 (f_m x0 x1).bind fun r2=>
 (zI (zNa x1 r1 r2) ([],0)).bind fun r7=>
 (f_q x1.Prime r7).bind fun r8=>
 ik r8
def zRm(x1:zB)(r2:(iw))(s17:(iw)×Int)(s22:(iw)×Int)(s23:(iw)×Int):Option ((iw×Int)⊕iw):=
 cond (decide (s23.2<x1.Prime)) (
  (ixO s17.1 s22.2).bind fun v7=>
  (ixO r2 s17.2).bind fun v8=>
  (f_w x1.Prime v7 s23.2 v8).bind fun r9=>
  (xW s23.1 [r9]).bind fun v10=>
  (rng (s23.2+1)).bind fun v11=>
  ik (.inl (v10,v11))) (
  ik (.inr s23.1))
def zRn(x1:zB)(r2:(iw))(s17:(iw)×Int)(s22:(iw)×Int):Option ((iw×Int)⊕iw):=
 cond (decide (s22.2<(s17.1.length:Int))) (
  (zI (zRm x1 r2 s17 s22) (s22.1,0)).bind fun r12=>
  (rng (s22.2+1)).bind fun v13=>
  ik (.inl (r12,v13))) (
  ik (.inr s22.1))
def zOr(x1:zB)(r2:(iw))(s17:(iw)×Int):Option ((iw×Int)⊕(iw⊕((List iw)×Int))):=
 cond (decide (s17.2<(r2.length:Int))) (
  (rng ((s17.1.length:Int)*x1.Prime)).bind fun v6=>
  cond (decide (v6> 130)) (
   ik (.inr (.inr ([],3)))) (
   (zI (zRn x1 r2 s17) ([],0)).bind fun r14=>
   (rng (s17.2+1)).bind fun v15=>
   ik (.inl (r14,v15)))) (
  ik (.inr (.inl s17.1)))
def zUO(x1:zB)(r16:(iw))(s27:(List iw)×Int):Option (((List iw)×Int)⊕(List iw)):=
 cond (decide (s27.2<(r16.length:Int))) (
  (ixO r16 s27.2).bind fun v17=>
  (zQW v17 x1.Dim).bind fun r18=>
  (xW s27.1 [r18]).bind fun v19=>
  (rng (s27.2+1)).bind fun v20=>
  ik (.inl (v19,v20))) (
  ik (.inr s27.1))
def f_p(x0:SPr)(x1:zB):Option ((List iw)×Int):=
 (zWa x0 x1).bind fun r1=>
 cond (!r1) (
  ik ([],1)) (
  (zW6 x0 x1).bind fun r2=>
  (zU3 x0).bind fun r3=>
  (rng (r3*x1.Dim)).bind fun v4=>
  (xF v4).bind fun m5=>
  (zI (zOr x1 r2) ([J1 m5 (0:Int)],0)).bind fun r16=>
  match r16 with
  |(.inl r16)=>
   (zI (zUO x1 r16) ([],0)).bind fun r21=>
   ik (r21,0)
  |(.inr r16)=>
   ik r16)
def zRo(x0:Int)(v2:iv)(v4:iv)(s23:(iw)×Int):Option ((iw×Int)⊕iw):=
 cond (decide (s23.2<x0)) (
  (f_J v4).bind fun r5=>
  (f_s r5 v2 s23.2 x0).bind fun r6=>
  (xW s23.1 [r6]).bind fun v7=>
  (rng (s23.2+1)).bind fun v8=>
  ik (.inl (v7,v8))) (
  ik (.inr s23.1))
def zRp(x0:Int)(s17:(iw)×Int)(v2:iv)(s22:(iw)×Int):Option ((iw×Int)⊕iw):=
 cond (decide (s22.2<(s17.1.length:Int))) (
  (ixO s17.1 s22.2).bind fun v4=>
  (zI (zRo x0 v2 v4) (s22.1,0)).bind fun r9=>
  (rng (s22.2+1)).bind fun v10=>
  ik (.inl (r9,v10))) (
  ik (.inr s22.1))
def zOs(x0:Int)(x1:iw)(s17:(iw)×Int):Option ((iw×Int)⊕(iw⊕(iw×Bool))):=
 cond (decide (s17.2<(x1.length:Int))) (
  (ixO x1 s17.2).bind fun v2=>
  (rng ((s17.1.length:Int)*x0)).bind fun v3=>
  cond (decide (v3> 130)) (
   ik (.inr (.inr ([],iq)))) (
   (zI (zRp x0 s17 v2) ([],0)).bind fun r11=>
   (rng (s17.2+1)).bind fun v12=>
   ik (.inl (r11,v12)))) (
  ik (.inr (.inl s17.1)))
def f_z(x0:Int)(x1:iw)(x2:Int):Option (iw×Bool):=
 (xF x2).bind fun m1=>
 (zI (zOs x0 x1) ([J1 m1 (0:Int)],0)).bind fun r13=>
 match r13 with
 |(.inl r13)=>
  ik (r13,io)
 |(.inr r13)=>
  ik r13
def zRq(x0:SPr)(x1:zB)(r2:(iw))(s1:(iw)×Int):Option ((iw×Int)⊕iw):=
 cond (decide (s1.2<(r2.length:Int))) (
  (ixO r2 s1.2).bind fun v3=>
  (zW4 x0 x1 v3).bind fun r4=>
  (f_y r4).bind fun r5=>
  (xW s1.1 [r5]).bind fun v6=>
  (rng (s1.2+1)).bind fun v7=>
  ik (.inl (v6,v7))) (
  ik (.inr s1.1))
def zUP(x1:zB)(r12:(iw)×Bool)(s3:(List iw)×Int):Option (((List iw)×Int)⊕(List iw)):=
 cond (decide (s3.2<(r12.1.length:Int))) (
  (ixO r12.1 s3.2).bind fun v13=>
  (f_Y v13 x1.Dim).bind fun r14=>
  (xW s3.1 [r14]).bind fun v15=>
  (rng (s3.2+1)).bind fun v16=>
  ik (.inl (v15,v16))) (
  ik (.inr s3.1))
def f_D(x0:SPr)(x1:zB):Option ((List iw)×Int):=
 (f_I x0 x1).bind fun r1=>
 cond (!r1) (
  ik ([],1)) (
  (f_f x0 x1).bind fun r2=>
  (zI (zRq x0 x1 r2) ([],0)).bind fun r8=>
  (f_i x1.Prime r8).bind fun r9=>
  (zU4 x0).bind fun r10=>
  (rng (x1.Dim*r10)).bind fun v11=>
  (f_z x1.Prime r9 v11).bind fun r12=>
  cond (!r12.2) (
   ik ([],3)) (
   (zI (zUP x1 r12) ([],0)).bind fun r17=>
   ik (r17,0)))
def zUQ(x0:SPr)(x1:zB):Option Bool:=
 (zVQ x0 1048576).bind fun r1=>
 cond (decide (r1<0)) (
  ik io) (
  (zVR x1 r1).bind fun r2=>
  cond (decide (r2<0)) (
   ik io) (
   (zNZ x0).bind fun r3=>
   (zOa x1).bind fun r4=>
   (f_p r3 r4).bind fun r5=>
   (zNZ x0).bind fun r6=>
   (zOa x1).bind fun r7=>
   (f_D r6 r7).bind fun r8=>
   (f_S r8.1 r5.1).bind fun r9=>
   cond (!r9) (
    ik iq) (
    cond (r8.2 != r5.2) (
     ik iq) (
     (zNZ x0).bind fun r10=>
     (zWk r6 r10).bind fun r11=>
     cond (!r11) (
      ik iq) (
      (zOa x1).bind fun r12=>
      (zWj r7 r12).bind fun r13=>
      cond (!r13) (
       ik iq) (
       (zWl r6 1).bind fun r14=>
       (zWm r7 r14.1).bind fun r15=>
       cond (decide (r15.1<0)) (
        ik iq) (
        (f_S r8.1 r5.1).bind fun r16=>
        cond (!r16) (
         ik iq) (
         cond (r8.2 != r5.2) (
          ik iq) (
          (zQM r8.1 1).bind fun r17=>
          (zWo r17.2 1).bind fun r18=>
          cond (decide (r18<0)) (
           ik iq) (
           cond (r18 != r17.1) (
            ik iq) (
            (zNZ x0).bind fun r19=>
            (zOa x1).bind fun r20=>
            (f_D r19 r20).bind fun r21=>
            (f_S r21.1 r5.1).bind fun r22=>
            cond (!r22) (
             ik iq) (
             cond (r21.2 != r5.2) (
              ik iq) (
              (zWo r17.2 1).bind fun r23=>
              cond (decide (r23<0)) (
               ik iq) (
               cond (r23 != r17.1) (
                ik iq) (
                ik io)))))))))))))))
end Go.Wk
