/- The program's SecondCohomology returns what the reference's returns,for all arguments;no conditions. -/
import Derived.Test.YtijcbaigdbgofaaGreatAbC
open List renaming replicate→J1
open Int renaming fdiv→G4
open Option renaming some→i7,none→i8
open Bool renaming true→i9,false→ia
noncomputable section
namespace Go.Wk
open Go Go.Ab
abbrev ig:=List Int
abbrev ii:=List ig
structure SPr where
 zA:ig
 zT:ii
 zF:List ii
abbrev yM(x:SPr):T:=.agg [(L 1 I) x.zA,(L 1 (L 1 I)) x.zT,(L 1 (L 1 (L 1 I))) x.zF]
instance:Enc yM:=.of fun _=>zME ⟨Enc.t (f:=(L 1 I)) inferInstance _,Enc.t (f:=(L 1 (L 1 I))) inferInstance _,Enc.t (f:=(L 1 (L 1 (L 1 I)))) inferInstance _,trivial⟩
structure zE where
 Prime:Int
 Dim:Int
 zH:List ii
abbrev zV(x:zE):T:=.agg [I x.Prime,I x.Dim,(L 1 (L 1 (L 1 I))) x.zH]
instance:Enc zV:=.of fun _=>zME ⟨Enc.t (f:=I) inferInstance _,Enc.t (f:=I) inferInstance _,Enc.t (f:=(L 1 (L 1 (L 1 I)))) inferInstance _,trivial⟩
structure xH where
 Kind:Int
 zVQ:Int
 zVS:Int
 zTB:Int
abbrev zG0(x:xH):T:=.agg [I x.Kind,I x.zVQ,I x.zVS,I x.zTB]
instance:Enc zG0:=.of fun _=>zME ⟨Enc.t (f:=I) inferInstance _,Enc.t (f:=I) inferInstance _,Enc.t (f:=I) inferInstance _,Enc.t (f:=I) inferInstance _,trivial⟩
structure zU where
 Prime:Int
 xG:Int
 Rows:ii
abbrev zO(x:zU):T:=.agg [I x.Prime,I x.xG,(L 1 (L 1 I)) x.Rows]
instance:Enc zO:=.of fun _=>zME ⟨Enc.t (f:=I) inferInstance _,Enc.t (f:=I) inferInstance _,Enc.t (f:=(L 1 (L 1 I))) inferInstance _,trivial⟩
structure zX where
 p:SPr
 m:zE
 zMz:ii
structure zI where
 x:ig
 v:ig
abbrev xD(x:zI):T:=.agg [(L 1 I) x.x,(L 1 I) x.v]
instance:Enc xD:=.of fun _=>zME ⟨Enc.t (f:=(L 1 I)) inferInstance _,Enc.t (f:=(L 1 I)) inferInstance _,trivial⟩
def zSo(x0:ig)(x1:Int):Option Int:=
 (rng (x1-(x0.length:Int))).bind fun v1=>
 cond (decide (v1<0)) (
  i7 (-1)) (
  i7 v1)
def zVO(x0:ii)(s1:Int×Int):Option ((Int×Int)⊕(Int⊕Int)):=
 cond (decide (s1.2<(x0.length:Int))) (
  (ixO x0 s1.2).bind fun v2=>
  (zSo v2 s1.1).bind fun r3=>
  cond (decide (r3<0)) (
   i7 (.inr (.inr (-1)))) (
   (rng (s1.2+1)).bind fun v4=>
   i7 (.inl (r3,v4)))) (
  i7 (.inr (.inl s1.1)))
def zU0(x0:ii)(x1:Int):Option Int:=
 (rng (x1-(x0.length:Int))).bind fun v1=>
 cond (decide (v1<0)) (
  i7 (-1)) (
  (zJ (zVO x0) (v1,0)).bind fun r5=>
  match r5 with
  |(.inl r5)=>
   i7 r5
  |(.inr r5)=>
   i7 r5)
def zVP(x0:List ii)(s1:Int×Int):Option ((Int×Int)⊕(Int⊕Int)):=
 cond (decide (s1.2<(x0.length:Int))) (
  (ixO x0 s1.2).bind fun v2=>
  (zU0 v2 s1.1).bind fun r3=>
  cond (decide (r3<0)) (
   i7 (.inr (.inr (-1)))) (
   (rng (s1.2+1)).bind fun v4=>
   i7 (.inl (r3,v4)))) (
  i7 (.inr (.inl s1.1)))
def zU1(x0:List ii)(x1:Int):Option Int:=
 (rng (x1-(x0.length:Int))).bind fun v1=>
 cond (decide (v1<0)) (
  i7 (-1)) (
  (zJ (zVP x0) (v1,0)).bind fun r5=>
  match r5 with
  |(.inl r5)=>
   i7 r5
  |(.inr r5)=>
   i7 r5)
def zU2(x0:SPr)(x1:Int):Option Int:=
 (zSo x0.zA x1).bind fun r1=>
 cond (decide (r1<0)) (
  i7 (-1)) (
  (zU0 x0.zT r1).bind fun r2=>
  cond (decide (r2<0)) (
   i7 (-1)) (
   (zU1 x0.zF r2).bind fun r3=>
   cond (decide (r3<0)) (
    i7 (-1)) (
    i7 r3)))
def zU3(x0:zE)(x1:Int):Option Int:=
 (zU1 x0.zH x1).bind fun r1=>
 cond (decide (r1<0)) (
  i7 (-1)) (
  i7 r1)
def zSp(x0:ig)(s1:(ig)×Int):Option ((ig×Int)⊕ig):=
 cond (decide (s1.2<(x0.length:Int))) (
  (ixO x0 s1.2).bind fun v2=>
  (ixO s1.1 s1.2).bind fun _=>
  (rng (s1.2+1)).bind fun v4=>
  i7 (.inl (s1.1.set s1.2.toNat v2,v4))) (
  i7 (.inr s1.1))
def zPJ(x0:ig):Option ig:=
 (xF (x0.length:Int)).bind fun m1=>
 (zJ (zSp x0) (J1 m1 (0:Int),0)).bind fun r5=>
 i7 r5
def zSq(x0:ii)(s1:(ii)×Int):Option ((ii×Int)⊕ii):=
 cond (decide (s1.2<(x0.length:Int))) (
  (ixO x0 s1.2).bind fun v2=>
  (zPJ v2).bind fun r3=>
  (ixO s1.1 s1.2).bind fun _=>
  (rng (s1.2+1)).bind fun v5=>
  i7 (.inl (s1.1.set s1.2.toNat r3,v5))) (
  i7 (.inr s1.1))
def zPK(x0:ii):Option ii:=
 (xF (x0.length:Int)).bind fun m1=>
 (zJ (zSq x0) (J1 m1 ([]:ig),0)).bind fun r6=>
 i7 r6
def zSr(x0:List ii)(s1:(List ii)×Int):Option (((List ii)×Int)⊕(List ii)):=
 cond (decide (s1.2<(x0.length:Int))) (
  (ixO x0 s1.2).bind fun v2=>
  (zPK v2).bind fun r3=>
  (ixO s1.1 s1.2).bind fun _=>
  (rng (s1.2+1)).bind fun v5=>
  i7 (.inl (s1.1.set s1.2.toNat r3,v5))) (
  i7 (.inr s1.1))
def zSs(x0:List ii):Option (List ii):=
 (xF (x0.length:Int)).bind fun m1=>
 (zJ (zSr x0) (J1 m1 ([]:ii),0)).bind fun r6=>
 i7 r6
def zPL(x0:SPr):Option SPr:=
 (zPJ x0.zA).bind fun r1=>
 (zPK x0.zT).bind fun r2=>
 (zSs x0.zF).bind fun r3=>
 i7 (SPr.mk r1 r2 r3)
def zPM(x0:zE):Option zE:=
 (zSs x0.zH).bind fun r1=>
 i7 (zE.mk x0.Prime x0.Dim r1)
def zU4(x0:Int):Option Bool:=
 cond (x0==2) (
  i7 i9) (
  cond (x0==3) (
   i7 i9) (
   cond (x0==5) (
    i7 i9) (
    i7 (x0==7))))
def zLX(x0:ig)(s1:Int×Int):Option ((Int×Int)⊕Int):=
 cond (decide (s1.2<(x0.length:Int))) (
  cond (decide (s1.1≤729)) (
   (ixO x0 s1.2).bind fun v1=>
   (rng (s1.1*v1)).bind fun v2=>
   (rng (s1.2+1)).bind fun v3=>
   i7 (.inl (v2,v3))) (
   (rng (s1.2+1)).bind fun v4=>
   i7 (.inl (s1.1,v4)))) (
  i7 (.inr s1.1))
def zU5(x0:ig):Option Int:=
 (zJ (zLX x0) (1,0)).bind fun r5=>
 i7 r5
def zSt(x0:Int)(x1:Int)(x2:Int):Option Bool:=
 cond (decide (x0≥x1)) (
  i7 (decide (x0≤x2))) (
  i7 ia)
def zOT(x0:ig)(x1:ig)(x2:Int)(s1:Int):Option (Int⊕(Unit⊕Bool)):=
 cond (decide (s1<(x1.length:Int))) (
  (ixO x1 s1).bind fun v1=>
  (ixO x0 s1).bind fun v2=>
  (rng (v2-1)).bind fun v3=>
  (zSt v1 0 v3).bind fun r4=>
  cond (!r4) (
   i7 (.inr (.inr ia))) (
   cond (decide (s1≤x2)) (
    (ixO x1 s1).bind fun v5=>
    cond (v5 != 0) (
     i7 (.inr (.inr ia))) (
     (rng (s1+1)).bind fun v6=>
     i7 (.inl v6))) (
    (rng (s1+1)).bind fun v5=>
    i7 (.inl v5)))) (
  i7 (.inr (.inl ())))
def zSu(x0:ig)(x1:ig)(x2:Int):Option Bool:=
 cond ((x1.length:Int) != (x0.length:Int)) (
  i7 ia) (
  (zJ (zOT x0 x1 x2) 0).bind fun r6=>
  match r6 with
  |(.inl r6)=>
   i7 i9
  |(.inr r6)=>
   i7 r6)
def zSv(x0:SPr)(s1:Int):Option (Int⊕(Unit⊕Bool)):=
 cond (decide (s1<(x0.zA.length:Int))) (
  (ixO x0.zA s1).bind fun v1=>
  (zU4 v1).bind fun r2=>
  cond (!r2) (
   i7 (.inr (.inr ia))) (
   (rng (s1+1)).bind fun v3=>
   i7 (.inl v3))) (
  i7 (.inr (.inl ())))
def zSw(x0:SPr)(s7:Int)(s8:Int):Option (Int⊕(Unit⊕Bool)):=
 (ixO x0.zF s7).bind fun v11=>
 cond (decide (s8<(v11.length:Int))) (
  (ixO x0.zF s7).bind fun v12=>
  (ixO v12 s8).bind fun v13=>
  (zSu x0.zA v13 s7).bind fun r14=>
  cond (!r14) (
   i7 (.inr (.inr ia))) (
   (rng (s8+1)).bind fun v15=>
   i7 (.inl v15))) (
  i7 (.inr (.inl ())))
def zNv(x0:SPr)(s7:Int):Option (Int⊕(Unit⊕Bool)):=
 cond (decide (s7<(x0.zA.length:Int))) (
  (ixO x0.zT s7).bind fun v6=>
  (zSu x0.zA v6 s7).bind fun r7=>
  cond (!r7) (
   i7 (.inr (.inr ia))) (
   (ixO x0.zF s7).bind fun v8=>
   (rng ((x0.zA.length:Int)-1)).bind fun v9=>
   (rng (v9-s7)).bind fun v10=>
   cond ((v8.length:Int) != v10) (
    i7 (.inr (.inr ia))) (
    (zJ (zSw x0 s7) 0).bind fun r16=>
    match r16 with
    |(.inl r16)=>
     (rng (s7+1)).bind fun v17=>
     i7 (.inl v17)
    |(.inr r16)=>
     i7 (.inr (.inr r16))))) (
  i7 (.inr (.inl ())))
def f_x(x0:SPr):Option Bool:=
 cond (decide ((x0.zA.length:Int)> 6)) (
  i7 ia) (
  cond ((x0.zT.length:Int) != (x0.zA.length:Int)) (
   i7 ia) (
   cond ((x0.zF.length:Int) != (x0.zA.length:Int)) (
    i7 ia) (
    (zJ (zSv x0) 0).bind fun r4=>
    match r4 with
    |(.inl r4)=>
     (zU5 x0.zA).bind fun r5=>
     cond (decide (r5> 729)) (
      i7 ia) (
      (zJ (zNv x0) 0).bind fun r18=>
      match r18 with
      |(.inl r18)=>
       i7 i9
      |(.inr r18)=>
       i7 r18)
    |(.inr r4)=>
     i7 r4)))
def f_y(x0:ig):Option ig:=
 (xW [] x0).bind fun v1=>
 i7 v1
def zSx(g_a:SPr→Int→ig→ig→Option ig)(x0:SPr)(x1:Int)(x2:ig)(s5:(ig)×Int)(s6:(ig)×Int):Option ((ig×Int)⊕ig):=
 (ixO x2 s5.2).bind fun v3=>
 cond (decide (s6.2<v3)) (
  (rng (x1+1)).bind fun v4=>
  (ixO x0.zF x1).bind fun v5=>
  (rng (s5.2-x1)).bind fun v6=>
  (rng (v6-1)).bind fun v7=>
  (ixO v5 v7).bind fun v8=>
  (g_a x0 v4 s6.1 v8).bind fun r9=>
  (rng (s6.2+1)).bind fun v10=>
  i7 (.inl (r9,v10))) (
  i7 (.inr s6.1))
def zSy(g_a:SPr→Int→ig→ig→Option ig)(x0:SPr)(x1:Int)(x2:ig)(s5:(ig)×Int):Option ((ig×Int)⊕ig):=
 cond (decide (s5.2<(x0.zA.length:Int))) (
  (zJ (zSx g_a x0 x1 x2 s5) (s5.1,0)).bind fun r11=>
  (rng (s5.2+1)).bind fun v12=>
  i7 (.inl (r11,v12))) (
  i7 (.inr s5.1))
def b_g(g_a:SPr→Int→ig→ig→Option ig)(x0:SPr)(x1:Int)(x2:ig):Option ig:=
 (xF (x0.zA.length:Int)).bind fun m1=>
 (rng (x1+1)).bind fun v2=>
 (zJ (zSy g_a x0 x1 x2) (J1 m1 (0:Int),v2)).bind fun r13=>
 i7 r13
def zU6(g_g:SPr→Int→ig→Option ig)(x0:SPr)(x1:Int)(x3:ig)(s1:(ig)×Int):Option ((ig×Int)⊕ig):=
 (ixO x3 x1).bind fun v6=>
 cond (decide (s1.2<v6)) (
  (g_g x0 x1 s1.1).bind fun r7=>
  (rng (s1.2+1)).bind fun v8=>
  i7 (.inl (r7,v8))) (
  i7 (.inr s1.1))
def b_a(g_g:SPr→Int→ig→Option ig)(g_a:SPr→Int→ig→ig→Option ig)(x0:SPr)(x1:Int)(x2:ig)(x3:ig):Option ig:=
 cond (decide (x1≥(x0.zA.length:Int))) (
  (xF (x0.zA.length:Int)).bind fun m1=>
  i7 (J1 m1 (0:Int))) (
  (f_y x2).bind fun r2=>
  (f_y x3).bind fun r3=>
  (ixO r2 x1).bind fun _=>
  (ixO r3 x1).bind fun _=>
  (zJ (zU6 g_g x0 x1 x3) (r2.set x1.toNat 0,0)).bind fun r9=>
  (rng (x1+1)).bind fun v10=>
  (g_a x0 v10 r9 (r3.set x1.toNat 0)).bind fun r11=>
  (ixO x2 x1).bind fun v12=>
  (ixO x3 x1).bind fun v13=>
  (rng (v12+v13)).bind fun v14=>
  (ixO x0.zA x1).bind fun v15=>
  cond (decide (v14≥v15)) (
   (ixO x0.zA x1).bind fun v16=>
   (rng (v14-v16)).bind fun v17=>
   (rng (x1+1)).bind fun v18=>
   (ixO x0.zT x1).bind fun v19=>
   (g_a x0 v18 v19 r11).bind fun r20=>
   (f_y r20).bind fun r21=>
   (ixO r21 x1).bind fun _=>
   i7 (r21.set x1.toNat v17)) (
   (f_y r11).bind fun r23=>
   (ixO r23 x1).bind fun _=>
   i7 (r23.set x1.toNat v14)))
mutual
def zNw:Nat→SPr→Int→ig→Option ig
 |0=>fun _ _ _=>i8
 |n+1=>b_g (zNx n)
def zNx:Nat→SPr→Int→ig→ig→Option ig
 |0=>fun _ _ _ _=>i8
 |n+1=>b_a (zNw n) (zNx n)
end
def f_g(x0:SPr)(x1:Int)(x2:ig):Option ig:=zDz fun n=>zNw n x0 x1 x2
def f_a(x0:SPr)(x1:Int)(x2:ig)(x3:ig):Option ig:=zDz fun n=>zNx n x0 x1 x2 x3
def zOU(x0:SPr)(x1:Int)(s1:Int×ig×ig):Option ((Int×ig×ig)⊕ig):=
 cond (decide (s1.1> 0)) (
  (uU s1.1 2).bind fun v2=>
  cond (v2==1) (
   (f_a x0 x1 s1.2.1 s1.2.2).bind fun r3=>
   (f_a x0 x1 s1.2.2 s1.2.2).bind fun r4=>
   (tH s1.1 2).bind fun v5=>
   i7 (.inl (v5,r3,r4))) (
   (f_a x0 x1 s1.2.2 s1.2.2).bind fun r6=>
   (tH s1.1 2).bind fun v7=>
   i7 (.inl (v7,s1.2.1,r6)))) (
  i7 (.inr s1.2.1))
def zU7(x0:SPr)(x1:Int)(x2:ig)(x3:Int):Option ig:=
 (xF (x0.zA.length:Int)).bind fun m1=>
 (zJ (zOU x0 x1) (x3,J1 m1 (0:Int),x2)).bind fun r8=>
 i7 r8
def zZt(x0:ig)(x1:ig)(s1:Int):Option (Int⊕(Unit⊕Bool)):=
 cond (decide (s1<(x0.length:Int))) (
  (ixO x0 s1).bind fun v1=>
  (ixO x1 s1).bind fun v2=>
  cond (v1 != v2) (
   i7 (.inr (.inr ia))) (
   (rng (s1+1)).bind fun v3=>
   i7 (.inl v3))) (
  i7 (.inr (.inl ())))
def f_W(x0:ig)(x1:ig):Option Bool:=
 cond ((x0.length:Int) != (x1.length:Int)) (
  i7 ia) (
  (zJ (zZt x0 x1) 0).bind fun r4=>
  match r4 with
  |(.inl r4)=>
   i7 i9
  |(.inr r4)=>
   i7 r4)
def zXm(x0:Int)(x1:Int):Option ig:=
 (xF x0).bind fun m1=>
 (ixO (J1 m1 (0:Int)) x1).bind fun _=>
 i7 ((J1 m1 (0:Int)).set x1.toNat 1)
def zSz(x0:SPr)(x1:Int)(s1:Int):Option (Int⊕(Unit⊕xH)):=
 cond (decide (s1<(x0.zA.length:Int))) (
  (rng (x1+1)).bind fun v2=>
  (ixO x0.zF x1).bind fun v3=>
  (rng (s1-x1)).bind fun v4=>
  (rng (v4-1)).bind fun v5=>
  (ixO v3 v5).bind fun v6=>
  (ixO x0.zA s1).bind fun v7=>
  (zU7 x0 v2 v6 v7).bind fun r8=>
  (ixO x0.zT s1).bind fun v9=>
  (f_g x0 x1 v9).bind fun r10=>
  (f_W r8 r10).bind fun r11=>
  cond (!r11) (
   i7 (.inr (.inr (xH.mk 1 x1 s1 0)))) (
   (rng (s1+1)).bind fun v12=>
   i7 (.inl v12))) (
  i7 (.inr (.inl ())))
def zS0(x0:SPr)(x1:Int)(s7:Int)(s8:Int):Option (Int⊕(Unit⊕xH)):=
 cond (decide (s8<(x0.zA.length:Int))) (
  (ixO x0.zF x1).bind fun v16=>
  (rng (s7-x1)).bind fun v17=>
  (rng (v17-1)).bind fun v18=>
  (ixO v16 v18).bind fun v19=>
  (ixO x0.zF x1).bind fun v20=>
  (rng (s8-x1)).bind fun v21=>
  (rng (v21-1)).bind fun v22=>
  (ixO v20 v22).bind fun v23=>
  (ixO x0.zF s7).bind fun v24=>
  (rng (s8-s7)).bind fun v25=>
  (rng (v25-1)).bind fun v26=>
  (ixO v24 v26).bind fun v27=>
  (f_g x0 x1 v27).bind fun r28=>
  (rng (x1+1)).bind fun v29=>
  (f_a x0 v29 v23 v19).bind fun r30=>
  (rng (x1+1)).bind fun v31=>
  (f_a x0 v31 v19 r28).bind fun r32=>
  (f_W r30 r32).bind fun r33=>
  cond (!r33) (
   i7 (.inr (.inr (xH.mk 2 x1 s7 s8)))) (
   (rng (s8+1)).bind fun v34=>
   i7 (.inl v34))) (
  i7 (.inr (.inl ())))
def zS1(x0:SPr)(x1:Int)(s7:Int):Option (Int⊕(Unit⊕xH)):=
 cond (decide (s7<(x0.zA.length:Int))) (
  (rng (s7+1)).bind fun v15=>
  (zJ (zS0 x0 x1 s7) v15).bind fun r35=>
  match r35 with
  |(.inl r35)=>
   (rng (s7+1)).bind fun v36=>
   i7 (.inl v36)
  |(.inr r35)=>
   i7 (.inr (.inr r35))) (
  i7 (.inr (.inl ())))
def zS2(x0:SPr)(x1:Int)(s16:(ig)×Int):Option ((ig×Int)⊕ig):=
 (ixO x0.zA x1).bind fun v43=>
 cond (decide (s16.2<v43)) (
  (f_g x0 x1 s16.1).bind fun r44=>
  (rng (s16.2+1)).bind fun v45=>
  i7 (.inl (r44,v45))) (
  i7 (.inr s16.1))
def zS3(x0:SPr)(x1:Int)(v38:ig)(s15:Int):Option (Int⊕(Unit⊕xH)):=
 cond (decide (s15<(x0.zA.length:Int))) (
  (zXm (x0.zA.length:Int) s15).bind fun r42=>
  (zJ (zS2 x0 x1) (r42,0)).bind fun r46=>
  (rng (x1+1)).bind fun v47=>
  (f_a x0 v47 v38 r46).bind fun r48=>
  (rng (x1+1)).bind fun v49=>
  (f_a x0 v49 r42 v38).bind fun r50=>
  (f_W r48 r50).bind fun r51=>
  cond (!r51) (
   i7 (.inr (.inr (xH.mk 4 x1 s15 0)))) (
   (rng (s15+1)).bind fun v52=>
   i7 (.inl v52))) (
  i7 (.inr (.inl ())))
def f_o(x0:SPr)(x1:Int):Option xH:=
 (rng (x1+1)).bind fun v1=>
 (zJ (zSz x0 x1) v1).bind fun r13=>
 match r13 with
 |(.inl r13)=>
  (rng (x1+1)).bind fun v14=>
  (zJ (zS1 x0 x1) v14).bind fun r37=>
  match r37 with
  |(.inl r37)=>
   (ixO x0.zT x1).bind fun v38=>
   (f_g x0 x1 v38).bind fun r39=>
   (f_W r39 v38).bind fun r40=>
   cond (!r40) (
    i7 (xH.mk 3 x1 0 0)) (
    (rng (x1+1)).bind fun v41=>
    (zJ (zS3 x0 x1 v38) v41).bind fun r53=>
    match r53 with
    |(.inl r53)=>
     i7 (xH.mk 0 0 0 0)
    |(.inr r53)=>
     i7 r53)
  |(.inr r37)=>
   i7 r37
 |(.inr r13)=>
  i7 r13
def zLY(x0:SPr)(s1:Int):Option (Int⊕(Unit⊕xH)):=
 cond (decide (s1≥0)) (
  (f_o x0 s1).bind fun r2=>
  cond (r2.Kind != 0) (
   i7 (.inr (.inr r2))) (
   (rng (s1-1)).bind fun v3=>
   i7 (.inl v3))) (
  i7 (.inr (.inl ())))
def zXn(x0:SPr):Option xH:=
 (rng ((x0.zA.length:Int)-1)).bind fun v1=>
 (zJ (zLY x0) v1).bind fun r4=>
 match r4 with
 |(.inl r4)=>
  i7 (xH.mk 0 0 0 0)
 |(.inr r4)=>
  i7 r4
def zXo(x0:SPr):Option Bool:=
 (zXn x0).bind fun r1=>
 i7 (r1.Kind==0)
def zU8(x0:SPr):Option Bool:=
 (f_x x0).bind fun r1=>
 cond r1 (
  (zXo x0).bind fun r2=>
  i7 r2) (
  i7 ia)
def zOV(x0:Int)(x2:ig)(s1:Int):Option (Int⊕(Unit⊕Bool)):=
 cond (decide (s1<(x2.length:Int))) (
  (ixO x2 s1).bind fun v1=>
  (rng (x0-1)).bind fun v2=>
  (zSt v1 0 v2).bind fun r3=>
  cond (!r3) (
   i7 (.inr (.inr ia))) (
   (rng (s1+1)).bind fun v4=>
   i7 (.inl v4))) (
  i7 (.inr (.inl ())))
def zU9(x0:Int)(x1:Int)(x2:ig):Option Bool:=
 cond ((x2.length:Int) != x1) (
  i7 ia) (
  (zJ (zOV x0 x2) 0).bind fun r5=>
  match r5 with
  |(.inl r5)=>
   i7 i9
  |(.inr r5)=>
   i7 r5)
def zOW(x0:Int)(x1:Int)(x2:ii)(s1:Int):Option (Int⊕(Unit⊕Bool)):=
 cond (decide (s1<(x2.length:Int))) (
  (ixO x2 s1).bind fun v1=>
  (zU9 x0 x1 v1).bind fun r2=>
  cond (!r2) (
   i7 (.inr (.inr ia))) (
   (rng (s1+1)).bind fun v3=>
   i7 (.inl v3))) (
  i7 (.inr (.inl ())))
def zUA(x0:Int)(x1:Int)(x2:ii):Option Bool:=
 cond ((x2.length:Int) != x1) (
  i7 ia) (
  (zJ (zOW x0 x1 x2) 0).bind fun r4=>
  match r4 with
  |(.inl r4)=>
   i7 i9
  |(.inr r4)=>
   i7 r4)
def zLZ(x0:Int)(s1:(ii)×Int):Option ((ii×Int)⊕ii):=
 cond (decide (s1.2<x0)) (
  (xF x0).bind fun m1=>
  (ixO (J1 m1 (0:Int)) s1.2).bind fun _=>
  (xW s1.1 [(J1 m1 (0:Int)).set s1.2.toNat 1]).bind fun v3=>
  (rng (s1.2+1)).bind fun v4=>
  i7 (.inl (v3,v4))) (
  i7 (.inr s1.1))
def f_J(x0:Int):Option ii:=
 (zJ (zLZ x0) ([],0)).bind fun r5=>
 i7 r5
def zS4(x0:Int)(x1:ig)(x2:ii)(s5:(ig)×Int)(s6:(ig)×Int):Option ((ig×Int)⊕ig):=
 cond (decide (s6.2<(s6.1.length:Int))) (
  (ixO x2 s5.2).bind fun v2=>
  cond (decide (s6.2<(v2.length:Int))) (
   (ixO s6.1 s6.2).bind fun v3=>
   (ixO x1 s5.2).bind fun v4=>
   (ixO x2 s5.2).bind fun v5=>
   (ixO v5 s6.2).bind fun v6=>
   (rng (v4*v6)).bind fun v7=>
   (rng (v3+v7)).bind fun v8=>
   (uU v8 x0).bind fun v9=>
   (ixO s6.1 s6.2).bind fun _=>
   (rng (s6.2+1)).bind fun v11=>
   i7 (.inl (s6.1.set s6.2.toNat v9,v11))) (
   i7 (.inr s6.1))) (
  i7 (.inr s6.1))
def zS5(x0:Int)(x1:ig)(x2:ii)(s5:(ig)×Int):Option ((ig×Int)⊕ig):=
 cond (decide (s5.2<(x1.length:Int))) (
  cond (decide (s5.2<(x2.length:Int))) (
   (zJ (zS4 x0 x1 x2 s5) (s5.1,0)).bind fun r12=>
   (rng (s5.2+1)).bind fun v13=>
   i7 (.inl (r12,v13))) (
   i7 (.inr s5.1))) (
  i7 (.inr s5.1))
def f_G(x0:Int)(x1:ig)(x2:ii)(x3:Int):Option ig:=
 (xF x3).bind fun m1=>
 (zJ (zS5 x0 x1 x2) (J1 m1 (0:Int),0)).bind fun r14=>
 i7 r14
def zS6(x0:Int)(x1:ii)(x2:ii)(x3:Int)(s1:(ii)×Int):Option ((ii×Int)⊕ii):=
 cond (decide (s1.2<(x1.length:Int))) (
  (ixO x1 s1.2).bind fun v1=>
  (f_G x0 v1 x2 x3).bind fun r2=>
  (xW s1.1 [r2]).bind fun v3=>
  (rng (s1.2+1)).bind fun v4=>
  i7 (.inl (v3,v4))) (
  i7 (.inr s1.1))
def f_S(x0:Int)(x1:ii)(x2:ii)(x3:Int):Option ii:=
 (zJ (zS6 x0 x1 x2 x3) ([],0)).bind fun r5=>
 i7 r5
def zS7(x0:zE)(x1:ig)(s5:(ii)×Int)(s6:(ii)×Int):Option ((ii×Int)⊕ii):=
 (ixO x1 s5.2).bind fun v2=>
 cond (decide (s6.2<v2)) (
  (ixO x0.zH s5.2).bind fun v3=>
  (f_S x0.Prime s6.1 v3 x0.Dim).bind fun r4=>
  (rng (s6.2+1)).bind fun v5=>
  i7 (.inl (r4,v5))) (
  i7 (.inr s6.1))
def zS8(x0:zE)(x1:ig)(s5:(ii)×Int):Option ((ii×Int)⊕ii):=
 cond (decide (s5.2<(x1.length:Int))) (
  (zJ (zS7 x0 x1 s5) (s5.1,0)).bind fun r6=>
  (rng (s5.2+1)).bind fun v7=>
  i7 (.inl (r6,v7))) (
  i7 (.inr s5.1))
def f_K(x0:zE)(x1:ig):Option ii:=
 (f_J x0.Dim).bind fun r1=>
 (zJ (zS8 x0 x1) (r1,0)).bind fun r8=>
 i7 r8
def zS9(x0:ii)(x1:ii)(s1:Int):Option (Int⊕(Unit⊕Bool)):=
 cond (decide (s1<(x0.length:Int))) (
  (ixO x0 s1).bind fun v1=>
  (ixO x1 s1).bind fun v2=>
  (f_W v1 v2).bind fun r3=>
  cond (!r3) (
   i7 (.inr (.inr ia))) (
   (rng (s1+1)).bind fun v4=>
   i7 (.inl v4))) (
  i7 (.inr (.inl ())))
def zUB(x0:ii)(x1:ii):Option Bool:=
 cond ((x0.length:Int) != (x1.length:Int)) (
  i7 ia) (
  (zJ (zS9 x0 x1) 0).bind fun r5=>
  match r5 with
  |(.inl r5)=>
   i7 i9
  |(.inr r5)=>
   i7 r5)
def zSA(x0:SPr)(x1:zE)(s1:Int):Option (Int⊕(Unit⊕Bool)):=
 cond (decide (s1<(x0.zA.length:Int))) (
  (ixO x1.zH s1).bind fun v3=>
  (zUA x1.Prime x1.Dim v3).bind fun r4=>
  cond (!r4) (
   i7 (.inr (.inr ia))) (
   (rng (s1+1)).bind fun v5=>
   i7 (.inl v5))) (
  i7 (.inr (.inl ())))
def zSB(x0:SPr)(x1:zE)(s11:Int)(s12:(ii)×Int):Option ((ii×Int)⊕ii):=
 (ixO x0.zA s11).bind fun v8=>
 cond (decide (s12.2<v8)) (
  (ixO x1.zH s11).bind fun v9=>
  (f_S x1.Prime s12.1 v9 x1.Dim).bind fun r10=>
  (rng (s12.2+1)).bind fun v11=>
  i7 (.inl (r10,v11))) (
  i7 (.inr s12.1))
def zSC(x0:SPr)(x1:zE)(s11:Int)(s14:Int):Option (Int⊕(Unit⊕Bool)):=
 cond (decide (s14<(x0.zA.length:Int))) (
  (ixO x1.zH s14).bind fun v17=>
  (ixO x1.zH s11).bind fun v18=>
  (f_S x1.Prime v17 v18 x1.Dim).bind fun r19=>
  (ixO x1.zH s11).bind fun v20=>
  (ixO x0.zF s11).bind fun v21=>
  (rng (s14-s11)).bind fun v22=>
  (rng (v22-1)).bind fun v23=>
  (ixO v21 v23).bind fun v24=>
  (f_K x1 v24).bind fun r25=>
  (f_S x1.Prime v20 r25 x1.Dim).bind fun r26=>
  (zUB r19 r26).bind fun r27=>
  cond (!r27) (
   i7 (.inr (.inr ia))) (
   (rng (s14+1)).bind fun v28=>
   i7 (.inl v28))) (
  i7 (.inr (.inl ())))
def zSD(x0:SPr)(x1:zE)(s11:Int):Option (Int⊕(Unit⊕Bool)):=
 cond (decide (s11<(x0.zA.length:Int))) (
  (f_J x1.Dim).bind fun r7=>
  (zJ (zSB x0 x1 s11) (r7,0)).bind fun r12=>
  (ixO x0.zT s11).bind fun v13=>
  (f_K x1 v13).bind fun r14=>
  (zUB r12 r14).bind fun r15=>
  cond (!r15) (
   i7 (.inr (.inr ia))) (
   (rng (s11+1)).bind fun v16=>
   (zJ (zSC x0 x1 s11) v16).bind fun r29=>
   match r29 with
   |(.inl r29)=>
    (rng (s11+1)).bind fun v30=>
    i7 (.inl v30)
   |(.inr r29)=>
    i7 (.inr (.inr r29)))) (
  i7 (.inr (.inl ())))
def f_s(x0:SPr)(x1:zE):Option Bool:=
 (zU4 x1.Prime).bind fun r1=>
 cond (!r1) (
  i7 ia) (
  (zSt x1.Dim 1 3).bind fun r2=>
  cond (!r2) (
   i7 ia) (
   cond ((x1.zH.length:Int) != (x0.zA.length:Int)) (
    i7 ia) (
    (zJ (zSA x0 x1) 0).bind fun r6=>
    match r6 with
    |(.inl r6)=>
     (zJ (zSD x0 x1) 0).bind fun r31=>
     match r31 with
     |(.inl r31)=>
      i7 i9
     |(.inr r31)=>
      i7 r31
    |(.inr r6)=>
     i7 r6)))
def zUC(x0:SPr)(x1:zE):Option Bool:=
 (zU8 x0).bind fun r1=>
 cond r1 (
  (f_s x0 x1).bind fun r2=>
  i7 r2) (
  i7 ia)
def zPN(x0:Int):Option Bool:=
 cond (x0==2) (
  i7 i9) (
  cond (x0==3) (
   i7 i9) (
   cond (x0==5) (
    i7 i9) (
    i7 (x0==7))))
def zNy(x0:Int)(x1:Int)(x2:Int):Option Bool:=
 cond (decide (x0≥x1)) (
  i7 (decide (x0≤x2))) (
  i7 ia)
def zOX(x0:SPr)(x1:ig)(s1:Int):Option (Int⊕(Unit⊕Bool)):=
 cond (decide (s1<(x1.length:Int))) (
  (ixO x1 s1).bind fun v1=>
  (ixO x0.zA s1).bind fun v2=>
  (rng (v2-1)).bind fun v3=>
  (zNy v1 0 v3).bind fun r4=>
  cond (!r4) (
   i7 (.inr (.inr ia))) (
   (rng (s1+1)).bind fun v5=>
   i7 (.inl v5))) (
  i7 (.inr (.inl ())))
def zUD(x0:SPr)(x1:ig):Option Bool:=
 cond ((x1.length:Int) != (x0.zA.length:Int)) (
  i7 ia) (
  (zJ (zOX x0 x1) 0).bind fun r6=>
  match r6 with
  |(.inl r6)=>
   i7 i9
  |(.inr r6)=>
   i7 r6)
def zPO(x0:ig)(s1:Int):Option (Int⊕(Unit⊕Bool)):=
 cond (decide (s1<(x0.length:Int))) (
  (ixO x0 s1).bind fun v1=>
  cond (v1 != 0) (
   i7 (.inr (.inr ia))) (
   (rng (s1+1)).bind fun v2=>
   i7 (.inl v2))) (
  i7 (.inr (.inl ())))
def f_V(x0:ig):Option Bool:=
 (zJ (zPO x0) 0).bind fun r3=>
 match r3 with
 |(.inl r3)=>
  i7 i9
 |(.inr r3)=>
  i7 r3
def zSE(x0:SPr)(x1:Int)(x2:ig):Option Bool:=
 (zUD x0 x2).bind fun r1=>
 cond r1 (
  (rng (x1+1)).bind fun v2=>
  (yB x2 0 v2).bind fun v3=>
  (f_V v3).bind fun r4=>
  i7 r4) (
  i7 ia)
def zNz(x0:SPr)(s1:Int×Int):Option ((Int×Int)⊕(Unit⊕Bool)):=
 cond (decide (s1.2<(x0.zA.length:Int))) (
  (ixO x0.zA s1.2).bind fun v1=>
  (zPN v1).bind fun r2=>
  cond (!r2) (
   i7 (.inr (.inr ia))) (
   (rng (s1.1*v1)).bind fun v3=>
   cond (decide (v3> 729)) (
    i7 (.inr (.inr ia))) (
    (rng (s1.1*v1)).bind fun v4=>
    (rng (s1.2+1)).bind fun v5=>
    i7 (.inl (v4,v5))))) (
  i7 (.inr (.inl ())))
def zSF(x0:SPr)(s7:Int)(v12:ii)(s8:Int):Option (Int⊕(Unit⊕Bool)):=
 cond (decide (s8<(v12.length:Int))) (
  (ixO v12 s8).bind fun v13=>
  (zSE x0 s7 v13).bind fun r14=>
  cond (!r14) (
   i7 (.inr (.inr ia))) (
   (rng (s8+1)).bind fun v15=>
   i7 (.inl v15))) (
  i7 (.inr (.inl ())))
def zN0(x0:SPr)(s7:Int):Option (Int⊕(Unit⊕Bool)):=
 cond (decide (s7<(x0.zA.length:Int))) (
  (ixO x0.zT s7).bind fun v7=>
  (zSE x0 s7 v7).bind fun r8=>
  cond (!r8) (
   i7 (.inr (.inr ia))) (
   (ixO x0.zF s7).bind fun v9=>
   (rng ((x0.zA.length:Int)-1)).bind fun v10=>
   (rng (v10-s7)).bind fun v11=>
   cond ((v9.length:Int) != v11) (
    i7 (.inr (.inr ia))) (
    (ixO x0.zF s7).bind fun v12=>
    (zJ (zSF x0 s7 v12) 0).bind fun r16=>
    match r16 with
    |(.inl r16)=>
     (rng (s7+1)).bind fun v17=>
     i7 (.inl v17)
    |(.inr r16)=>
     i7 (.inr (.inr r16))))) (
  i7 (.inr (.inl ())))
def f_t(x0:SPr):Option Bool:=
 cond (decide ((x0.zA.length:Int)> 6)) (
  i7 ia) (
  cond ((x0.zT.length:Int) != (x0.zA.length:Int)) (
   i7 ia) (
   cond ((x0.zF.length:Int) != (x0.zA.length:Int)) (
    i7 ia) (
    (zJ (zNz x0) (1,0)).bind fun r6=>
    match r6 with
    |(.inl r6)=>
     (zJ (zN0 x0) 0).bind fun r18=>
     match r18 with
     |(.inl r18)=>
      i7 i9
     |(.inr r18)=>
      i7 r18
    |(.inr r6)=>
     i7 r6)))
def f_N(x0:ig):Option ig:=
 (xW [] x0).bind fun v2=>
 i7 v2
def zSG(x2:Int)(r3:(ig))(s1:(ig)×Int):Option ((ig×Int)⊕ig):=
 cond (decide (s1.2<(r3.length:Int))) (
  (rng (x2+1)).bind fun v4=>
  (rng (v4+s1.2)).bind fun v5=>
  (ixO s1.1 v5).bind fun _=>
  (rng (s1.2+1)).bind fun v7=>
  i7 (.inl (s1.1.set v5.toNat 0,v7))) (
  i7 (.inr s1.1))
def zXp(g_c:SPr→ig→ig→Option ig)(x0:SPr)(x2:Int)(s7:(ig)×Int)(v17:Int)(s8:(ig)×Int):Option ((ig×Int)⊕ig):=
 cond (decide (s8.2<v17)) (
  (ixO x0.zF x2).bind fun v18=>
  (ixO v18 s7.2).bind fun v19=>
  (g_c x0 s8.1 v19).bind fun r20=>
  (rng (s8.2+1)).bind fun v21=>
  i7 (.inl (r20,v21))) (
  i7 (.inr s8.1))
def zXq(g_c:SPr→ig→ig→Option ig)(x0:SPr)(x2:Int)(r3:(ig))(s7:(ig)×Int):Option ((ig×Int)⊕ig):=
 cond (decide (s7.2<(r3.length:Int))) (
  (ixO r3 s7.2).bind fun v17=>
  (zJ (zXp g_c x0 x2 s7 v17) (s7.1,0)).bind fun r22=>
  (rng (s7.2+1)).bind fun v23=>
  i7 (.inl (r22,v23))) (
  i7 (.inr s7.1))
def zXr(g_c:SPr→ig→ig→Option ig)(x0:SPr)(x2:Int)(s15:(ig)×Int)(v25:Int)(s16:(ig)×Int):Option ((ig×Int)⊕ig):=
 cond (decide (s16.2<v25)) (
  (ixO x0.zF x2).bind fun v26=>
  (ixO v26 s15.2).bind fun v27=>
  (g_c x0 s16.1 v27).bind fun r28=>
  (rng (s16.2+1)).bind fun v29=>
  i7 (.inl (r28,v29))) (
  i7 (.inr s16.1))
def zXs(g_c:SPr→ig→ig→Option ig)(x0:SPr)(x2:Int)(r3:(ig))(s15:(ig)×Int):Option ((ig×Int)⊕ig):=
 cond (decide (s15.2<(r3.length:Int))) (
  (ixO r3 s15.2).bind fun v25=>
  (zJ (zXr g_c x0 x2 s15 v25) (s15.1,0)).bind fun r30=>
  (rng (s15.2+1)).bind fun v31=>
  i7 (.inl (r30,v31))) (
  i7 (.inr s15.1))
def b_b(g_c:SPr→ig→ig→Option ig)(x0:SPr)(x1:ig)(x2:Int):Option ig:=
 (rng (x2+1)).bind fun v1=>
 (yB x1 v1 x1.length).bind fun v2=>
 (f_N v2).bind fun r3=>
 (zJ (zSG x2 r3) (x1,0)).bind fun r8=>
 (ixO r8 x2).bind fun v9=>
 (rng (v9+1)).bind fun v10=>
 (ixO r8 x2).bind fun _=>
 (ixO (r8.set x2.toNat v10) x2).bind fun v12=>
 (ixO x0.zA x2).bind fun v13=>
 cond (v12==v13) (
  (ixO (r8.set x2.toNat v10) x2).bind fun _=>
  (ixO x0.zT x2).bind fun v15=>
  (g_c x0 ((r8.set x2.toNat v10).set x2.toNat 0) v15).bind fun r16=>
  (zJ (zXq g_c x0 x2 r3) (r16,0)).bind fun r24=>
  i7 r24) (
  (zJ (zXs g_c x0 x2 r3) (r8.set x2.toNat v10,0)).bind fun r32=>
  i7 r32)
def zSH(g_b:SPr→ig→Int→Option ig)(x0:SPr)(s5:(ig)×Int)(v1:Int)(s6:(ig)×Int):Option ((ig×Int)⊕ig):=
 cond (decide (s6.2<v1)) (
  (g_b x0 s6.1 s5.2).bind fun r2=>
  (rng (s6.2+1)).bind fun v3=>
  i7 (.inl (r2,v3))) (
  i7 (.inr s6.1))
def zSI(g_b:SPr→ig→Int→Option ig)(x0:SPr)(x2:ig)(s5:(ig)×Int):Option ((ig×Int)⊕ig):=
 cond (decide (s5.2<(x2.length:Int))) (
  (ixO x2 s5.2).bind fun v1=>
  (zJ (zSH g_b x0 s5 v1) (s5.1,0)).bind fun r4=>
  (rng (s5.2+1)).bind fun v5=>
  i7 (.inl (r4,v5))) (
  i7 (.inr s5.1))
def b_c(g_b:SPr→ig→Int→Option ig)(x0:SPr)(x1:ig)(x2:ig):Option ig:=
 (zJ (zSI g_b x0 x2) (x1,0)).bind fun r6=>
 i7 r6
mutual
def zSJ:Nat→SPr→ig→Int→Option ig
 |0=>fun _ _ _=>i8
 |n+1=>b_b (zPP n)
def zPP:Nat→SPr→ig→ig→Option ig
 |0=>fun _ _ _=>i8
 |n+1=>b_c (zSJ n)
end
def f_b(x0:SPr)(x1:ig)(x2:Int):Option ig:=zDz fun n=>zSJ n x0 x1 x2
def f_c(x0:SPr)(x1:ig)(x2:ig):Option ig:=zDz fun n=>zPP n x0 x1 x2
def zMa(x0:SPr)(x1:ig)(x2:Int)(s1:(ig)×Int):Option ((ig×Int)⊕ig):=
 cond (decide (s1.2<x2)) (
  (f_c x0 s1.1 x1).bind fun r2=>
  (rng (s1.2+1)).bind fun v3=>
  i7 (.inl (r2,v3))) (
  i7 (.inr s1.1))
def zUE(x0:SPr)(x1:ig)(x2:Int):Option ig:=
 (xF (x1.length:Int)).bind fun m1=>
 (zJ (zMa x0 x1 x2) (J1 m1 (0:Int),0)).bind fun r4=>
 i7 r4
def zSK(x0:SPr)(v3:ig)(v6:Int)(s6:(ig)×Int):Option ((ig×Int)⊕ig):=
 cond (decide (s6.2<v6)) (
  (f_c x0 s6.1 v3).bind fun r7=>
  (rng (s6.2+1)).bind fun v8=>
  i7 (.inl (r7,v8))) (
  i7 (.inr s6.1))
def zSL(x0:SPr)(x1:Int)(x2:ig)(v2:ii)(s5:(ig)×Int):Option ((ig×Int)⊕ig):=
 cond (decide (s5.2<(v2.length:Int))) (
  (ixO v2 s5.2).bind fun v3=>
  (rng (x1+1)).bind fun v4=>
  (rng (v4+s5.2)).bind fun v5=>
  (ixO x2 v5).bind fun v6=>
  (zJ (zSK x0 v3 v6) (s5.1,0)).bind fun r9=>
  (rng (s5.2+1)).bind fun v10=>
  i7 (.inl (r9,v10))) (
  i7 (.inr s5.1))
def f_E(x0:SPr)(x1:Int)(x2:ig):Option ig:=
 (xF (x2.length:Int)).bind fun m1=>
 (ixO x0.zF x1).bind fun v2=>
 (zJ (zSL x0 x1 x2 v2) (J1 m1 (0:Int),0)).bind fun r11=>
 i7 r11
def zXt(x0:ig)(x1:ig)(s1:Int):Option (Int⊕(Unit⊕Bool)):=
 cond (decide (s1<(x0.length:Int))) (
  (ixO x0 s1).bind fun v1=>
  (ixO x1 s1).bind fun v2=>
  cond (v1 != v2) (
   i7 (.inr (.inr ia))) (
   (rng (s1+1)).bind fun v3=>
   i7 (.inl v3))) (
  i7 (.inr (.inl ())))
def f_R(x0:ig)(x1:ig):Option Bool:=
 cond ((x0.length:Int) != (x1.length:Int)) (
  i7 ia) (
  (zJ (zXt x0 x1) 0).bind fun r4=>
  match r4 with
  |(.inl r4)=>
   i7 i9
  |(.inr r4)=>
   i7 r4)
def zPQ(x0:SPr)(s5:(ig)×ig×Int)(s6:(ig)×ig):Option ((ig×ig)⊕(ig×ig)):=
 (ixO s6.1 s5.2.2).bind fun v3=>
 cond (v3 != 0) (
  (f_b x0 s6.1 s5.2.2).bind fun r4=>
  (f_b x0 s6.2 s5.2.2).bind fun r5=>
  i7 (.inl (r4,r5))) (
  i7 (.inr (s6.1,s6.2)))
def zSM(x0:SPr)(r1:(ig))(s5:(ig)×ig×Int):Option ((ig×ig×Int)⊕ig):=
 cond (decide (s5.2.2<(r1.length:Int))) (
  (zJ (zPQ x0 s5) (s5.1,s5.2.1)).bind fun r6=>
  (rng (s5.2.2+1)).bind fun v7=>
  i7 (.inl (r6.1,r6.2,v7))) (
  i7 (.inr s5.2.1))
def f_I(x0:SPr)(x1:ig):Option ig:=
 (f_N x1).bind fun r1=>
 (xF (x1.length:Int)).bind fun m2=>
 (zJ (zSM x0 r1) (r1,J1 m2 (0:Int),0)).bind fun r8=>
 i7 r8
def zSN(x0:SPr)(x1:ig)(x2:ig):Option ig:=
 (f_N x1).bind fun r1=>
 (f_c x0 r1 x2).bind fun r2=>
 i7 r2
def zSO(x0:SPr)(x1:ig)(x2:ig):Option ig:=
 (f_I x0 x2).bind fun r1=>
 (zSN x0 x1 x2).bind fun r2=>
 (zSN x0 r1 r2).bind fun r3=>
 i7 r3
def zMb(x0:Int)(x1:Int):Option ig:=
 (xF x0).bind fun m1=>
 (ixO (J1 m1 (0:Int)) x1).bind fun _=>
 i7 ((J1 m1 (0:Int)).set x1.toNat 1)
def zSP(x0:SPr)(x1:Int)(s1:Int):Option (Int⊕(Unit⊕xH)):=
 cond (decide (s1<(x0.zA.length:Int))) (
  (ixO x0.zF x1).bind fun v2=>
  (rng (s1-x1)).bind fun v3=>
  (rng (v3-1)).bind fun v4=>
  (ixO v2 v4).bind fun v5=>
  (ixO x0.zA s1).bind fun v6=>
  (zUE x0 v5 v6).bind fun r7=>
  (ixO x0.zT s1).bind fun v8=>
  (f_E x0 x1 v8).bind fun r9=>
  (f_R r7 r9).bind fun r10=>
  cond (!r10) (
   i7 (.inr (.inr (xH.mk 1 x1 s1 0)))) (
   (rng (s1+1)).bind fun v11=>
   i7 (.inl v11))) (
  i7 (.inr (.inl ())))
def zSQ(x0:SPr)(x1:Int)(s7:Int)(s8:Int):Option (Int⊕(Unit⊕xH)):=
 cond (decide (s8<(x0.zA.length:Int))) (
  (ixO x0.zF x1).bind fun v15=>
  (rng (s8-x1)).bind fun v16=>
  (rng (v16-1)).bind fun v17=>
  (ixO v15 v17).bind fun v18=>
  (ixO x0.zF x1).bind fun v19=>
  (rng (s7-x1)).bind fun v20=>
  (rng (v20-1)).bind fun v21=>
  (ixO v19 v21).bind fun v22=>
  (zSO x0 v18 v22).bind fun r23=>
  (ixO x0.zF s7).bind fun v24=>
  (rng (s8-s7)).bind fun v25=>
  (rng (v25-1)).bind fun v26=>
  (ixO v24 v26).bind fun v27=>
  (f_E x0 x1 v27).bind fun r28=>
  (f_R r23 r28).bind fun r29=>
  cond (!r29) (
   i7 (.inr (.inr (xH.mk 2 x1 s7 s8)))) (
   (rng (s8+1)).bind fun v30=>
   i7 (.inl v30))) (
  i7 (.inr (.inl ())))
def zSR(x0:SPr)(x1:Int)(s7:Int):Option (Int⊕(Unit⊕xH)):=
 cond (decide (s7<(x0.zA.length:Int))) (
  (rng (s7+1)).bind fun v14=>
  (zJ (zSQ x0 x1 s7) v14).bind fun r31=>
  match r31 with
  |(.inl r31)=>
   (rng (s7+1)).bind fun v32=>
   i7 (.inl v32)
  |(.inr r31)=>
   i7 (.inr (.inr r31))) (
  i7 (.inr (.inl ())))
def zSS(x0:SPr)(x1:Int)(v39:Int)(s16:(ig)×Int):Option ((ig×Int)⊕ig):=
 cond (decide (s16.2<v39)) (
  (f_E x0 x1 s16.1).bind fun r40=>
  (rng (s16.2+1)).bind fun v41=>
  i7 (.inl (r40,v41))) (
  i7 (.inr s16.1))
def zST(x0:SPr)(x1:Int)(v34:ig)(s15:Int):Option (Int⊕(Unit⊕xH)):=
 cond (decide (s15<(x0.zA.length:Int))) (
  (zMb (x0.zA.length:Int) s15).bind fun r38=>
  (ixO x0.zA x1).bind fun v39=>
  (zJ (zSS x0 x1 v39) (r38,0)).bind fun r42=>
  (zMb (x0.zA.length:Int) s15).bind fun r43=>
  (zSO x0 r43 v34).bind fun r44=>
  (f_R r42 r44).bind fun r45=>
  cond (!r45) (
   i7 (.inr (.inr (xH.mk 4 x1 s15 0)))) (
   (rng (s15+1)).bind fun v46=>
   i7 (.inl v46))) (
  i7 (.inr (.inl ())))
def f_n(x0:SPr)(x1:Int):Option xH:=
 (rng (x1+1)).bind fun v1=>
 (zJ (zSP x0 x1) v1).bind fun r12=>
 match r12 with
 |(.inl r12)=>
  (rng (x1+1)).bind fun v13=>
  (zJ (zSR x0 x1) v13).bind fun r33=>
  match r33 with
  |(.inl r33)=>
   (ixO x0.zT x1).bind fun v34=>
   (f_E x0 x1 v34).bind fun r35=>
   (f_R r35 v34).bind fun r36=>
   cond (!r36) (
    i7 (xH.mk 3 x1 0 0)) (
    (rng (x1+1)).bind fun v37=>
    (zJ (zST x0 x1 v34) v37).bind fun r47=>
    match r47 with
    |(.inl r47)=>
     i7 (xH.mk 0 0 0 0)
    |(.inr r47)=>
     i7 r47)
  |(.inr r33)=>
   i7 r33
 |(.inr r12)=>
  i7 r12
def zMc(x0:SPr)(s1:Int):Option (Int⊕Int):=
 cond (decide (s1> 0)) (
  (rng (s1-1)).bind fun v1=>
  (f_n x0 v1).bind fun r2=>
  cond (r2.Kind==0&&(r2.zVQ==0&&(r2.zVS==0&&r2.zTB==0))) (
   (rng (s1-1)).bind fun v3=>
   i7 (.inl v3)) (
   i7 (.inr s1))) (
  i7 (.inr s1))
def zXu(x0:SPr):Option Int:=
 (zJ (zMc x0) (x0.zA.length:Int)).bind fun r4=>
 i7 r4
def zUF(x0:SPr):Option Bool:=
 (f_t x0).bind fun r1=>
 cond r1 (
  (zXu x0).bind fun r2=>
  i7 (r2==0)) (
  i7 ia)
def zN1(x0:zE)(x1:Int):Option zU:=
 (ixO x0.zH x1).bind fun v1=>
 i7 (zU.mk x0.Prime x0.Dim v1)
def zOY(x0:ig)(x1:Int)(s1:Int):Option (Int⊕(Unit⊕Bool)):=
 cond (decide (s1<(x0.length:Int))) (
  (ixO x0 s1).bind fun v1=>
  (rng (x1-1)).bind fun v2=>
  (zNy v1 0 v2).bind fun r3=>
  cond (!r3) (
   i7 (.inr (.inr ia))) (
   (rng (s1+1)).bind fun v4=>
   i7 (.inl v4))) (
  i7 (.inr (.inl ())))
def zUG(x0:ig)(x1:Int)(x2:Int):Option Bool:=
 cond ((x0.length:Int) != x2) (
  i7 ia) (
  (zJ (zOY x0 x1) 0).bind fun r5=>
  match r5 with
  |(.inl r5)=>
   i7 i9
  |(.inr r5)=>
   i7 r5)
def zMd(x0:zU)(s1:Int):Option (Int⊕(Unit⊕Bool)):=
 cond (decide (s1<(x0.Rows.length:Int))) (
  (ixO x0.Rows s1).bind fun v3=>
  (zUG v3 x0.Prime x0.xG).bind fun r4=>
  cond (!r4) (
   i7 (.inr (.inr ia))) (
   (rng (s1+1)).bind fun v5=>
   i7 (.inl v5))) (
  i7 (.inr (.inl ())))
def zUH(x0:zU):Option Bool:=
 (zPN x0.Prime).bind fun r1=>
 cond (!r1) (
  i7 ia) (
  (zNy x0.xG 0 8).bind fun r2=>
  cond (!r2) (
   i7 ia) (
   cond (decide ((x0.Rows.length:Int)> 8)) (
    i7 ia) (
    (zJ (zMd x0) 0).bind fun r6=>
    match r6 with
    |(.inl r6)=>
     i7 i9
    |(.inr r6)=>
     i7 r6)))
def zZu(x0:Int)(x1:Int):Option (Int×Int):=
 i7 ((IntKind.wrap .u64 ((IntKind.wrap .u64 ((IntKind.wrap .u64 ((G4 x0 (2 ^ (min (32:Int).toNat (IntKind.bits .u64))))*(G4 x1 (2 ^ (min (32:Int).toNat (IntKind.bits .u64))))))+(G4 (IntKind.wrap .u64 ((IntKind.wrap .u64 ((G4 x0 (2 ^ (min (32:Int).toNat (IntKind.bits .u64))))*(zGd .u64 x1 4294967295)))+(G4 (IntKind.wrap .u64 ((zGd .u64 x0 4294967295)*(zGd .u64 x1 4294967295))) (2 ^ (min (32:Int).toNat (IntKind.bits .u64)))))) (2 ^ (min (32:Int).toNat (IntKind.bits .u64))))))+(G4 (IntKind.wrap .u64 ((zGd .u64 (IntKind.wrap .u64 ((IntKind.wrap .u64 ((G4 x0 (2 ^ (min (32:Int).toNat (IntKind.bits .u64))))*(zGd .u64 x1 4294967295)))+(G4 (IntKind.wrap .u64 ((zGd .u64 x0 4294967295)*(zGd .u64 x1 4294967295))) (2 ^ (min (32:Int).toNat (IntKind.bits .u64)))))) 4294967295)+(IntKind.wrap .u64 ((zGd .u64 x0 4294967295)*(G4 x1 (2 ^ (min (32:Int).toNat (IntKind.bits .u64)))))))) (2 ^ (min (32:Int).toNat (IntKind.bits .u64)))))),(IntKind.wrap .u64 (x0*x1)))
def zUI(x0:Int)(x1:Int):Option (Int×Int):=
 (zZu x0 x1).bind fun r1=>
 i7 (r1.1,r1.2)
def kW(s1:(ig)×Int):Option ((ig×Int)⊕ig):=
 cond (decide (s1.2<(s1.1.length:Int))) (
  (yB s1.1 s1.2 s1.1.length).bind fun _=>
  (yB s1.1 0 s1.2).bind fun v4=>
  (rng (s1.2+((min v4.length (((s1.1.length:Int).toNat)-((s1.2:Int).toNat)):Nat):Int))).bind fun v5=>
  i7 (.inl (wP s1.1 ((s1.2:Int).toNat) (v4.take (((s1.1.length:Int).toNat)-((s1.2:Int).toNat))),v5))) (
  i7 (.inr s1.1))
def f_k(x0:ig)(x1:Int):Option ig:=
 cond (decide (x1<0)) (
  i8) (
  (zUI (IntKind.wrap .u64 (x0.length:Int)) (IntKind.wrap .u64 x1)).bind fun r1=>
  cond (decide (r1.1> 0)) (
   i8) (
   cond (decide (r1.2> 9223372036854775807)) (
    i8) (
    (xF (IntKind.wrap .i64 r1.2)).bind fun m2=>
    (zJ kW (wP (J1 m2 (0:Int)) 0 (x0.take (((J1 m2 (0:Int)).length)-0)),((min x0.length (((J1 m2 (0:Int)).length)-0):Nat):Int))).bind fun r6=>
    i7 r6)))
def zSU(s5:(ig)×Int)(v1:Int)(s6:(ig)×Int):Option ((ig×Int)⊕ig):=
 cond (decide (s6.2<v1)) (
  (rng (s5.2+1)).bind fun v2=>
  (xW s6.1 [v2]).bind fun v3=>
  (rng (s6.2+1)).bind fun v4=>
  i7 (.inl (v3,v4))) (
  i7 (.inr s6.1))
def zSV(x0:ig)(s5:(ig)×Int):Option ((ig×Int)⊕ig):=
 cond (decide (s5.2<(x0.length:Int))) (
  (ixO x0 s5.2).bind fun v1=>
  (zJ (zSU s5 v1) (s5.1,0)).bind fun r5=>
  (rng (s5.2+1)).bind fun v6=>
  i7 (.inl (r5,v6))) (
  i7 (.inr s5.1))
def f_v(x0:ig):Option ig:=
 (zJ (zSV x0) ([],0)).bind fun r7=>
 i7 r7
def zSW(x0:SPr)(s1:(List (ig×ig))×Int):Option (((List (ig×ig))×Int)⊕(List (ig×ig))):=
 cond (decide (s1.2<(x0.zA.length:Int))) (
  (ixO x0.zA s1.2).bind fun v1=>
  (rng (s1.2+1)).bind fun v2=>
  (f_k [v2] v1).bind fun r3=>
  (ixO x0.zT s1.2).bind fun v4=>
  (f_v v4).bind fun r5=>
  (xW s1.1 [(r3,r5)]).bind fun v6=>
  (rng (s1.2+1)).bind fun v7=>
  i7 (.inl (v6,v7))) (
  i7 (.inr s1.1))
def zSX(s7:(List (ig×ig))×Int)(v9:ii)(s8:(List (ig×ig))×Int):Option (((List (ig×ig))×Int)⊕(List (ig×ig))):=
 cond (decide (s8.2<(v9.length:Int))) (
  (ixO v9 s8.2).bind fun v10=>
  (rng (s7.2+1)).bind fun v11=>
  (rng (s7.2+s8.2)).bind fun v12=>
  (rng (v12+2)).bind fun v13=>
  (f_v v10).bind fun r14=>
  (xW [v11] r14).bind fun v15=>
  (xW s8.1 [([v13,v11],v15)]).bind fun v16=>
  (rng (s8.2+1)).bind fun v17=>
  i7 (.inl (v16,v17))) (
  i7 (.inr s8.1))
def zSY(x0:SPr)(s7:(List (ig×ig))×Int):Option (((List (ig×ig))×Int)⊕(List (ig×ig))):=
 cond (decide (s7.2<(x0.zA.length:Int))) (
  (ixO x0.zF s7.2).bind fun v9=>
  (zJ (zSX s7 v9) (s7.1,0)).bind fun r18=>
  (rng (s7.2+1)).bind fun v19=>
  i7 (.inl (r18,v19))) (
  i7 (.inr s7.1))
def f_z(x0:SPr):Option (List (ig×ig)):=
 (zJ (zSW x0) ([],0)).bind fun r8=>
 (zJ (zSY x0) (r8,0)).bind fun r20=>
 i7 r20
def zPR(x1:Int)(s1:(ii)×Int):Option ((ii×Int)⊕ii):=
 cond (decide (s1.2<x1)) (
  (xF x1).bind fun m1=>
  (ixO (J1 m1 (0:Int)) s1.2).bind fun _=>
  (xW s1.1 [(J1 m1 (0:Int)).set s1.2.toNat 1]).bind fun v3=>
  (rng (s1.2+1)).bind fun v4=>
  i7 (.inl (v3,v4))) (
  i7 (.inr s1.1))
def f_T(x0:Int)(x1:Int):Option zU:=
 (zJ (zPR x1) ([],0)).bind fun r5=>
 i7 (zU.mk x0 x1 r5)
def zKm(x0:Int)(x1:Int):Option Int:=
 (uU x0 x1).bind fun v1=>
 (rng (v1+x1)).bind fun v2=>
 (uU v2 x1).bind fun v3=>
 i7 v3
def zMe(x0:ig)(x1:ig)(x2:Int)(x3:Int)(s1:(ig)×Int):Option ((ig×Int)⊕ig):=
 cond (decide (s1.2<(x0.length:Int))) (
  (ixO s1.1 s1.2).bind fun v1=>
  (ixO x1 s1.2).bind fun v2=>
  (rng (x2*v2)).bind fun v3=>
  (rng (v1+v3)).bind fun v4=>
  (zKm v4 x3).bind fun r5=>
  (ixO s1.1 s1.2).bind fun _=>
  (rng (s1.2+1)).bind fun v7=>
  i7 (.inl (s1.1.set s1.2.toNat r5,v7))) (
  i7 (.inr s1.1))
def f_u(x0:ig)(x1:ig)(x2:Int)(x3:Int):Option ig:=
 (zJ (zMe x0 x1 x2 x3) (x0,0)).bind fun r8=>
 i7 r8
def zMf(x0:ig)(x1:zU)(s1:(ig)×Int):Option ((ig×Int)⊕ig):=
 cond (decide (s1.2<(x0.length:Int))) (
  (ixO x0 s1.2).bind fun v2=>
  (ixO x1.Rows s1.2).bind fun v3=>
  (f_u s1.1 v3 v2 x1.Prime).bind fun r4=>
  (rng (s1.2+1)).bind fun v5=>
  i7 (.inl (r4,v5))) (
  i7 (.inr s1.1))
def zSZ(x0:ig)(x1:zU):Option ig:=
 (xF x1.xG).bind fun m1=>
 (zJ (zMf x0 x1) (J1 m1 (0:Int),0)).bind fun r6=>
 i7 r6
def zMg(x0:zU)(x1:zU)(s1:(ii)×Int):Option ((ii×Int)⊕ii):=
 cond (decide (s1.2<(x0.Rows.length:Int))) (
  (ixO x0.Rows s1.2).bind fun v1=>
  (zSZ v1 x1).bind fun r2=>
  (xW s1.1 [r2]).bind fun v3=>
  (rng (s1.2+1)).bind fun v4=>
  i7 (.inl (v3,v4))) (
  i7 (.inr s1.1))
def zUJ(x0:zU)(x1:zU):Option zU:=
 (zJ (zMg x0 x1) ([],0)).bind fun r5=>
 i7 (zU.mk x0.Prime x1.xG r5)
def zTa(x0:zE)(x1:ig)(s1:Int×Int×ii×Int):Option ((Int×Int×ii×Int)⊕(Int×Int×ii)):=
 cond (decide (s1.2.2.2<(x1.length:Int))) (
  (ixO x1 s1.2.2.2).bind fun v2=>
  (rng (v2-1)).bind fun v3=>
  (zN1 x0 v3).bind fun r4=>
  (zUJ (zU.mk s1.1 s1.2.1 s1.2.2.1) r4).bind fun r5=>
  (rng (s1.2.2.2+1)).bind fun v6=>
  i7 (.inl (r5.Prime,r5.xG,r5.Rows,v6))) (
  i7 (.inr (s1.1,s1.2.1,s1.2.2.1)))
def f_B(x0:zE)(x1:ig):Option zU:=
 (f_T x0.Prime x0.Dim).bind fun r1=>
 (zJ (zTa x0 x1) (r1.Prime,r1.xG,r1.Rows,0)).bind fun r7=>
 i7 (zU.mk r7.1 r7.2.1 r7.2.2)
def zTb(x0:ii)(x1:ii)(s1:Int):Option (Int⊕(Unit⊕Bool)):=
 cond (decide (s1<(x0.length:Int))) (
  (ixO x0 s1).bind fun v1=>
  (ixO x1 s1).bind fun v2=>
  (f_R v1 v2).bind fun r3=>
  cond (!r3) (
   i7 (.inr (.inr ia))) (
   (rng (s1+1)).bind fun v4=>
   i7 (.inl v4))) (
  i7 (.inr (.inl ())))
def zXv(x0:ii)(x1:ii):Option Bool:=
 cond ((x0.length:Int) != (x1.length:Int)) (
  i7 ia) (
  (zJ (zTb x0 x1) 0).bind fun r5=>
  match r5 with
  |(.inl r5)=>
   i7 i9
  |(.inr r5)=>
   i7 r5)
def zUK(x0:ii)(x1:ii):Option Bool:=
 (zXv x0 x1).bind fun r1=>
 i7 r1
def zTc(x1:zE)(s1:Int):Option (Int⊕(Unit⊕Bool)):=
 cond (decide (s1<(x1.zH.length:Int))) (
  (ixO x1.zH s1).bind fun v4=>
  cond ((v4.length:Int) != x1.Dim) (
   i7 (.inr (.inr ia))) (
   (zN1 x1 s1).bind fun r5=>
   (zUH r5).bind fun r6=>
   cond (!r6) (
    i7 (.inr (.inr ia))) (
    (rng (s1+1)).bind fun v7=>
    i7 (.inl v7)))) (
  i7 (.inr (.inl ())))
def zTd(x1:zE)(r9:(List (ig×ig)))(s3:Int):Option (Int⊕(Unit⊕Bool)):=
 cond (decide (s3<(r9.length:Int))) (
  (ixO r9 s3).bind fun v10=>
  (f_B x1 v10.1).bind fun r11=>
  (f_B x1 v10.2).bind fun r12=>
  (zUK r11.Rows r12.Rows).bind fun r13=>
  cond (!r13) (
   i7 (.inr (.inr ia))) (
   (rng (s3+1)).bind fun v14=>
   i7 (.inl v14))) (
  i7 (.inr (.inl ())))
def f_F(x0:SPr)(x1:zE):Option Bool:=
 (zUF x0).bind fun r1=>
 cond (!r1) (
  i7 ia) (
  (zPN x1.Prime).bind fun r2=>
  cond (!r2) (
   i7 ia) (
   (zNy x1.Dim 1 3).bind fun r3=>
   cond (!r3) (
    i7 ia) (
    cond ((x1.zH.length:Int) != (x0.zA.length:Int)) (
     i7 ia) (
     (zJ (zTc x1) 0).bind fun r8=>
     match r8 with
     |(.inl r8)=>
      (f_z x0).bind fun r9=>
      (zJ (zTd x1 r9) 0).bind fun r15=>
      match r15 with
      |(.inl r15)=>
       i7 i9
      |(.inr r15)=>
       i7 r15
     |(.inr r8)=>
      i7 r8))))
def zTe(x1:Int):Option ig:=
 cond (decide (x1<0)) (
  i8) (
  (rng (0-0)).bind fun v1=>
  (rng (x1-v1)).bind fun v2=>
  cond (decide (v2> 0)) (
   (uI [] v2 (0:Int)).bind fun v3=>
   (yB v3 0 0).bind fun v4=>
   i7 v4) (
   i7 []))
def zTf(x0:ii)(s1:Int×Int):Option ((Int×Int)⊕Int):=
 cond (decide (s1.2<(x0.length:Int))) (
  (ixO x0 s1.2).bind fun v1=>
  (rng (s1.1+(v1.length:Int))).bind fun v2=>
  cond (decide (v2<0)) (
   i8) (
   (rng (s1.2+1)).bind fun v3=>
   i7 (.inl (v2,v3)))) (
  i7 (.inr s1.1))
def zTg(x0:ii)(s3:(ig)×Int):Option ((ig×Int)⊕ig):=
 cond (decide (s3.2<(x0.length:Int))) (
  (ixO x0 s3.2).bind fun v6=>
  (xW s3.1 v6).bind fun v7=>
  (rng (s3.2+1)).bind fun v8=>
  i7 (.inl (v7,v8))) (
  i7 (.inr s3.1))
def f_A(x0:ii):Option ig:=
 (zJ (zTf x0) (0,0)).bind fun r4=>
 (zTe r4).bind fun r5=>
 (zJ (zTg x0) (r5,0)).bind fun r9=>
 i7 r9
def zTh(x0:ig)(x1:ig)(s1:Int):Option (Int⊕(Unit⊕Bool)):=
 cond (decide (s1<(x0.length:Int))) (
  (ixO x0 s1).bind fun v1=>
  (ixO x1 s1).bind fun v2=>
  cond (v1 != v2) (
   i7 (.inr (.inr ia))) (
   (rng (s1+1)).bind fun v3=>
   i7 (.inl v3))) (
  i7 (.inr (.inl ())))
def zTi(x0:ig)(x1:ig):Option Bool:=
 cond ((x0.length:Int) != (x1.length:Int)) (
  i7 ia) (
  (zJ (zTh x0 x1) 0).bind fun r4=>
  match r4 with
  |(.inl r4)=>
   i7 i9
  |(.inr r4)=>
   i7 r4)
def zTj(x0:ii)(x1:ii)(s1:Int):Option (Int⊕(Unit⊕Bool)):=
 cond (decide (s1<(x0.length:Int))) (
  (ixO x0 s1).bind fun v1=>
  (ixO x1 s1).bind fun v2=>
  (zTi v1 v2).bind fun r3=>
  cond (!r3) (
   i7 (.inr (.inr ia))) (
   (rng (s1+1)).bind fun v4=>
   i7 (.inl v4))) (
  i7 (.inr (.inl ())))
def zTk(x0:ii)(x1:ii):Option Bool:=
 cond ((x0.length:Int) != (x1.length:Int)) (
  i7 ia) (
  (zJ (zTj x0 x1) 0).bind fun r5=>
  match r5 with
  |(.inl r5)=>
   i7 i9
  |(.inr r5)=>
   i7 r5)
def zTl(x0:List ii)(x1:List ii)(s1:Int):Option (Int⊕(Unit⊕Bool)):=
 cond (decide (s1<(x0.length:Int))) (
  (ixO x0 s1).bind fun v1=>
  (ixO x1 s1).bind fun v2=>
  (zTk v1 v2).bind fun r3=>
  cond (!r3) (
   i7 (.inr (.inr ia))) (
   (rng (s1+1)).bind fun v4=>
   i7 (.inl v4))) (
  i7 (.inr (.inl ())))
def zUL(x0:List ii)(x1:List ii):Option Bool:=
 cond ((x0.length:Int) != (x1.length:Int)) (
  i7 ia) (
  (zJ (zTl x0 x1) 0).bind fun r5=>
  match r5 with
  |(.inl r5)=>
   i7 i9
  |(.inr r5)=>
   i7 r5)
def zUM(x0:zE)(x1:zE):Option Bool:=
 cond (x0.Prime != x1.Prime) (
  i7 ia) (
  cond (x0.Dim != x1.Dim) (
   i7 ia) (
   (zUL x0.zH x1.zH).bind fun r1=>
   cond (!r1) (
    i7 ia) (
    i7 i9)))
def zUN(x0:SPr)(x1:SPr):Option Bool:=
 (zTi x0.zA x1.zA).bind fun r1=>
 cond (!r1) (
  i7 ia) (
  (zTk x0.zT x1.zT).bind fun r2=>
  cond (!r2) (
   i7 ia) (
   (zUL x0.zF x1.zF).bind fun r3=>
   cond (!r3) (
    i7 ia) (
    i7 i9)))
def zMh(x0:ii)(s1:(ii)×Int):Option ((ii×Int)⊕ii):=
 cond (decide (s1.2<(x0.length:Int))) (
  (ixO x0 s1.2).bind fun v1=>
  (rng ((v1.length:Int)+(x0.length:Int))).bind fun v2=>
  (xF v2).bind fun m3=>
  (rng ((v1.length:Int)+s1.2)).bind fun v4=>
  (ixO (wP (J1 m3 (0:Int)) 0 (v1.take (((J1 m3 (0:Int)).length)-0))) v4).bind fun _=>
  (xW s1.1 [(wP (J1 m3 (0:Int)) 0 (v1.take (((J1 m3 (0:Int)).length)-0))).set v4.toNat 1]).bind fun v6=>
  (rng (s1.2+1)).bind fun v7=>
  i7 (.inl (v6,v7))) (
  i7 (.inr s1.1))
def zUO(x0:ii):Option ii:=
 (zJ (zMh x0) ([],0)).bind fun r8=>
 i7 r8
def zMi(x0:ii)(s1:(ii)×Int):Option ((ii×Int)⊕ii):=
 cond (decide (s1.2<(x0.length:Int))) (
  (ixO x0 s1.2).bind fun v1=>
  (f_N v1).bind fun r2=>
  (xW s1.1 [r2]).bind fun v3=>
  (rng (s1.2+1)).bind fun v4=>
  i7 (.inl (v3,v4))) (
  i7 (.inr s1.1))
def zUP(x0:ii):Option ii:=
 (zJ (zMi x0) ([],0)).bind fun r5=>
 i7 r5
def zPS(s1:Int×Int×Int×Int):Option ((Int×Int×Int×Int)⊕(Int×Int)):=
 cond (s1.2.1 != 0) (
  (tH s1.1 s1.2.1).bind fun v1=>
  (rng (v1*s1.2.1)).bind fun v2=>
  (rng (s1.1-v2)).bind fun v3=>
  (rng (v1*s1.2.2.2)).bind fun v4=>
  (rng (s1.2.2.1-v4)).bind fun v5=>
  i7 (.inl (s1.2.1,v3,s1.2.2.2,v5))) (
  i7 (.inr (s1.1,s1.2.2.1)))
def f_O(x0:Int)(x1:Int):Option (Int×Bool):=
 (zJ zPS (x1,x0,0,1)).bind fun r6=>
 (zKm r6.2 x1).bind fun r7=>
 i7 (r7,(r6.1==1))
def zIt(s13:(ii)×Int×Int)(s14:Int):Option (Int⊕Int):=
 cond (decide (s14<(s13.1.length:Int))) (
  (ixO s13.1 s14).bind fun v3=>
  (ixO v3 s13.2.2).bind fun v4=>
  cond (v4==0) (
   (rng (s14+1)).bind fun v5=>
   i7 (.inl v5)) (
   i7 (.inr s14))) (
  i7 (.inr s14))
def zMj(x0:Int)(s13:(ii)×Int×Int)(r12:Int×Bool)(v13:ig)(s16:(ii)×Int):Option ((ii×Int)⊕ii):=
 cond (decide (s16.2<(v13.length:Int))) (
  (ixO s16.1 s13.2.1).bind fun v14=>
  (ixO s16.1 s13.2.1).bind fun v15=>
  (ixO v15 s16.2).bind fun v16=>
  (rng (v16*r12.1)).bind fun v17=>
  (uU v17 x0).bind fun v18=>
  (ixO v14 s16.2).bind fun _=>
  (rng (s16.2+1)).bind fun v20=>
  i7 (.inl (s16.1.set s13.2.1.toNat (v14.set s16.2.toNat v18),v20))) (
  i7 (.inr s16.1))
def zN2(x0:Int)(s13:(ii)×Int×Int)(r21:(ii))(s18:(ii)×Int):Option ((ii×Int)⊕ii):=
 cond (decide (s18.2<(r21.length:Int))) (
  cond (s18.2 != s13.2.1) (
   (ixO s18.1 s18.2).bind fun v22=>
   (ixO s18.1 s13.2.1).bind fun v23=>
   (ixO s18.1 s18.2).bind fun v24=>
   (ixO v24 s13.2.2).bind fun v25=>
   (rng (0-v25)).bind fun v26=>
   (f_u v22 v23 v26 x0).bind fun r27=>
   (rng (s18.2+1)).bind fun v28=>
   i7 (.inl (s18.1.set s18.2.toNat r27,v28))) (
   (rng (s18.2+1)).bind fun v29=>
   i7 (.inl (s18.1,v29)))) (
  i7 (.inr s18.1))
def zN3(x0:Int)(s13:(ii)×Int×Int):Option ((ii×Int×Int)⊕(ii×Int)):=
 cond (decide ((s13.1.length:Int)> 0)) (
  (ixO s13.1 0).bind fun v2=>
  cond (decide (s13.2.2<(v2.length:Int))) (
   cond (decide (s13.2.1<(s13.1.length:Int))) (
    (zJ (zIt s13) s13.2.1).bind fun r6=>
    cond (r6==(s13.1.length:Int)) (
     (rng (s13.2.2+1)).bind fun v7=>
     i7 (.inl (s13.1,s13.2.1,v7))) (
     (ixO s13.1 r6).bind fun v8=>
     (ixO s13.1 s13.2.1).bind fun v9=>
     (ixO (jL s13.1 s13.2.1 r6 v8 v9) s13.2.1).bind fun v10=>
     (ixO v10 s13.2.2).bind fun v11=>
     (f_O v11 x0).bind fun r12=>
     (ixO (jL s13.1 s13.2.1 r6 v8 v9) s13.2.1).bind fun v13=>
     (zJ (zMj x0 s13 r12 v13) (jL s13.1 s13.2.1 r6 v8 v9,0)).bind fun r21=>
     (zJ (zN2 x0 s13 r21) (r21,0)).bind fun r30=>
     (rng (s13.2.1+1)).bind fun v31=>
     (rng (s13.2.2+1)).bind fun v32=>
     i7 (.inl (r30,v31,v32)))) (
    i7 (.inr (s13.1,s13.2.1)))) (
   i7 (.inr (s13.1,s13.2.1)))) (
  i7 (.inr (s13.1,s13.2.1)))
def f_i(x0:Int)(x1:ii):Option ii:=
 (zUP x1).bind fun r1=>
 (zJ (zN3 x0) (r1,0,0)).bind fun r33=>
 (yB r33.1 0 r33.2).bind fun v34=>
 i7 v34
def zTm(x0:Int)(x1:Int):Option Int:=
 (uU x0 x1).bind fun v1=>
 cond (decide (v1<0)) (
  (rng (v1+x1)).bind fun v2=>
  i7 v2) (
  i7 v1)
def zIu(x0:ig)(s1:Int):Option (Int⊕(Unit⊕Int)):=
 cond (decide (s1<(x0.length:Int))) (
  (ixO x0 s1).bind fun v1=>
  cond (v1 != 0) (
   i7 (.inr (.inr s1))) (
   (rng (s1+1)).bind fun v2=>
   i7 (.inl v2))) (
  i7 (.inr (.inl ())))
def f_C(x0:ig):Option Int:=
 (zJ (zIu x0) 0).bind fun r3=>
 match r3 with
 |(.inl r3)=>
  i7 (x0.length:Int)
 |(.inr r3)=>
  i7 r3
def zTn(x0:Int)(x2:Int)(x3:ig)(s1:(ig)×Int):Option ((ig×Int)⊕ig):=
 cond (decide (s1.2<(s1.1.length:Int))) (
  cond (decide (s1.2<(x3.length:Int))) (
   (ixO s1.1 s1.2).bind fun v2=>
   (ixO x3 s1.2).bind fun v3=>
   (rng (x2*v3)).bind fun v4=>
   (rng (v2+v4)).bind fun v5=>
   (zTm v5 x0).bind fun r6=>
   (ixO s1.1 s1.2).bind fun _=>
   (rng (s1.2+1)).bind fun v8=>
   i7 (.inl (s1.1.set s1.2.toNat r6,v8))) (
   i7 (.inr s1.1))) (
  i7 (.inr s1.1))
def f_w(x0:Int)(x1:ig)(x2:Int)(x3:ig):Option ig:=
 (f_y x1).bind fun r1=>
 (zJ (zTn x0 x2 x3) (r1,0)).bind fun r9=>
 i7 r9
def zMk(x0:Int)(x1:ii)(s1:(ig)×Int):Option ((ig×Int)⊕ig):=
 cond (decide (s1.2<(x1.length:Int))) (
  (ixO x1 s1.2).bind fun v2=>
  (f_C v2).bind fun r3=>
  cond (decide (r3<(s1.1.length:Int))) (
   (ixO s1.1 r3).bind fun v4=>
   cond (v4 != 0) (
    (ixO s1.1 r3).bind fun v5=>
    (rng (x0-v5)).bind fun v6=>
    (ixO x1 s1.2).bind fun v7=>
    (f_w x0 s1.1 v6 v7).bind fun r8=>
    (rng (s1.2+1)).bind fun v9=>
    i7 (.inl (r8,v9))) (
    (rng (s1.2+1)).bind fun v10=>
    i7 (.inl (s1.1,v10)))) (
   (rng (s1.2+1)).bind fun v11=>
   i7 (.inl (s1.1,v11)))) (
  i7 (.inr s1.1))
def zUQ(x0:Int)(x1:ii)(x2:ig):Option ig:=
 (f_y x2).bind fun r1=>
 (zJ (zMk x0 x1) (r1,0)).bind fun r12=>
 i7 r12
def zMl(x0:Int)(x1:Int)(s1:Int):Option (Int⊕(Unit⊕Int)):=
 cond (decide (s1<x1)) (
  (zTm x0 x1).bind fun r1=>
  (rng (r1*s1)).bind fun v2=>
  (uU v2 x1).bind fun v3=>
  cond (v3==1) (
   i7 (.inr (.inr s1))) (
   (rng (s1+1)).bind fun v4=>
   i7 (.inl v4))) (
  i7 (.inr (.inl ())))
def zUR(x0:Int)(x1:Int):Option Int:=
 (zJ (zMl x0 x1) 1).bind fun r5=>
 match r5 with
 |(.inl r5)=>
  i7 0
 |(.inr r5)=>
  i7 r5
def zUS(x0:Int)(x1:Int)(x2:ig):Option ig:=
 (xF (x2.length:Int)).bind fun m1=>
 (f_w x0 (J1 m1 (0:Int)) x1 x2).bind fun r2=>
 i7 r2
def zIv(x0:Int)(s5:(ii)×Int)(r3:Int)(r7:(ig))(s6:(ii)×Bool×Int):Option ((ii×Bool×Int)⊕(ii×Bool)):=
 cond (decide (s6.2.2<(s5.1.length:Int))) (
  cond (!s6.2.1) (
   (ixO s5.1 s6.2.2).bind fun v8=>
   (f_C v8).bind fun r9=>
   cond (decide (r9> r3)) (
    (xW s6.1 [r7]).bind fun v10=>
    (ixO s5.1 s6.2.2).bind fun v11=>
    (ixO s5.1 s6.2.2).bind fun v12=>
    (ixO v12 r3).bind fun v13=>
    (rng (x0-v13)).bind fun v14=>
    (f_w x0 v11 v14 r7).bind fun r15=>
    (xW v10 [r15]).bind fun v16=>
    (rng (s6.2.2+1)).bind fun v17=>
    i7 (.inl (v16,i9,v17))) (
    (ixO s5.1 s6.2.2).bind fun v18=>
    (ixO s5.1 s6.2.2).bind fun v19=>
    (ixO v19 r3).bind fun v20=>
    (rng (x0-v20)).bind fun v21=>
    (f_w x0 v18 v21 r7).bind fun r22=>
    (xW s6.1 [r22]).bind fun v23=>
    (rng (s6.2.2+1)).bind fun v24=>
    i7 (.inl (v23,s6.2.1,v24)))) (
   (ixO s5.1 s6.2.2).bind fun v25=>
   (ixO s5.1 s6.2.2).bind fun v26=>
   (ixO v26 r3).bind fun v27=>
   (rng (x0-v27)).bind fun v28=>
   (f_w x0 v25 v28 r7).bind fun r29=>
   (xW s6.1 [r29]).bind fun v30=>
   (rng (s6.2.2+1)).bind fun v31=>
   i7 (.inl (v30,s6.2.1,v31)))) (
  i7 (.inr (s6.1,s6.2.1)))
def zPT(x0:Int)(x1:ii)(s5:(ii)×Int):Option ((ii×Int)⊕ii):=
 cond (decide (s5.2<(x1.length:Int))) (
  (ixO x1 s5.2).bind fun v1=>
  (zUQ x0 s5.1 v1).bind fun r2=>
  (f_C r2).bind fun r3=>
  cond (r3==(r2.length:Int)) (
   (rng (s5.2+1)).bind fun v4=>
   i7 (.inl (s5.1,v4))) (
   (ixO r2 r3).bind fun v5=>
   (zUR v5 x0).bind fun r6=>
   (zUS x0 r6 r2).bind fun r7=>
   (zJ (zIv x0 s5 r3 r7) ([],ia,0)).bind fun r32=>
   cond (!r32.2) (
    (xW r32.1 [r7]).bind fun v33=>
    (rng (s5.2+1)).bind fun v34=>
    i7 (.inl (v33,v34))) (
    (rng (s5.2+1)).bind fun v35=>
    i7 (.inl (r32.1,v35))))) (
  i7 (.inr s5.1))
def f_p(x0:Int)(x1:ii):Option ii:=
 (zJ (zPT x0 x1) ([],0)).bind fun r36=>
 i7 r36
def zMm(x1:ii)(r1:(ii))(s1:(ii)×Int):Option ((ii×Int)⊕ii):=
 cond (decide (s1.2<(x1.length:Int))) (
  (ixO x1 s1.2).bind fun v2=>
  (f_y v2).bind fun r3=>
  (ixO r1 s1.2).bind fun v4=>
  (xW r3 v4).bind fun v5=>
  (xW s1.1 [v5]).bind fun v6=>
  (rng (s1.2+1)).bind fun v7=>
  i7 (.inl (v6,v7))) (
  i7 (.inr s1.1))
def zUT(x0:Int)(x1:ii):Option ii:=
 (f_J (x1.length:Int)).bind fun r1=>
 (zJ (zMm x1 r1) ([],0)).bind fun r8=>
 (f_p x0 r8).bind fun r9=>
 i7 r9
def zPU(x2:Int)(r1:(ii))(s1:(ii)×Int):Option ((ii×Int)⊕ii):=
 cond (decide (s1.2<(r1.length:Int))) (
  (ixO r1 s1.2).bind fun v2=>
  (f_C v2).bind fun r3=>
  cond (decide (r3≥x2)) (
   (ixO r1 s1.2).bind fun v4=>
   (yB v4 x2 v4.length).bind fun v5=>
   (f_y v5).bind fun r6=>
   (xW s1.1 [r6]).bind fun v7=>
   (rng (s1.2+1)).bind fun v8=>
   i7 (.inl (v7,v8))) (
   (rng (s1.2+1)).bind fun v9=>
   i7 (.inl (s1.1,v9)))) (
  i7 (.inr s1.1))
def f_X(x0:Int)(x1:ii)(x2:Int):Option ii:=
 (zUT x0 x1).bind fun r1=>
 (zJ (zPU x2 r1) ([],0)).bind fun r10=>
 i7 r10
def zUU(x0:SPr):Option Int:=
 (rng ((x0.zA.length:Int)-1)).bind fun v1=>
 (rng ((x0.zA.length:Int)*v1)).bind fun v2=>
 (tH v2 2).bind fun v3=>
 (rng ((x0.zA.length:Int)+v3)).bind fun v4=>
 i7 v4
def zXw(x0:Int)(x1:Int)(x2:Int):Option Int:=
 (rng (x1*x0)).bind fun v1=>
 (rng (x0+v1)).bind fun v2=>
 (rng (x1+1)).bind fun v3=>
 (rng (x1*v3)).bind fun v4=>
 (tH v4 2).bind fun v5=>
 (rng (v2-v5)).bind fun v6=>
 (rng (v6+x2)).bind fun v7=>
 (rng (v7-x1)).bind fun v8=>
 (rng (v8-1)).bind fun v9=>
 i7 v9
def zUV(x0:SPr):Option Int:=
 (rng ((x0.zA.length:Int)+1)).bind fun v1=>
 (rng ((x0.zA.length:Int)*v1)).bind fun v2=>
 (tH v2 2).bind fun v3=>
 i7 v3
def zMn(x0:ig)(x1:Int)(s1:(ii)×Int):Option ((ii×Int)⊕ii):=
 cond (decide (s1.2<(x0.length:Int))) (
  (rng (s1.2+x1)).bind fun v1=>
  (yB x0 s1.2 v1).bind fun v2=>
  (f_N v2).bind fun r3=>
  (xW s1.1 [r3]).bind fun v4=>
  (rng (s1.2+x1)).bind fun v5=>
  i7 (.inl (v4,v5))) (
  i7 (.inr s1.1))
def zTo(x0:ig)(x1:Int):Option ii:=
 (zJ (zMn x0 x1) ([],0)).bind fun r6=>
 i7 r6
def zMo(x0:zE)(x1:ii)(x2:ig)(x3:Int):Option ig:=
 (ixO x0.zH x3).bind fun v1=>
 (f_G x0.Prime x2 v1 x0.Dim).bind fun r2=>
 (ixO x1 x3).bind fun v3=>
 (f_w x0.Prime r2 1 v3).bind fun r4=>
 i7 r4
def zTp(x0:zE)(x1:ii)(x3:ig)(s5:(ig)×Int)(s6:(ig)×Int):Option ((ig×Int)⊕ig):=
 (ixO x3 s5.2).bind fun v1=>
 cond (decide (s6.2<v1)) (
  (zMo x0 x1 s6.1 s5.2).bind fun r2=>
  (rng (s6.2+1)).bind fun v3=>
  i7 (.inl (r2,v3))) (
  i7 (.inr s6.1))
def zTq(x0:zE)(x1:ii)(x3:ig)(s5:(ig)×Int):Option ((ig×Int)⊕ig):=
 cond (decide (s5.2<(x3.length:Int))) (
  (zJ (zTp x0 x1 x3 s5) (s5.1,0)).bind fun r4=>
  (rng (s5.2+1)).bind fun v5=>
  i7 (.inl (r4,v5))) (
  i7 (.inr s5.1))
def f_L(x0:zE)(x1:ii)(x2:ig)(x3:ig):Option ig:=
 (zJ (zTq x0 x1 x3) (x2,0)).bind fun r6=>
 i7 r6
def zMp(x0:zE)(x1:ii)(x2:ig)(s1:(ig)×Int):Option ((ig×Int)⊕ig):=
 cond (decide (s1.2<(x2.length:Int))) (
  (ixO x2 s1.2).bind fun v2=>
  (rng (v2-1)).bind fun v3=>
  (zN1 x0 v3).bind fun r4=>
  (zSZ s1.1 r4).bind fun r5=>
  (rng (v2-1)).bind fun v6=>
  (ixO x1 v6).bind fun v7=>
  (f_u r5 v7 1 x0.Prime).bind fun r8=>
  (rng (s1.2+1)).bind fun v9=>
  i7 (.inl (r8,v9))) (
  i7 (.inr s1.1))
def zTr(x0:zE)(x1:ii)(x2:ig):Option ig:=
 (xF x0.Dim).bind fun m1=>
 (zJ (zMp x0 x1 x2) (J1 m1 (0:Int),0)).bind fun r10=>
 i7 r10
def zMq(x1:zE)(x2:ii)(r1:(List (ig×ig)))(s1:(ii)×Int):Option ((ii×Int)⊕ii):=
 cond (decide (s1.2<(r1.length:Int))) (
  (ixO r1 s1.2).bind fun v2=>
  (zTr x1 x2 v2.1).bind fun r3=>
  (zTr x1 x2 v2.2).bind fun r4=>
  (f_u r3 r4 (-1) x1.Prime).bind fun r5=>
  (xW s1.1 [r5]).bind fun v6=>
  (rng (s1.2+1)).bind fun v7=>
  i7 (.inl (v6,v7))) (
  i7 (.inr s1.1))
def zUW(x0:SPr)(x1:zE)(x2:ii):Option ii:=
 (f_z x0).bind fun r1=>
 (zJ (zMq x1 x2 r1) ([],0)).bind fun r8=>
 i7 r8
def zMr(x0:zX):Option zI:=
 cond (decide ((x0.zMz.length:Int)> 0)) (
  (ixO x0.zMz 0).bind fun v1=>
  (xF (x0.p.zA.length:Int)).bind fun m2=>
  (xF (v1.length:Int)).bind fun m3=>
  i7 (zI.mk (J1 m2 (0:Int)) (J1 m3 (0:Int)))) (
  (xF (x0.p.zA.length:Int)).bind fun m4=>
  (xF 0).bind fun m5=>
  i7 (zI.mk (J1 m4 (0:Int)) (J1 m5 (0:Int))))
def f_U(x0:zX)(x1:Int)(x2:Int):Option zI:=
 (ixO x0.p.zF x1).bind fun v1=>
 (rng (x2-x1)).bind fun v2=>
 (rng (v2-1)).bind fun v3=>
 (ixO v1 v3).bind fun v4=>
 (zXw (x0.p.zA.length:Int) x1 x2).bind fun r5=>
 (ixO x0.zMz r5).bind fun v6=>
 i7 (zI.mk v4 v6)
def zMs(x0:zE)(x1:ig)(x2:Int)(s1:(ig)×Int):Option ((ig×Int)⊕ig):=
 cond (decide (s1.2<(x1.length:Int))) (
  (rng (s1.2+x0.Dim)).bind fun v1=>
  (yB x1 s1.2 v1).bind fun v2=>
  (ixO x0.zH x2).bind fun v3=>
  (f_G x0.Prime v2 v3 x0.Dim).bind fun r4=>
  (xW s1.1 r4).bind fun v5=>
  (rng (s1.2+x0.Dim)).bind fun v6=>
  i7 (.inl (v5,v6))) (
  i7 (.inr s1.1))
def zUX(x0:zE)(x1:ig)(x2:Int):Option ig:=
 (zJ (zMs x0 x1 x2) ([],0)).bind fun r7=>
 i7 r7
def zN4(x0:zX)(x1:Int):Option zI:=
 (ixO x0.p.zT x1).bind fun v1=>
 (ixO x0.zMz x1).bind fun v2=>
 i7 (zI.mk v1 v2)
def zUY(g_d:zX→Int→zI→zI→Option zI)(x0:zX)(x1:Int)(x2:zI)(s5:(ig)×ig×Int)(s6:(ig)×ig×Int):Option ((ig×ig×Int)⊕(ig×ig)):=
 (ixO x2.x s5.2.2).bind fun v3=>
 cond (decide (s6.2.2<v3)) (
  (rng (x1+1)).bind fun v4=>
  (f_U x0 x1 s5.2.2).bind fun r5=>
  (g_d x0 v4 (zI.mk s6.1 s6.2.1) r5).bind fun r6=>
  (rng (s6.2.2+1)).bind fun v7=>
  i7 (.inl (r6.x,r6.v,v7))) (
  i7 (.inr (s6.1,s6.2.1)))
def zTs(g_d:zX→Int→zI→zI→Option zI)(x0:zX)(x1:Int)(x2:zI)(s5:(ig)×ig×Int):Option ((ig×ig×Int)⊕(ig×ig)):=
 cond (decide (s5.2.2<(x2.x.length:Int))) (
  (zJ (zUY g_d x0 x1 x2 s5) (s5.1,s5.2.1,0)).bind fun r8=>
  (rng (s5.2.2+1)).bind fun v9=>
  i7 (.inl (r8.1,r8.2,v9))) (
  i7 (.inr (s5.1,s5.2.1)))
def b_h(g_d:zX→Int→zI→zI→Option zI)(x0:zX)(x1:Int)(x2:zI):Option zI:=
 (zMr x0).bind fun r1=>
 (rng (x1+1)).bind fun v2=>
 (zJ (zTs g_d x0 x1 x2) (r1.x,r1.v,v2)).bind fun r10=>
 (zUX x0.m x2.v x1).bind fun r11=>
 (f_w x0.m.Prime r10.2 1 r11).bind fun r12=>
 i7 (zI.mk r10.1 r12)
def zPV(g_h:zX→Int→zI→Option zI)(x0:zX)(x1:Int)(x3:zI)(s1:(ig)×ig×Int):Option ((ig×ig×Int)⊕(ig×ig)):=
 (ixO x3.x x1).bind fun v7=>
 cond (decide (s1.2.2<v7)) (
  (g_h x0 x1 (zI.mk s1.1 s1.2.1)).bind fun r8=>
  (rng (s1.2.2+1)).bind fun v9=>
  i7 (.inl (r8.x,r8.v,v9))) (
  i7 (.inr (s1.1,s1.2.1)))
def b_d(g_h:zX→Int→zI→Option zI)(g_d:zX→Int→zI→zI→Option zI)(x0:zX)(x1:Int)(x2:zI)(x3:zI):Option zI:=
 cond (decide (x1≥(x0.p.zA.length:Int))) (
  (xF (x0.p.zA.length:Int)).bind fun m1=>
  (f_w x0.m.Prime x2.v 1 x3.v).bind fun r2=>
  i7 (zI.mk (J1 m1 (0:Int)) r2)) (
  (f_y x2.x).bind fun r3=>
  (f_y x3.x).bind fun r4=>
  (ixO r3 x1).bind fun _=>
  (ixO r4 x1).bind fun _=>
  (zJ (zPV g_h x0 x1 x3) (r3.set x1.toNat 0,x2.v,0)).bind fun r10=>
  (rng (x1+1)).bind fun v11=>
  (g_d x0 v11 (zI.mk r10.1 r10.2) (zI.mk (r4.set x1.toNat 0) x3.v)).bind fun r12=>
  (ixO x2.x x1).bind fun v13=>
  (ixO x3.x x1).bind fun v14=>
  (rng (v13+v14)).bind fun v15=>
  (ixO x0.p.zA x1).bind fun v16=>
  cond (decide (v15≥v16)) (
   (ixO x0.p.zA x1).bind fun v17=>
   (rng (v15-v17)).bind fun v18=>
   (rng (x1+1)).bind fun v19=>
   (zN4 x0 x1).bind fun r20=>
   (g_d x0 v19 r20 r12).bind fun r21=>
   (f_y r21.x).bind fun r22=>
   (ixO r22 x1).bind fun _=>
   i7 (zI.mk (r22.set x1.toNat v18) r21.v)) (
   (f_y r12.x).bind fun r24=>
   (ixO r24 x1).bind fun _=>
   i7 (zI.mk (r24.set x1.toNat v15) r12.v)))
mutual
def zN5:Nat→zX→Int→zI→Option zI
 |0=>fun _ _ _=>i8
 |n+1=>b_h (zN6 n)
def zN6:Nat→zX→Int→zI→zI→Option zI
 |0=>fun _ _ _ _=>i8
 |n+1=>b_d (zN5 n) (zN6 n)
end
def f_h(x0:zX)(x1:Int)(x2:zI):Option zI:=zDz fun n=>zN5 n x0 x1 x2
def f_d(x0:zX)(x1:Int)(x2:zI)(x3:zI):Option zI:=zDz fun n=>zN6 n x0 x1 x2 x3
def f_Y(x0:zX)(x1:zI)(x2:zI):Option ig:=
 (rng (x0.m.Prime-1)).bind fun v1=>
 (f_w x0.m.Prime x1.v v1 x2.v).bind fun r2=>
 i7 r2
def zPW(x0:zX)(x1:Int)(s9:(ii)×Int)(s10:(ig)×ig×Int):Option ((ig×ig×Int)⊕(ig×ig)):=
 (ixO x0.p.zA s9.2).bind fun v3=>
 cond (decide (s10.2.2<v3)) (
  (rng (x1+1)).bind fun v4=>
  (f_U x0 x1 s9.2).bind fun r5=>
  (f_d x0 v4 (zI.mk s10.1 s10.2.1) r5).bind fun r6=>
  (rng (s10.2.2+1)).bind fun v7=>
  i7 (.inl (r6.x,r6.v,v7))) (
  i7 (.inr (s10.1,s10.2.1)))
def zPX(x0:zX)(x1:Int)(s9:(ii)×Int)(s12:(ii)×Int):Option ((ii×Int)⊕ii):=
 cond (decide (s12.2<(x0.p.zA.length:Int))) (
  (f_U x0 x1 s9.2).bind fun r14=>
  (f_U x0 x1 s12.2).bind fun r15=>
  (f_U x0 s9.2 s12.2).bind fun r16=>
  (f_h x0 x1 r16).bind fun r17=>
  (rng (x1+1)).bind fun v18=>
  (f_d x0 v18 r15 r14).bind fun r19=>
  (rng (x1+1)).bind fun v20=>
  (f_d x0 v20 r14 r17).bind fun r21=>
  (f_Y x0 r19 r21).bind fun r22=>
  (xW s12.1 [r22]).bind fun v23=>
  (rng (s12.2+1)).bind fun v24=>
  i7 (.inl (v23,v24))) (
  i7 (.inr s12.1))
def zTt(x0:zX)(x1:Int)(s9:(ii)×Int):Option ((ii×Int)⊕ii):=
 cond (decide (s9.2<(x0.p.zA.length:Int))) (
  (zMr x0).bind fun r2=>
  (zJ (zPW x0 x1 s9) (r2.x,r2.v,0)).bind fun r8=>
  (zN4 x0 s9.2).bind fun r9=>
  (f_h x0 x1 r9).bind fun r10=>
  (f_Y x0 (zI.mk r8.1 r8.2) r10).bind fun r11=>
  (xW s9.1 [r11]).bind fun v12=>
  (rng (s9.2+1)).bind fun v13=>
  (zJ (zPX x0 x1 s9) (v12,v13)).bind fun r25=>
  (rng (s9.2+1)).bind fun v26=>
  i7 (.inl (r25,v26))) (
  i7 (.inr s9.1))
def zTu(x0:zX)(x1:Int)(s20:(ig)×ig×Int):Option ((ig×ig×Int)⊕(ig×ig)):=
 (ixO x0.p.zA x1).bind fun v35=>
 cond (decide (s20.2.2<v35)) (
  (f_h x0 x1 (zI.mk s20.1 s20.2.1)).bind fun r36=>
  (rng (s20.2.2+1)).bind fun v37=>
  i7 (.inl (r36.x,r36.v,v37))) (
  i7 (.inr (s20.1,s20.2.1)))
def zPY(x0:zX)(x1:Int)(r28:zI)(s19:(ii)×Int):Option ((ii×Int)⊕ii):=
 cond (decide (s19.2<(x0.p.zA.length:Int))) (
  (zMr x0).bind fun r33=>
  (ixO r33.x s19.2).bind fun _=>
  (zJ (zTu x0 x1) (r33.x.set s19.2.toNat 1,r33.v,0)).bind fun r38=>
  (rng (x1+1)).bind fun v39=>
  (f_d x0 v39 r28 (zI.mk r38.1 r38.2)).bind fun r40=>
  (rng (x1+1)).bind fun v41=>
  (f_d x0 v41 (zI.mk (r33.x.set s19.2.toNat 1) r33.v) r28).bind fun r42=>
  (f_Y x0 r40 r42).bind fun r43=>
  (xW s19.1 [r43]).bind fun v44=>
  (rng (s19.2+1)).bind fun v45=>
  i7 (.inl (v44,v45))) (
  i7 (.inr s19.1))
def f_l(x0:zX)(x1:Int):Option ii:=
 (rng (x1+1)).bind fun v1=>
 (zJ (zTt x0 x1) ([],v1)).bind fun r27=>
 (zN4 x0 x1).bind fun r28=>
 (f_h x0 x1 r28).bind fun r29=>
 (f_Y x0 r29 r28).bind fun r30=>
 (xW r27 [r30]).bind fun v31=>
 (rng (x1+1)).bind fun v32=>
 (zJ (zPY x0 x1 r28) (v31,v32)).bind fun r46=>
 i7 r46
def zPZ(x0:zX)(s1:(ii)×Int):Option ((ii×Int)⊕ii):=
 cond (decide (s1.2<(x0.p.zA.length:Int))) (
  (f_l x0 s1.2).bind fun r1=>
  (xW s1.1 r1).bind fun v2=>
  (rng (s1.2+1)).bind fun v3=>
  i7 (.inl (v2,v3))) (
  i7 (.inr s1.1))
def f_M(x0:zX):Option ii:=
 (zJ (zPZ x0) ([],0)).bind fun r4=>
 i7 r4
def zMt(x0:ii)(s1:(ig)×Int):Option ((ig×Int)⊕ig):=
 cond (decide (s1.2<(x0.length:Int))) (
  (ixO x0 s1.2).bind fun v1=>
  (xW s1.1 v1).bind fun v2=>
  (rng (s1.2+1)).bind fun v3=>
  i7 (.inl (v2,v3))) (
  i7 (.inr s1.1))
def zUZ(x0:ii):Option ig:=
 (zJ (zMt x0) ([],0)).bind fun r4=>
 i7 r4
def zQa(x2:Int)(r2:(ii))(s1:(ii)×Int):Option ((ii×Int)⊕ii):=
 cond (decide (s1.2<(r2.length:Int))) (
  (ixO r2 s1.2).bind fun v3=>
  (yB v3 0 x2).bind fun v4=>
  (f_V v4).bind fun r5=>
  cond r5 (
   (yB v3 x2 v3.length).bind fun v6=>
   (xW s1.1 [v6]).bind fun v7=>
   (rng (s1.2+1)).bind fun v8=>
   i7 (.inl (v7,v8))) (
   (rng (s1.2+1)).bind fun v9=>
   i7 (.inl (s1.1,v9)))) (
  i7 (.inr s1.1))
def f_H(x0:Int)(x1:ii)(x2:Int):Option ii:=
 (zUO x1).bind fun r1=>
 (f_i x0 r1).bind fun r2=>
 (zJ (zQa x2 r2) ([],0)).bind fun r10=>
 (f_i x0 r10).bind fun r11=>
 i7 r11
def zMu(x0:ig)(x1:Int)(s1:(ii)×Int):Option ((ii×Int)⊕ii):=
 (rng (s1.2+x1)).bind fun v1=>
 cond (decide (v1≤(x0.length:Int))) (
  (rng (s1.2+x1)).bind fun v2=>
  (yB x0 s1.2 v2).bind fun v3=>
  (f_y v3).bind fun r4=>
  (xW s1.1 [r4]).bind fun v5=>
  (rng (s1.2+x1)).bind fun v6=>
  i7 (.inl (v5,v6))) (
  i7 (.inr s1.1))
def zTv(x0:ig)(x1:Int):Option ii:=
 (zJ (zMu x0 x1) ([],0)).bind fun r7=>
 i7 r7
def zTw(x0:SPr)(x1:zE)(x2:ii)(s5:(ii)×Int)(s6:(ig)×Int):Option ((ig×Int)⊕ig):=
 (ixO x0.zA s5.2).bind fun v2=>
 cond (decide (s6.2<v2)) (
  (zMo x1 x2 s6.1 s5.2).bind fun r3=>
  (rng (s6.2+1)).bind fun v4=>
  i7 (.inl (r3,v4))) (
  i7 (.inr s6.1))
def zTx(x0:SPr)(x1:zE)(x2:ii)(m1:Nat)(s5:(ii)×Int):Option ((ii×Int)⊕ii):=
 cond (decide (s5.2<(x0.zA.length:Int))) (
  (zJ (zTw x0 x1 x2 s5) (J1 m1 (0:Int),0)).bind fun r5=>
  (rng (x1.Prime-1)).bind fun v6=>
  (ixO x0.zT s5.2).bind fun v7=>
  (f_L x1 x2 (J1 m1 (0:Int)) v7).bind fun r8=>
  (f_w x1.Prime r5 v6 r8).bind fun r9=>
  (xW s5.1 [r9]).bind fun v10=>
  (rng (s5.2+1)).bind fun v11=>
  i7 (.inl (v10,v11))) (
  i7 (.inr s5.1))
def zTy(x0:SPr)(x1:zE)(x2:ii)(m1:Nat)(s13:(ii)×Int)(s14:(ii)×Int):Option ((ii×Int)⊕ii):=
 cond (decide (s14.2<(x0.zA.length:Int))) (
  (zMo x1 x2 (J1 m1 (0:Int)) s14.2).bind fun r14=>
  (zMo x1 x2 r14 s13.2).bind fun r15=>
  (zMo x1 x2 (J1 m1 (0:Int)) s13.2).bind fun r16=>
  (ixO x0.zF s13.2).bind fun v17=>
  (rng (s14.2-s13.2)).bind fun v18=>
  (rng (v18-1)).bind fun v19=>
  (ixO v17 v19).bind fun v20=>
  (f_L x1 x2 r16 v20).bind fun r21=>
  (rng (x1.Prime-1)).bind fun v22=>
  (f_w x1.Prime r15 v22 r21).bind fun r23=>
  (xW s14.1 [r23]).bind fun v24=>
  (rng (s14.2+1)).bind fun v25=>
  i7 (.inl (v24,v25))) (
  i7 (.inr s14.1))
def zTz(x0:SPr)(x1:zE)(x2:ii)(m1:Nat)(s13:(ii)×Int):Option ((ii×Int)⊕ii):=
 cond (decide (s13.2<(x0.zA.length:Int))) (
  (rng (s13.2+1)).bind fun v13=>
  (zJ (zTy x0 x1 x2 m1 s13) (s13.1,v13)).bind fun r26=>
  (rng (s13.2+1)).bind fun v27=>
  i7 (.inl (r26,v27))) (
  i7 (.inr s13.1))
def f_r(x0:SPr)(x1:zE)(x2:ii):Option ii:=
 (xF x1.Dim).bind fun m1=>
 (zJ (zTx x0 x1 x2 m1) ([],0)).bind fun r12=>
 (zJ (zTz x0 x1 x2 m1) (r12,0)).bind fun r28=>
 i7 r28
def zMv(x0:SPr)(x1:zE)(v1:Int)(s1:(ii)×Int):Option ((ii×Int)⊕ii):=
 cond (decide (s1.2<v1)) (
  (xF v1).bind fun m2=>
  (ixO (J1 m2 (0:Int)) s1.2).bind fun _=>
  (zTv ((J1 m2 (0:Int)).set s1.2.toNat 1) x1.Dim).bind fun r4=>
  (f_r x0 x1 r4).bind fun r5=>
  (zUZ r5).bind fun r6=>
  (xW s1.1 [r6]).bind fun v7=>
  (rng (s1.2+1)).bind fun v8=>
  i7 (.inl (v7,v8))) (
  i7 (.inr s1.1))
def zVa(x0:SPr)(x1:zE):Option ii:=
 (rng ((x0.zA.length:Int)*x1.Dim)).bind fun v1=>
 (zJ (zMv x0 x1 v1) ([],0)).bind fun r9=>
 i7 r9
def zXx(x0:SPr)(x1:zE):Option ii:=
 (zVa x0 x1).bind fun r1=>
 (f_p x1.Prime r1).bind fun r2=>
 i7 r2
def zMw(x0:SPr)(x1:zE)(v1:Int)(s1:(ii)×Int):Option ((ii×Int)⊕ii):=
 cond (decide (s1.2<v1)) (
  (zMb v1 s1.2).bind fun r2=>
  (zTo r2 x1.Dim).bind fun r3=>
  (zUW x0 x1 r3).bind fun r4=>
  (f_A r4).bind fun r5=>
  (xW s1.1 [r5]).bind fun v6=>
  (rng (s1.2+1)).bind fun v7=>
  i7 (.inl (v6,v7))) (
  i7 (.inr s1.1))
def zVb(x0:SPr)(x1:zE):Option ii:=
 (rng ((x0.zA.length:Int)*x1.Dim)).bind fun v1=>
 (zJ (zMw x0 x1 v1) ([],0)).bind fun r8=>
 i7 r8
structure zK where
 Word:ig
 Left:ig
 zVR:ig
abbrev zG(x:zK):T:=.agg [(L 1 I) x.Word,(L 1 I) x.Left,(L 1 I) x.zVR]
instance:Enc zG:=.of fun _=>zME ⟨Enc.t (f:=(L 1 I)) inferInstance _,Enc.t (f:=(L 1 I)) inferInstance _,Enc.t (f:=(L 1 I)) inferInstance _,trivial⟩
structure xL where
 p:SPr
 m:zE
 sums:List zU
abbrev zJi(x:xL):T:=.agg [(Pt yM) x.p,(Pt zV) x.m,(L 3 zO) x.sums]
instance:Enc zJi:=.of fun _=>zME ⟨Enc.t (f:=(Pt yM)) inferInstance _,Enc.t (f:=(Pt zV)) inferInstance _,Enc.t (f:=(L 3 zO)) inferInstance _,trivial⟩
def zQb(x1:zE)(s5:(ii)×Int)(s6:(ig)×Int):Option ((ig×Int)⊕ig):=
 cond (decide (s6.2<x1.Dim)) (
  (rng (s5.2*x1.Dim)).bind fun v5=>
  (rng (v5+s6.2)).bind fun v6=>
  (rng (v6*x1.Dim)).bind fun v7=>
  (rng (v7+s6.2)).bind fun v8=>
  (ixO s6.1 v8).bind fun _=>
  (rng (s6.2+1)).bind fun v10=>
  i7 (.inl (s6.1.set v8.toNat 1,v10))) (
  i7 (.inr s6.1))
def zT0(x1:zE)(r1:Int)(v2:Int)(s5:(ii)×Int):Option ((ii×Int)⊕ii):=
 cond (decide (s5.2<r1)) (
  (rng (v2*x1.Dim)).bind fun v3=>
  (xF v3).bind fun m4=>
  (zJ (zQb x1 s5) (J1 m4 (0:Int),0)).bind fun r11=>
  (xW s5.1 [r11]).bind fun v12=>
  (rng (s5.2+1)).bind fun v13=>
  i7 (.inl (v12,v13))) (
  i7 (.inr s5.1))
def zQc(x1:zE)(r15:(ii))(s13:(ii)×Int)(s14:(ig)×Int):Option ((ig×Int)⊕ig):=
 cond (decide (s14.2<(r15.length:Int))) (
  (ixO r15 s14.2).bind fun v16=>
  (rng (s13.2*x1.Dim)).bind fun v17=>
  (rng (s13.2+1)).bind fun v18=>
  (rng (v18*x1.Dim)).bind fun v19=>
  (yB v16 v17 v19).bind fun v20=>
  (xW s14.1 v20).bind fun v21=>
  (rng (s14.2+1)).bind fun v22=>
  i7 (.inl (v21,v22))) (
  i7 (.inr s14.1))
def zT1(x1:zE)(v2:Int)(r15:(ii))(s13:(ii)×Int):Option ((ii×Int)⊕ii):=
 cond (decide (s13.2<v2)) (
  (zJ (zQc x1 r15 s13) ([],0)).bind fun r23=>
  (xW s13.1 [r23]).bind fun v24=>
  (rng (s13.2+1)).bind fun v25=>
  i7 (.inl (v24,v25))) (
  i7 (.inr s13.1))
def f_m(x0:SPr)(x1:zE):Option ii:=
 (zUU x0).bind fun r1=>
 (rng (r1*x1.Dim)).bind fun v2=>
 (zJ (zT0 x1 r1 v2) ([],0)).bind fun r14=>
 (f_M (zX.mk x0 x1 r14)).bind fun r15=>
 (zJ (zT1 x1 v2 r15) ([],0)).bind fun r26=>
 (rng ((r15.length:Int)*x1.Dim)).bind fun v27=>
 (f_X x1.Prime r26 v27).bind fun r28=>
 i7 r28
def f_Z(x0:SPr)(x1:ig)(x2:Int):Option ig:=
 (rng (x2+1)).bind fun v1=>
 cond (decide (v1<(x1.length:Int))) (
  (ixO x1 x2).bind fun v2=>
  (rng (x2+1)).bind fun v3=>
  (ixO x1 v3).bind fun v4=>
  cond (decide (v2> v4)) (
   (ixO x1 x2).bind fun v5=>
   (rng (v5-1)).bind fun v6=>
   (rng (x2+1)).bind fun v7=>
   (ixO x1 v7).bind fun v8=>
   (rng (v8-1)).bind fun v9=>
   (yB x1 0 x2).bind fun v10=>
   (rng (v9+1)).bind fun v11=>
   (ixO x0.zF v9).bind fun v12=>
   (rng (v6-v9)).bind fun v13=>
   (rng (v13-1)).bind fun v14=>
   (ixO v12 v14).bind fun v15=>
   (f_v v15).bind fun r16=>
   (rng (x2+2)).bind fun v17=>
   (yB x1 v17 x1.length).bind fun v18=>
   (f_A [v10,[v11],r16,v18]).bind fun r19=>
   i7 r19) (
   (ixO x1 x2).bind fun v20=>
   (rng (v20-1)).bind fun v21=>
   (yB x1 0 x2).bind fun v22=>
   (ixO x0.zT v21).bind fun v23=>
   (f_v v23).bind fun r24=>
   (ixO x0.zA v21).bind fun v25=>
   (rng (x2+v25)).bind fun v26=>
   (yB x1 v26 x1.length).bind fun v27=>
   (f_A [v22,r24,v27]).bind fun r28=>
   i7 r28)) (
  (ixO x1 x2).bind fun v2=>
  (rng (v2-1)).bind fun v3=>
  (yB x1 0 x2).bind fun v4=>
  (ixO x0.zT v3).bind fun v5=>
  (f_v v5).bind fun r6=>
  (ixO x0.zA v3).bind fun v7=>
  (rng (x2+v7)).bind fun v8=>
  (yB x1 v8 x1.length).bind fun v9=>
  (f_A [v4,r6,v9]).bind fun r10=>
  i7 r10)
def f_Q(x0:ig)(x1:Int)(x2:List zK)(x3:SPr):Option (List zK):=
 (f_Z x3 x0 0).bind fun r1=>
 (f_Z x3 x0 x1).bind fun r2=>
 (xW x2 [(zK.mk x0 r1 r2)]).bind fun v3=>
 i7 v3
def zMx(x0:Int)(x1:Int):Option ig:=
 (f_k [x0] x1).bind fun r1=>
 i7 r1
def zQd(x0:SPr)(s17:(List zK)×Int)(s22:(List zK)×Int)(s23:(List zK)×Int):Option (((List zK)×Int)⊕(List zK)):=
 cond (decide (s23.2≤(x0.zA.length:Int))) (
  (f_Q [s23.2,s22.2,s17.2] 1 s23.1 x0).bind fun r3=>
  (rng (s23.2+1)).bind fun v4=>
  i7 (.inl (r3,v4))) (
  i7 (.inr s23.1))
def zQe(x0:SPr)(s17:(List zK)×Int)(s22:(List zK)×Int):Option (((List zK)×Int)⊕(List zK)):=
 cond (decide (s22.2≤(x0.zA.length:Int))) (
  (rng (s22.2+1)).bind fun v2=>
  (zJ (zQd x0 s17 s22) (s22.1,v2)).bind fun r5=>
  (rng (s22.2+1)).bind fun v6=>
  i7 (.inl (r5,v6))) (
  i7 (.inr s22.1))
def zQf(x0:SPr)(s17:(List zK)×Int):Option (((List zK)×Int)⊕(List zK)):=
 cond (decide (s17.2≤(x0.zA.length:Int))) (
  (rng (s17.2+1)).bind fun v1=>
  (zJ (zQe x0 s17) (s17.1,v1)).bind fun r7=>
  (rng (s17.2+1)).bind fun v8=>
  i7 (.inl (r7,v8))) (
  i7 (.inr s17.1))
def zQg(x0:SPr)(s31:(List zK)×Int)(s32:(List zK)×Int):Option (((List zK)×Int)⊕(List zK)):=
 cond (decide (s32.2≤(x0.zA.length:Int))) (
  (rng (s32.2-1)).bind fun v11=>
  (ixO x0.zA v11).bind fun v12=>
  (zMx s32.2 v12).bind fun r13=>
  (xW r13 [s31.2]).bind fun v14=>
  (rng (s32.2-1)).bind fun v15=>
  (ixO x0.zA v15).bind fun v16=>
  (rng (v16-1)).bind fun v17=>
  (f_Q v14 v17 s32.1 x0).bind fun r18=>
  (rng (s32.2+1)).bind fun v19=>
  i7 (.inl (r18,v19))) (
  i7 (.inr s32.1))
def zQh(x0:SPr)(s31:(List zK)×Int):Option (((List zK)×Int)⊕(List zK)):=
 cond (decide (s31.2≤(x0.zA.length:Int))) (
  (rng (s31.2+1)).bind fun v10=>
  (zJ (zQg x0 s31) (s31.1,v10)).bind fun r20=>
  (rng (s31.2+1)).bind fun v21=>
  i7 (.inl (r20,v21))) (
  i7 (.inr s31.1))
def zQi(x0:SPr)(s39:(List zK)×Int)(s40:(List zK)×Int):Option (((List zK)×Int)⊕(List zK)):=
 cond (decide (s40.2≤(x0.zA.length:Int))) (
  (rng (s39.2-1)).bind fun v24=>
  (ixO x0.zA v24).bind fun v25=>
  (zMx s39.2 v25).bind fun r26=>
  (xW [s40.2] r26).bind fun v27=>
  (f_Q v27 1 s40.1 x0).bind fun r28=>
  (rng (s40.2+1)).bind fun v29=>
  i7 (.inl (r28,v29))) (
  i7 (.inr s40.1))
def zQj(x0:SPr)(s39:(List zK)×Int):Option (((List zK)×Int)⊕(List zK)):=
 cond (decide (s39.2≤(x0.zA.length:Int))) (
  (rng (s39.2+1)).bind fun v23=>
  (zJ (zQi x0 s39) (s39.1,v23)).bind fun r30=>
  (rng (s39.2+1)).bind fun v31=>
  i7 (.inl (r30,v31))) (
  i7 (.inr s39.1))
def zQk(x0:SPr)(s43:(List zK)×Int):Option (((List zK)×Int)⊕(List zK)):=
 cond (decide (s43.2≤(x0.zA.length:Int))) (
  (rng (s43.2-1)).bind fun v33=>
  (ixO x0.zA v33).bind fun v34=>
  (rng (v34+1)).bind fun v35=>
  (zMx s43.2 v35).bind fun r36=>
  (f_Q r36 1 s43.1 x0).bind fun r37=>
  (rng (s43.2+1)).bind fun v38=>
  i7 (.inl (r37,v38))) (
  i7 (.inr s43.1))
def f_e(x0:SPr):Option (List zK):=
 (zJ (zQf x0) ([],1)).bind fun r9=>
 (zJ (zQh x0) (r9,1)).bind fun r22=>
 (zJ (zQj x0) (r22,1)).bind fun r32=>
 (zJ (zQk x0) (r32,1)).bind fun r39=>
 i7 r39
def zVc(x0:xL)(x1:ig)(x2:Int):Option Int:=
 (rng (x2+1)).bind fun v1=>
 cond (decide (v1<(x1.length:Int))) (
  (ixO x1 x2).bind fun v2=>
  (rng (x2+1)).bind fun v3=>
  (ixO x1 v3).bind fun v4=>
  cond (decide (v2> v4)) (
   (ixO x1 x2).bind fun v5=>
   (rng (v5-1)).bind fun v6=>
   (rng (x2+1)).bind fun v7=>
   (ixO x1 v7).bind fun v8=>
   (rng (v8-1)).bind fun v9=>
   (rng ((x0.p.zA.length:Int)-1)).bind fun v10=>
   (rng (v9*v10)).bind fun v11=>
   (rng ((x0.p.zA.length:Int)+v11)).bind fun v12=>
   (rng (v9-1)).bind fun v13=>
   (rng (v9*v13)).bind fun v14=>
   (tH v14 2).bind fun v15=>
   (rng (v12-v15)).bind fun v16=>
   (rng (v16+v6)).bind fun v17=>
   (rng (v17-v9)).bind fun v18=>
   (rng (v18-1)).bind fun v19=>
   i7 v19) (
   (ixO x1 x2).bind fun v20=>
   (rng (v20-1)).bind fun v21=>
   i7 v21)) (
  (ixO x1 x2).bind fun v2=>
  (rng (v2-1)).bind fun v3=>
  i7 v3)
def zT2(x0:xL)(x3:Int)(r1:Int)(r9:zU)(s1:(List zU)×Int):Option (((List zU)×Int)⊕(List zU)):=
 cond (decide (s1.2<(r9.Rows.length:Int))) (
  (ixO r9.Rows s1.2).bind fun v10=>
  (ixO s1.1 r1).bind fun v11=>
  (ixO v11.Rows s1.2).bind fun v12=>
  (f_u v12 v10 x3 x0.m.Prime).bind fun r13=>
  (rng (s1.2+1)).bind fun v14=>
  i7 (.inl (s1.1.set r1.toNat (zU.mk v11.Prime v11.xG (v11.Rows.set s1.2.toNat r13)),v14))) (
  i7 (.inr s1.1))
def zT3(x0:xL)(x3:Int)(r1:Int)(r12:zU)(s3:(List zU)×Int):Option (((List zU)×Int)⊕(List zU)):=
 cond (decide (s3.2<(r12.Rows.length:Int))) (
  (ixO r12.Rows s3.2).bind fun v13=>
  (ixO s3.1 r1).bind fun v14=>
  (ixO v14.Rows s3.2).bind fun v15=>
  (f_u v15 v13 x3 x0.m.Prime).bind fun r16=>
  (rng (s3.2+1)).bind fun v17=>
  i7 (.inl (s3.1.set r1.toNat (zU.mk v14.Prime v14.xG (v14.Rows.set s3.2.toNat r16)),v17))) (
  i7 (.inr s3.1))
def zT4(x0:xL)(x3:Int)(r1:Int)(r21:zU)(s5:(List zU)×Int):Option (((List zU)×Int)⊕(List zU)):=
 cond (decide (s5.2<(r21.Rows.length:Int))) (
  (ixO r21.Rows s5.2).bind fun v22=>
  (ixO s5.1 r1).bind fun v23=>
  (ixO v23.Rows s5.2).bind fun v24=>
  (f_u v24 v22 x3 x0.m.Prime).bind fun r25=>
  (rng (s5.2+1)).bind fun v26=>
  i7 (.inl (s5.1.set r1.toNat (zU.mk v23.Prime v23.xG (v23.Rows.set s5.2.toNat r25)),v26))) (
  i7 (.inr s5.1))
def f_j(x0:xL)(x1:ig)(x2:Int)(x3:Int):Option (ig×xL):=
 (zVc x0 x1 x2).bind fun r1=>
 (f_Z x0.p x1 x2).bind fun r2=>
 (rng (x2+1)).bind fun v3=>
 cond (decide (v3≥(x1.length:Int))) (
  (ixO x1 x2).bind fun v4=>
  (rng (v4-1)).bind fun v5=>
  (ixO x0.p.zA v5).bind fun v6=>
  (rng (x2+v6)).bind fun v7=>
  (yB x1 v7 x1.length).bind fun v8=>
  (f_B x0.m v8).bind fun r9=>
  (zJ (zT2 x0 x3 r1 r9) (x0.sums,0)).bind fun r15=>
  i7 (r2,(xL.mk x0.p x0.m r15))) (
  (ixO x1 x2).bind fun v4=>
  (rng (x2+1)).bind fun v5=>
  (ixO x1 v5).bind fun v6=>
  cond (decide (v4≤v6)) (
   (ixO x1 x2).bind fun v7=>
   (rng (v7-1)).bind fun v8=>
   (ixO x0.p.zA v8).bind fun v9=>
   (rng (x2+v9)).bind fun v10=>
   (yB x1 v10 x1.length).bind fun v11=>
   (f_B x0.m v11).bind fun r12=>
   (zJ (zT3 x0 x3 r1 r12) (x0.sums,0)).bind fun r18=>
   i7 (r2,(xL.mk x0.p x0.m r18))) (
   (rng (x2+2)).bind fun v19=>
   (yB x1 v19 x1.length).bind fun v20=>
   (f_B x0.m v20).bind fun r21=>
   (zJ (zT4 x0 x3 r1 r21) (x0.sums,0)).bind fun r27=>
   i7 (r2,(xL.mk x0.p x0.m r27))))
def zN7(x1:ig)(x2:Int)(v10:ig)(s1:Int):Option (Int⊕(Unit⊕Bool)):=
 cond (decide (s1<(v10.length:Int))) (
  (ixO v10 s1).bind fun v11=>
  (ixO x1 x2).bind fun v12=>
  cond (v11 != v12) (
   i7 (.inr (.inr ia))) (
   (rng (s1+1)).bind fun v13=>
   i7 (.inl v13))) (
  i7 (.inr (.inl ())))
def zN8(x1:ig)(x2:Int)(v7:ig)(s3:Int):Option (Int⊕(Unit⊕Bool)):=
 cond (decide (s3<(v7.length:Int))) (
  (ixO v7 s3).bind fun v8=>
  (ixO x1 x2).bind fun v9=>
  cond (v8 != v9) (
   i7 (.inr (.inr ia))) (
   (rng (s3+1)).bind fun v10=>
   i7 (.inl v10))) (
  i7 (.inr (.inl ())))
def f_D(x0:SPr)(x1:ig)(x2:Int):Option Bool:=
 (rng (x2+1)).bind fun v1=>
 cond (decide (v1<(x1.length:Int))) (
  (ixO x1 x2).bind fun v2=>
  (rng (x2+1)).bind fun v3=>
  (ixO x1 v3).bind fun v4=>
  cond (decide (v2> v4)) (
   i7 i9) (
   (ixO x1 x2).bind fun v5=>
   (rng (v5-1)).bind fun v6=>
   (ixO x0.zA v6).bind fun v7=>
   (rng (x2+v7)).bind fun v8=>
   cond (decide (v8> (x1.length:Int))) (
    i7 ia) (
    (rng (x2+v7)).bind fun v9=>
    (yB x1 x2 v9).bind fun v10=>
    (zJ (zN7 x1 x2 v10) 0).bind fun r14=>
    match r14 with
    |(.inl r14)=>
     i7 i9
    |(.inr r14)=>
     i7 r14))) (
  (ixO x1 x2).bind fun v2=>
  (rng (v2-1)).bind fun v3=>
  (ixO x0.zA v3).bind fun v4=>
  (rng (x2+v4)).bind fun v5=>
  cond (decide (v5> (x1.length:Int))) (
   i7 ia) (
   (rng (x2+v4)).bind fun v6=>
   (yB x1 x2 v6).bind fun v7=>
   (zJ (zN8 x1 x2 v7) 0).bind fun r11=>
   match r11 with
   |(.inl r11)=>
    i7 i9
   |(.inr r11)=>
    i7 r11))
def zT5(x0:SPr)(x1:ig)(s1:Int):Option (Int⊕(Unit⊕Int)):=
 cond (decide (s1<(x1.length:Int))) (
  (f_D x0 x1 s1).bind fun r1=>
  cond r1 (
   i7 (.inr (.inr s1))) (
   (rng (s1+1)).bind fun v2=>
   i7 (.inl v2))) (
  i7 (.inr (.inl ())))
def f_P(x0:SPr)(x1:ig):Option Int:=
 (zJ (zT5 x0 x1) 0).bind fun r3=>
 match r3 with
 |(.inl r3)=>
  i7 (-1)
 |(.inr r3)=>
  i7 r3
def zQl(x2:Int)(s1:SPr×zE×(List zU)×ig×Int):Option ((SPr×zE×(List zU)×ig×Int)⊕(SPr×zE×(List zU))):=
 cond (decide (s1.2.2.2.2≥0)) (
  (f_j (xL.mk s1.1 s1.2.1 s1.2.2.1) s1.2.2.2.1 s1.2.2.2.2 x2).bind fun r2=>
  (f_P r2.2.p r2.1).bind fun r3=>
  i7 (.inl (r2.2.p,r2.2.m,r2.2.sums,r2.1,r3))) (
  i7 (.inr (s1.1,s1.2.1,s1.2.2.1)))
def f_q(x0:xL)(x1:ig)(x2:Int):Option xL:=
 (f_P x0.p x1).bind fun r1=>
 (zJ (zQl x2) (x0.p,x0.m,x0.sums,x1,r1)).bind fun r4=>
 i7 (xL.mk r4.1 r4.2.1 r4.2.2)
def zQm(r6:zU)(s71:(ii)×Int):Option ((ii×Int)⊕ii):=
 cond (decide (s71.2<(r6.Rows.length:Int))) (
  (ixO s71.1 s71.2).bind fun v7=>
  (ixO v7 s71.2).bind fun _=>
  (rng (s71.2+1)).bind fun v9=>
  i7 (.inl (s71.1.set s71.2.toNat (v7.set s71.2.toNat 0),v9))) (
  i7 (.inr s71.1))
def zQn(x1:zE)(r1:Int)(s70:(List zU)×Int):Option (((List zU)×Int)⊕(List zU)):=
 cond (decide (s70.2<r1)) (
  (f_T x1.Prime x1.Dim).bind fun r6=>
  (zJ (zQm r6) (r6.Rows,0)).bind fun r10=>
  (xW s70.1 [(zU.mk r6.Prime r6.xG r10)]).bind fun v11=>
  (rng (s70.2+1)).bind fun v12=>
  i7 (.inl (v11,v12))) (
  i7 (.inr s70.1))
def zQo(x1:zE)(s78:(ii)×Int)(v23:zU)(s79:(ii)×Int):Option ((ii×Int)⊕ii):=
 cond (decide (s79.2<(v23.Rows.length:Int))) (
  (ixO v23.Rows s79.2).bind fun v24=>
  (rng (s78.2*x1.Dim)).bind fun v25=>
  (rng (v25+s79.2)).bind fun v26=>
  (ixO s79.1 v26).bind fun v27=>
  (xW v27 v24).bind fun v28=>
  (rng (s79.2+1)).bind fun v29=>
  i7 (.inl (s79.1.set v26.toNat v28,v29))) (
  i7 (.inr s79.1))
def zMy(x1:zE)(r22:xL)(s78:(ii)×Int):Option ((ii×Int)⊕ii):=
 cond (decide (s78.2<(r22.sums.length:Int))) (
  (ixO r22.sums s78.2).bind fun v23=>
  (zJ (zQo x1 s78 v23) (s78.1,0)).bind fun r30=>
  (rng (s78.2+1)).bind fun v31=>
  i7 (.inl (r30,v31))) (
  i7 (.inr s78.1))
def zZv(x1:zE)(s86:(ii)×Int)(v38:zU)(s87:(ii)×Int):Option ((ii×Int)⊕ii):=
 cond (decide (s87.2<(v38.Rows.length:Int))) (
  (ixO v38.Rows s87.2).bind fun v39=>
  (rng (s86.2*x1.Dim)).bind fun v40=>
  (rng (v40+s87.2)).bind fun v41=>
  (ixO s87.1 v41).bind fun v42=>
  (xW v42 v39).bind fun v43=>
  (rng (s87.2+1)).bind fun v44=>
  i7 (.inl (s87.1.set v41.toNat v43,v44))) (
  i7 (.inr s87.1))
def zXy(x1:zE)(r37:xL)(s86:(ii)×Int):Option ((ii×Int)⊕ii):=
 cond (decide (s86.2<(r37.sums.length:Int))) (
  (ixO r37.sums s86.2).bind fun v38=>
  (zJ (zZv x1 s86 v38) (s86.1,0)).bind fun r45=>
  (rng (s86.2+1)).bind fun v46=>
  i7 (.inl (r45,v46))) (
  i7 (.inr s86.1))
def zZw(x1:zE)(s94:(ii)×Int)(v20:zU)(s95:(ii)×Int):Option ((ii×Int)⊕ii):=
 cond (decide (s95.2<(v20.Rows.length:Int))) (
  (ixO v20.Rows s95.2).bind fun v21=>
  (rng (s94.2*x1.Dim)).bind fun v22=>
  (rng (v22+s95.2)).bind fun v23=>
  (ixO s95.1 v23).bind fun v24=>
  (xW v24 v21).bind fun v25=>
  (rng (s95.2+1)).bind fun v26=>
  i7 (.inl (s95.1.set v23.toNat v25,v26))) (
  i7 (.inr s95.1))
def zXz(x1:zE)(r19:xL)(s94:(ii)×Int):Option ((ii×Int)⊕ii):=
 cond (decide (s94.2<(r19.sums.length:Int))) (
  (ixO r19.sums s94.2).bind fun v20=>
  (zJ (zZw x1 s94 v20) (s94.1,0)).bind fun r27=>
  (rng (s94.2+1)).bind fun v28=>
  i7 (.inl (r27,v28))) (
  i7 (.inr s94.1))
def zQp(x0:SPr)(x1:zE)(r1:Int)(r4:(List zK))(s65:(ii)×Int):Option ((ii×Int)⊕ii):=
 cond (decide (s65.2<(r4.length:Int))) (
  (ixO r4 s65.2).bind fun v5=>
  (zJ (zQn x1 r1) ([],0)).bind fun r13=>
  (ixO v5.Word 0).bind fun v14=>
  (ixO v5.Word 1).bind fun v15=>
  cond (v14==v15) (
   (rng ((v5.Word.length:Int)-1)).bind fun v16=>
   (ixO v5.Word v16).bind fun v17=>
   cond (v17 != v14) (
    (rng ((v5.Word.length:Int)-2)).bind fun v18=>
    (f_j (xL.mk x0 x1 r13) v5.Word 0 1).bind fun r19=>
    (f_q r19.2 r19.1 1).bind fun r20=>
    (f_j r20 v5.Word v18 (-1)).bind fun r21=>
    (f_q r21.2 r21.1 (-1)).bind fun r22=>
    (zJ (zMy x1 r22) (s65.1,0)).bind fun r32=>
    (rng (s65.2+1)).bind fun v33=>
    i7 (.inl (r32,v33))) (
    (f_j (xL.mk x0 x1 r13) v5.Word 0 1).bind fun r34=>
    (f_q r34.2 r34.1 1).bind fun r35=>
    (f_j r35 v5.Word 1 (-1)).bind fun r36=>
    (f_q r36.2 r36.1 (-1)).bind fun r37=>
    (zJ (zXy x1 r37) (s65.1,0)).bind fun r47=>
    (rng (s65.2+1)).bind fun v48=>
    i7 (.inl (r47,v48)))) (
   (f_j (xL.mk x0 x1 r13) v5.Word 0 1).bind fun r16=>
   (f_q r16.2 r16.1 1).bind fun r17=>
   (f_j r17 v5.Word 1 (-1)).bind fun r18=>
   (f_q r18.2 r18.1 (-1)).bind fun r19=>
   (zJ (zXz x1 r19) (s65.1,0)).bind fun r29=>
   (rng (s65.2+1)).bind fun v30=>
   i7 (.inl (r29,v30)))) (
  i7 (.inr s65.1))
def f_f(x0:SPr)(x1:zE):Option ii:=
 (zUV x0).bind fun r1=>
 (rng (r1*x1.Dim)).bind fun v2=>
 (xF v2).bind fun m3=>
 (f_e x0).bind fun r4=>
 (zJ (zQp x0 x1 r1 r4) (J1 m3 ([]:ig),0)).bind fun r31=>
 cond (decide ((r31.length:Int)> 0)) (
  (ixO r31 0).bind fun v32=>
  (f_H x1.Prime r31 (v32.length:Int)).bind fun r33=>
  i7 r33) (
  (f_H x1.Prime r31 0).bind fun r34=>
  i7 r34)
def zX0(x0:SPr)(x1:zE):Option Int:=
 (f_m x0 x1).bind fun r1=>
 (zXx x0 x1).bind fun r2=>
 (rng ((r1.length:Int)-(r2.length:Int))).bind fun v3=>
 i7 v3
def zT6(x0:SPr)(x1:zE):Option (Int×Int):=
 (zUC x0 x1).bind fun r1=>
 cond (!r1) (
  i7 (0,1)) (
  (zX0 x0 x1).bind fun r2=>
  i7 (r2,0))
def zT7(x0:SPr)(x1:zE):Option (Int×Int):=
 (f_F x0 x1).bind fun r1=>
 cond (!r1) (
  i7 (0,1)) (
  (f_f x0 x1).bind fun r2=>
  (zVb x0 x1).bind fun r3=>
  (f_i x1.Prime r3).bind fun r4=>
  (rng ((r2.length:Int)-(r4.length:Int))).bind fun v5=>
  i7 (v5,0))
def zVd(x0:SPr)(x1:zE):Option Bool:=
 (zU2 x0 1048576).bind fun r1=>
 cond (decide (r1<0)) (
  i7 i9) (
  (zU3 x1 r1).bind fun r2=>
  cond (decide (r2<0)) (
   i7 i9) (
   (zPL x0).bind fun r3=>
   (zPM x1).bind fun r4=>
   (zT6 r3 r4).bind fun r5=>
   (zPL x0).bind fun r6=>
   (zPM x1).bind fun r7=>
   (zT7 r6 r7).bind fun r8=>
   cond (r8.1 != r5.1) (
    i7 ia) (
    cond (r8.2 != r5.2) (
     i7 ia) (
     (zPL x0).bind fun r9=>
     (zUN r6 r9).bind fun r10=>
     cond (!r10) (
      i7 ia) (
      (zPM x1).bind fun r11=>
      (zUM r7 r11).bind fun r12=>
      cond (!r12) (
       i7 ia) (
       i7 i9))))))
end Go.Wk
