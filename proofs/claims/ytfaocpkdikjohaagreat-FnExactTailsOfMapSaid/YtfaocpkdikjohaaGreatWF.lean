/- The program's TailsOfMap returns what the reference's returns,for all arguments;no conditions. -/
import Derived.Test.YtfaocpkdikjohaaGreatAbC
open List renaming replicate→J1
open Int renaming fdiv→U4
open Option renaming some→ja,none→jb
open Bool renaming true→jc,false→jd
noncomputable section
namespace Go.Wk
open Go Go.Ab
abbrev jg:=List Int
abbrev jh:=List jg
structure SPr where
 zA:jg
 zT:jh
 zE:List jh
abbrev yO(x:SPr):T:=.agg [(L 1 I) x.zA,(L 1 (L 1 I)) x.zT,(L 1 (L 1 (L 1 I))) x.zE]
instance:Enc yO:=.of fun _=>zNg ⟨Enc.t (f:=(L 1 I)) inferInstance _,Enc.t (f:=(L 1 (L 1 I))) inferInstance _,Enc.t (f:=(L 1 (L 1 (L 1 I)))) inferInstance _,trivial⟩
structure zG where
 Prime:Int
 Dim:Int
 zR:List jh
abbrev zV(x:zG):T:=.agg [I x.Prime,I x.Dim,(L 1 (L 1 (L 1 I))) x.zR]
instance:Enc zV:=.of fun _=>zNg ⟨Enc.t (f:=I) inferInstance _,Enc.t (f:=I) inferInstance _,Enc.t (f:=(L 1 (L 1 (L 1 I)))) inferInstance _,trivial⟩
structure xL where
 Kind:Int
 zWY:Int
 zXa:Int
 zU7:Int
abbrev zGN(x:xL):T:=.agg [I x.Kind,I x.zWY,I x.zXa,I x.zU7]
instance:Enc zGN:=.of fun _=>zNg ⟨Enc.t (f:=I) inferInstance _,Enc.t (f:=I) inferInstance _,Enc.t (f:=I) inferInstance _,Enc.t (f:=I) inferInstance _,trivial⟩
structure zK where
 Prime:Int
 yI:Int
 Rows:jh
abbrev zP(x:zK):T:=.agg [I x.Prime,I x.yI,(L 1 (L 1 I)) x.Rows]
instance:Enc zP:=.of fun _=>zNg ⟨Enc.t (f:=I) inferInstance _,Enc.t (f:=I) inferInstance _,Enc.t (f:=(L 1 (L 1 I))) inferInstance _,trivial⟩
structure zZ where
 p:SPr
 m:zG
 zMS:jh
structure zJ where
 x:jg
 v:jg
abbrev xF(x:zJ):T:=.agg [(L 1 I) x.x,(L 1 I) x.v]
instance:Enc xF:=.of fun _=>zNg ⟨Enc.t (f:=(L 1 I)) inferInstance _,Enc.t (f:=(L 1 I)) inferInstance _,trivial⟩
def zTk(x0:jg)(x1:Int):Option Int:=
 (rng (x1-(x0.length:Int))).bind fun v1=>
 cond (decide (v1<0)) (
  ja (-1)) (
  ja v1)
def zWT(x0:jh)(s1:Int×Int):Option ((Int×Int)⊕(Int⊕Int)):=
 cond (decide (s1.2<(x0.length:Int))) (
  (ixO x0 s1.2).bind fun v2=>
  (zTk v2 s1.1).bind fun r3=>
  cond (decide (r3<0)) (
   ja (.inr (.inr (-1)))) (
   (rng (s1.2+1)).bind fun v4=>
   ja (.inl (r3,v4)))) (
  ja (.inr (.inl s1.1)))
def zTl(x0:jh)(x1:Int):Option Int:=
 (rng (x1-(x0.length:Int))).bind fun v1=>
 cond (decide (v1<0)) (
  ja (-1)) (
  (zH (zWT x0) (v1,0)).bind fun r5=>
  match r5 with
  |(.inl r5)=>
   ja r5
  |(.inr r5)=>
   ja r5)
def zWU(x0:List jh)(s1:Int×Int):Option ((Int×Int)⊕(Int⊕Int)):=
 cond (decide (s1.2<(x0.length:Int))) (
  (ixO x0 s1.2).bind fun v2=>
  (zTl v2 s1.1).bind fun r3=>
  cond (decide (r3<0)) (
   ja (.inr (.inr (-1)))) (
   (rng (s1.2+1)).bind fun v4=>
   ja (.inl (r3,v4)))) (
  ja (.inr (.inl s1.1)))
def zYx(x0:List jh)(x1:Int):Option Int:=
 (rng (x1-(x0.length:Int))).bind fun v1=>
 cond (decide (v1<0)) (
  ja (-1)) (
  (zH (zWU x0) (v1,0)).bind fun r5=>
  match r5 with
  |(.inl r5)=>
   ja r5
  |(.inr r5)=>
   ja r5)
def zVz(x0:SPr)(x1:Int):Option Int:=
 (zTk x0.zA x1).bind fun r1=>
 cond (decide (r1<0)) (
  ja (-1)) (
  (zTl x0.zT r1).bind fun r2=>
  cond (decide (r2<0)) (
   ja (-1)) (
   (zYx x0.zE r2).bind fun r3=>
   cond (decide (r3<0)) (
    ja (-1)) (
    ja r3)))
def zTm(x0:jg)(s1:(jg)×Int):Option ((jg×Int)⊕jg):=
 cond (decide (s1.2<(x0.length:Int))) (
  (ixO x0 s1.2).bind fun v2=>
  (ixO s1.1 s1.2).bind fun _=>
  (rng (s1.2+1)).bind fun v4=>
  ja (.inl (s1.1.set s1.2.toNat v2,v4))) (
  ja (.inr s1.1))
def zQ7(x0:jg):Option jg:=
 (yY (x0.length:Int)).bind fun m1=>
 (zH (zTm x0) (J1 m1 (0:Int),0)).bind fun r5=>
 ja r5
def zTn(x0:jh)(s1:(jh)×Int):Option ((jh×Int)⊕jh):=
 cond (decide (s1.2<(x0.length:Int))) (
  (ixO x0 s1.2).bind fun v2=>
  (zQ7 v2).bind fun r3=>
  (ixO s1.1 s1.2).bind fun _=>
  (rng (s1.2+1)).bind fun v5=>
  ja (.inl (s1.1.set s1.2.toNat r3,v5))) (
  ja (.inr s1.1))
def zNT(x0:jh):Option jh:=
 (yY (x0.length:Int)).bind fun m1=>
 (zH (zTn x0) (J1 m1 ([]:jg),0)).bind fun r6=>
 ja r6
def zTo(x0:List jh)(s1:(List jh)×Int):Option (((List jh)×Int)⊕(List jh)):=
 cond (decide (s1.2<(x0.length:Int))) (
  (ixO x0 s1.2).bind fun v2=>
  (zNT v2).bind fun r3=>
  (ixO s1.1 s1.2).bind fun _=>
  (rng (s1.2+1)).bind fun v5=>
  ja (.inl (s1.1.set s1.2.toNat r3,v5))) (
  ja (.inr s1.1))
def zV0(x0:List jh):Option (List jh):=
 (yY (x0.length:Int)).bind fun m1=>
 (zH (zTo x0) (J1 m1 ([]:jh),0)).bind fun r6=>
 ja r6
def zNU(x0:SPr):Option SPr:=
 (zQ7 x0.zA).bind fun r1=>
 (zNT x0.zT).bind fun r2=>
 (zV0 x0.zE).bind fun r3=>
 ja (SPr.mk r1 r2 r3)
def zV1(x0:Int):Option Bool:=
 cond (x0==2) (
  ja jc) (
  cond (x0==3) (
   ja jc) (
   cond (x0==5) (
    ja jc) (
    ja (x0==7))))
def zMt(x0:jg)(s1:Int×Int):Option ((Int×Int)⊕Int):=
 cond (decide (s1.2<(x0.length:Int))) (
  cond (decide (s1.1≤729)) (
   (ixO x0 s1.2).bind fun v1=>
   (rng (s1.1*v1)).bind fun v2=>
   (rng (s1.2+1)).bind fun v3=>
   ja (.inl (v2,v3))) (
   (rng (s1.2+1)).bind fun v4=>
   ja (.inl (s1.1,v4)))) (
  ja (.inr s1.1))
def zV2(x0:jg):Option Int:=
 (zH (zMt x0) (1,0)).bind fun r5=>
 ja r5
def zQ8(x0:Int)(x1:Int)(x2:Int):Option Bool:=
 cond (decide (x0≥x1)) (
  ja (decide (x0≤x2))) (
  ja jd)
def zPB(x0:jg)(x1:jg)(x2:Int)(s1:Int):Option (Int⊕(Unit⊕Bool)):=
 cond (decide (s1<(x1.length:Int))) (
  (ixO x1 s1).bind fun v1=>
  (ixO x0 s1).bind fun v2=>
  (rng (v2-1)).bind fun v3=>
  (zQ8 v1 0 v3).bind fun r4=>
  cond (!r4) (
   ja (.inr (.inr jd))) (
   cond (decide (s1≤x2)) (
    (ixO x1 s1).bind fun v5=>
    cond (v5 != 0) (
     ja (.inr (.inr jd))) (
     (rng (s1+1)).bind fun v6=>
     ja (.inl v6))) (
    (rng (s1+1)).bind fun v5=>
    ja (.inl v5)))) (
  ja (.inr (.inl ())))
def zTp(x0:jg)(x1:jg)(x2:Int):Option Bool:=
 cond ((x1.length:Int) != (x0.length:Int)) (
  ja jd) (
  (zH (zPB x0 x1 x2) 0).bind fun r6=>
  match r6 with
  |(.inl r6)=>
   ja jc
  |(.inr r6)=>
   ja r6)
def zTq(x0:SPr)(s1:Int):Option (Int⊕(Unit⊕Bool)):=
 cond (decide (s1<(x0.zA.length:Int))) (
  (ixO x0.zA s1).bind fun v1=>
  (zV1 v1).bind fun r2=>
  cond (!r2) (
   ja (.inr (.inr jd))) (
   (rng (s1+1)).bind fun v3=>
   ja (.inl v3))) (
  ja (.inr (.inl ())))
def zTr(x0:SPr)(s7:Int)(s8:Int):Option (Int⊕(Unit⊕Bool)):=
 (ixO x0.zE s7).bind fun v11=>
 cond (decide (s8<(v11.length:Int))) (
  (ixO x0.zE s7).bind fun v12=>
  (ixO v12 s8).bind fun v13=>
  (zTp x0.zA v13 s7).bind fun r14=>
  cond (!r14) (
   ja (.inr (.inr jd))) (
   (rng (s8+1)).bind fun v15=>
   ja (.inl v15))) (
  ja (.inr (.inl ())))
def zNV(x0:SPr)(s7:Int):Option (Int⊕(Unit⊕Bool)):=
 cond (decide (s7<(x0.zA.length:Int))) (
  (ixO x0.zT s7).bind fun v6=>
  (zTp x0.zA v6 s7).bind fun r7=>
  cond (!r7) (
   ja (.inr (.inr jd))) (
   (ixO x0.zE s7).bind fun v8=>
   (rng ((x0.zA.length:Int)-1)).bind fun v9=>
   (rng (v9-s7)).bind fun v10=>
   cond ((v8.length:Int) != v10) (
    ja (.inr (.inr jd))) (
    (zH (zTr x0 s7) 0).bind fun r16=>
    match r16 with
    |(.inl r16)=>
     (rng (s7+1)).bind fun v17=>
     ja (.inl v17)
    |(.inr r16)=>
     ja (.inr (.inr r16))))) (
  ja (.inr (.inl ())))
def f_y(x0:SPr):Option Bool:=
 cond (decide ((x0.zA.length:Int)> 6)) (
  ja jd) (
  cond ((x0.zT.length:Int) != (x0.zA.length:Int)) (
   ja jd) (
   cond ((x0.zE.length:Int) != (x0.zA.length:Int)) (
    ja jd) (
    (zH (zTq x0) 0).bind fun r4=>
    match r4 with
    |(.inl r4)=>
     (zV2 x0.zA).bind fun r5=>
     cond (decide (r5> 729)) (
      ja jd) (
      (zH (zNV x0) 0).bind fun r18=>
      match r18 with
      |(.inl r18)=>
       ja jc
      |(.inr r18)=>
       ja r18)
    |(.inr r4)=>
     ja r4)))
def f_z(x0:jg):Option jg:=
 (xK [] x0).bind fun v1=>
 ja v1
def zTs(g_a:SPr→Int→jg→jg→Option jg)(x0:SPr)(x1:Int)(x2:jg)(s5:(jg)×Int)(s6:(jg)×Int):Option ((jg×Int)⊕jg):=
 (ixO x2 s5.2).bind fun v3=>
 cond (decide (s6.2<v3)) (
  (rng (x1+1)).bind fun v4=>
  (ixO x0.zE x1).bind fun v5=>
  (rng (s5.2-x1)).bind fun v6=>
  (rng (v6-1)).bind fun v7=>
  (ixO v5 v7).bind fun v8=>
  (g_a x0 v4 s6.1 v8).bind fun r9=>
  (rng (s6.2+1)).bind fun v10=>
  ja (.inl (r9,v10))) (
  ja (.inr s6.1))
def zTt(g_a:SPr→Int→jg→jg→Option jg)(x0:SPr)(x1:Int)(x2:jg)(s5:(jg)×Int):Option ((jg×Int)⊕jg):=
 cond (decide (s5.2<(x0.zA.length:Int))) (
  (zH (zTs g_a x0 x1 x2 s5) (s5.1,0)).bind fun r11=>
  (rng (s5.2+1)).bind fun v12=>
  ja (.inl (r11,v12))) (
  ja (.inr s5.1))
def b_g(g_a:SPr→Int→jg→jg→Option jg)(x0:SPr)(x1:Int)(x2:jg):Option jg:=
 (yY (x0.zA.length:Int)).bind fun m1=>
 (rng (x1+1)).bind fun v2=>
 (zH (zTt g_a x0 x1 x2) (J1 m1 (0:Int),v2)).bind fun r13=>
 ja r13
def zV3(g_g:SPr→Int→jg→Option jg)(x0:SPr)(x1:Int)(x3:jg)(s1:(jg)×Int):Option ((jg×Int)⊕jg):=
 (ixO x3 x1).bind fun v6=>
 cond (decide (s1.2<v6)) (
  (g_g x0 x1 s1.1).bind fun r7=>
  (rng (s1.2+1)).bind fun v8=>
  ja (.inl (r7,v8))) (
  ja (.inr s1.1))
def b_a(g_g:SPr→Int→jg→Option jg)(g_a:SPr→Int→jg→jg→Option jg)(x0:SPr)(x1:Int)(x2:jg)(x3:jg):Option jg:=
 cond (decide (x1≥(x0.zA.length:Int))) (
  (yY (x0.zA.length:Int)).bind fun m1=>
  ja (J1 m1 (0:Int))) (
  (f_z x2).bind fun r2=>
  (f_z x3).bind fun r3=>
  (ixO r2 x1).bind fun _=>
  (ixO r3 x1).bind fun _=>
  (zH (zV3 g_g x0 x1 x3) (r2.set x1.toNat 0,0)).bind fun r9=>
  (rng (x1+1)).bind fun v10=>
  (g_a x0 v10 r9 (r3.set x1.toNat 0)).bind fun r11=>
  (ixO x2 x1).bind fun v12=>
  (ixO x3 x1).bind fun v13=>
  (rng (v12+v13)).bind fun v14=>
  (ixO x0.zA x1).bind fun v15=>
  cond (decide (v14≥v15)) (
   (ixO x0.zA x1).bind fun v16=>
   (rng (v14-v16)).bind fun v17=>
   (rng (x1+1)).bind fun v18=>
   (ixO x0.zT x1).bind fun v19=>
   (g_a x0 v18 v19 r11).bind fun r20=>
   (f_z r20).bind fun r21=>
   (ixO r21 x1).bind fun _=>
   ja (r21.set x1.toNat v17)) (
   (f_z r11).bind fun r23=>
   (ixO r23 x1).bind fun _=>
   ja (r23.set x1.toNat v14)))
mutual
def zNW:Nat→SPr→Int→jg→Option jg
 |0=>fun _ _ _=>jb
 |n+1=>b_g (zNX n)
def zNX:Nat→SPr→Int→jg→jg→Option jg
 |0=>fun _ _ _ _=>jb
 |n+1=>b_a (zNW n) (zNX n)
end
def f_g(x0:SPr)(x1:Int)(x2:jg):Option jg:=zD8 fun n=>zNW n x0 x1 x2
def f_a(x0:SPr)(x1:Int)(x2:jg)(x3:jg):Option jg:=zD8 fun n=>zNX n x0 x1 x2 x3
def zPC(x0:SPr)(x1:Int)(s1:Int×jg×jg):Option ((Int×jg×jg)⊕jg):=
 cond (decide (s1.1> 0)) (
  (vS s1.1 2).bind fun v2=>
  cond (v2==1) (
   (f_a x0 x1 s1.2.1 s1.2.2).bind fun r3=>
   (f_a x0 x1 s1.2.2 s1.2.2).bind fun r4=>
   (uM s1.1 2).bind fun v5=>
   ja (.inl (v5,r3,r4))) (
   (f_a x0 x1 s1.2.2 s1.2.2).bind fun r6=>
   (uM s1.1 2).bind fun v7=>
   ja (.inl (v7,s1.2.1,r6)))) (
  ja (.inr s1.2.1))
def zV4(x0:SPr)(x1:Int)(x2:jg)(x3:Int):Option jg:=
 (yY (x0.zA.length:Int)).bind fun m1=>
 (zH (zPC x0 x1) (x3,J1 m1 (0:Int),x2)).bind fun r8=>
 ja r8
def zWV(x0:jg)(x1:jg)(s1:Int):Option (Int⊕(Unit⊕Bool)):=
 cond (decide (s1<(x0.length:Int))) (
  (ixO x0 s1).bind fun v1=>
  (ixO x1 s1).bind fun v2=>
  cond (v1 != v2) (
   ja (.inr (.inr jd))) (
   (rng (s1+1)).bind fun v3=>
   ja (.inl v3))) (
  ja (.inr (.inl ())))
def zQ9(x0:jg)(x1:jg):Option Bool:=
 cond ((x0.length:Int) != (x1.length:Int)) (
  ja jd) (
  (zH (zWV x0 x1) 0).bind fun r4=>
  match r4 with
  |(.inl r4)=>
   ja jc
  |(.inr r4)=>
   ja r4)
def zYy(x0:Int)(x1:Int):Option jg:=
 (yY x0).bind fun m1=>
 (ixO (J1 m1 (0:Int)) x1).bind fun _=>
 ja ((J1 m1 (0:Int)).set x1.toNat 1)
def zTu(x0:SPr)(x1:Int)(s1:Int):Option (Int⊕(Unit⊕xL)):=
 cond (decide (s1<(x0.zA.length:Int))) (
  (rng (x1+1)).bind fun v2=>
  (ixO x0.zE x1).bind fun v3=>
  (rng (s1-x1)).bind fun v4=>
  (rng (v4-1)).bind fun v5=>
  (ixO v3 v5).bind fun v6=>
  (ixO x0.zA s1).bind fun v7=>
  (zV4 x0 v2 v6 v7).bind fun r8=>
  (ixO x0.zT s1).bind fun v9=>
  (f_g x0 x1 v9).bind fun r10=>
  (zQ9 r8 r10).bind fun r11=>
  cond (!r11) (
   ja (.inr (.inr (xL.mk 1 x1 s1 0)))) (
   (rng (s1+1)).bind fun v12=>
   ja (.inl v12))) (
  ja (.inr (.inl ())))
def zTv(x0:SPr)(x1:Int)(s7:Int)(s8:Int):Option (Int⊕(Unit⊕xL)):=
 cond (decide (s8<(x0.zA.length:Int))) (
  (ixO x0.zE x1).bind fun v16=>
  (rng (s7-x1)).bind fun v17=>
  (rng (v17-1)).bind fun v18=>
  (ixO v16 v18).bind fun v19=>
  (ixO x0.zE x1).bind fun v20=>
  (rng (s8-x1)).bind fun v21=>
  (rng (v21-1)).bind fun v22=>
  (ixO v20 v22).bind fun v23=>
  (ixO x0.zE s7).bind fun v24=>
  (rng (s8-s7)).bind fun v25=>
  (rng (v25-1)).bind fun v26=>
  (ixO v24 v26).bind fun v27=>
  (f_g x0 x1 v27).bind fun r28=>
  (rng (x1+1)).bind fun v29=>
  (f_a x0 v29 v23 v19).bind fun r30=>
  (rng (x1+1)).bind fun v31=>
  (f_a x0 v31 v19 r28).bind fun r32=>
  (zQ9 r30 r32).bind fun r33=>
  cond (!r33) (
   ja (.inr (.inr (xL.mk 2 x1 s7 s8)))) (
   (rng (s8+1)).bind fun v34=>
   ja (.inl v34))) (
  ja (.inr (.inl ())))
def zTw(x0:SPr)(x1:Int)(s7:Int):Option (Int⊕(Unit⊕xL)):=
 cond (decide (s7<(x0.zA.length:Int))) (
  (rng (s7+1)).bind fun v15=>
  (zH (zTv x0 x1 s7) v15).bind fun r35=>
  match r35 with
  |(.inl r35)=>
   (rng (s7+1)).bind fun v36=>
   ja (.inl v36)
  |(.inr r35)=>
   ja (.inr (.inr r35))) (
  ja (.inr (.inl ())))
def zTx(x0:SPr)(x1:Int)(s16:(jg)×Int):Option ((jg×Int)⊕jg):=
 (ixO x0.zA x1).bind fun v43=>
 cond (decide (s16.2<v43)) (
  (f_g x0 x1 s16.1).bind fun r44=>
  (rng (s16.2+1)).bind fun v45=>
  ja (.inl (r44,v45))) (
  ja (.inr s16.1))
def zTy(x0:SPr)(x1:Int)(v38:jg)(s15:Int):Option (Int⊕(Unit⊕xL)):=
 cond (decide (s15<(x0.zA.length:Int))) (
  (zYy (x0.zA.length:Int) s15).bind fun r42=>
  (zH (zTx x0 x1) (r42,0)).bind fun r46=>
  (rng (x1+1)).bind fun v47=>
  (f_a x0 v47 v38 r46).bind fun r48=>
  (rng (x1+1)).bind fun v49=>
  (f_a x0 v49 r42 v38).bind fun r50=>
  (zQ9 r48 r50).bind fun r51=>
  cond (!r51) (
   ja (.inr (.inr (xL.mk 4 x1 s15 0)))) (
   (rng (s15+1)).bind fun v52=>
   ja (.inl v52))) (
  ja (.inr (.inl ())))
def f_o(x0:SPr)(x1:Int):Option xL:=
 (rng (x1+1)).bind fun v1=>
 (zH (zTu x0 x1) v1).bind fun r13=>
 match r13 with
 |(.inl r13)=>
  (rng (x1+1)).bind fun v14=>
  (zH (zTw x0 x1) v14).bind fun r37=>
  match r37 with
  |(.inl r37)=>
   (ixO x0.zT x1).bind fun v38=>
   (f_g x0 x1 v38).bind fun r39=>
   (zQ9 r39 v38).bind fun r40=>
   cond (!r40) (
    ja (xL.mk 3 x1 0 0)) (
    (rng (x1+1)).bind fun v41=>
    (zH (zTy x0 x1 v38) v41).bind fun r53=>
    match r53 with
    |(.inl r53)=>
     ja (xL.mk 0 0 0 0)
    |(.inr r53)=>
     ja r53)
  |(.inr r37)=>
   ja r37
 |(.inr r13)=>
  ja r13
def zMu(x0:SPr)(s1:Int):Option (Int⊕(Unit⊕xL)):=
 cond (decide (s1≥0)) (
  (f_o x0 s1).bind fun r2=>
  cond (r2.Kind != 0) (
   ja (.inr (.inr r2))) (
   (rng (s1-1)).bind fun v3=>
   ja (.inl v3))) (
  ja (.inr (.inl ())))
def zYz(x0:SPr):Option xL:=
 (rng ((x0.zA.length:Int)-1)).bind fun v1=>
 (zH (zMu x0) v1).bind fun r4=>
 match r4 with
 |(.inl r4)=>
  ja (xL.mk 0 0 0 0)
 |(.inr r4)=>
  ja r4
def zY0(x0:SPr):Option Bool:=
 (zYz x0).bind fun r1=>
 ja (r1.Kind==0)
def zTz(x0:SPr):Option Bool:=
 (f_y x0).bind fun r1=>
 cond r1 (
  (zY0 x0).bind fun r2=>
  ja r2) (
  ja jd)
def zPD(x0:Int)(x2:jg)(s1:Int):Option (Int⊕(Unit⊕Bool)):=
 cond (decide (s1<(x2.length:Int))) (
  (ixO x2 s1).bind fun v1=>
  (rng (x0-1)).bind fun v2=>
  (zQ8 v1 0 v2).bind fun r3=>
  cond (!r3) (
   ja (.inr (.inr jd))) (
   (rng (s1+1)).bind fun v4=>
   ja (.inl v4))) (
  ja (.inr (.inl ())))
def zV5(x0:Int)(x1:Int)(x2:jg):Option Bool:=
 cond ((x2.length:Int) != x1) (
  ja jd) (
  (zH (zPD x0 x2) 0).bind fun r5=>
  match r5 with
  |(.inl r5)=>
   ja jc
  |(.inr r5)=>
   ja r5)
def zMv(x0:Int)(s1:(jh)×Int):Option ((jh×Int)⊕jh):=
 cond (decide (s1.2<x0)) (
  (yY x0).bind fun m1=>
  (ixO (J1 m1 (0:Int)) s1.2).bind fun _=>
  (xK s1.1 [(J1 m1 (0:Int)).set s1.2.toNat 1]).bind fun v3=>
  (rng (s1.2+1)).bind fun v4=>
  ja (.inl (v3,v4))) (
  ja (.inr s1.1))
def f_J(x0:Int):Option jh:=
 (zH (zMv x0) ([],0)).bind fun r5=>
 ja r5
def zMw(x0:Int)(x1:jg)(x2:jh)(s5:(jg)×Int)(s6:(jg)×Int):Option ((jg×Int)⊕jg):=
 cond (decide (s6.2<(s6.1.length:Int))) (
  (ixO x2 s5.2).bind fun v2=>
  cond (decide (s6.2<(v2.length:Int))) (
   (ixO s6.1 s6.2).bind fun v3=>
   (ixO x1 s5.2).bind fun v4=>
   (ixO x2 s5.2).bind fun v5=>
   (ixO v5 s6.2).bind fun v6=>
   (rng (v4*v6)).bind fun v7=>
   (rng (v3+v7)).bind fun v8=>
   (vS v8 x0).bind fun v9=>
   (ixO s6.1 s6.2).bind fun _=>
   (rng (s6.2+1)).bind fun v11=>
   ja (.inl (s6.1.set s6.2.toNat v9,v11))) (
   ja (.inr s6.1))) (
  ja (.inr s6.1))
def zMx(x0:Int)(x1:jg)(x2:jh)(s5:(jg)×Int):Option ((jg×Int)⊕jg):=
 cond (decide (s5.2<(x1.length:Int))) (
  cond (decide (s5.2<(x2.length:Int))) (
   (zH (zMw x0 x1 x2 s5) (s5.1,0)).bind fun r12=>
   (rng (s5.2+1)).bind fun v13=>
   ja (.inl (r12,v13))) (
   ja (.inr s5.1))) (
  ja (.inr s5.1))
def f_u(x0:Int)(x1:jg)(x2:jh)(x3:Int):Option jg:=
 (yY x3).bind fun m1=>
 (zH (zMx x0 x1 x2) (J1 m1 (0:Int),0)).bind fun r14=>
 ja r14
def zMy(x0:Int)(x1:jh)(x2:jh)(x3:Int)(s1:(jh)×Int):Option ((jh×Int)⊕jh):=
 cond (decide (s1.2<(x1.length:Int))) (
  (ixO x1 s1.2).bind fun v1=>
  (f_u x0 v1 x2 x3).bind fun r2=>
  (xK s1.1 [r2]).bind fun v3=>
  (rng (s1.2+1)).bind fun v4=>
  ja (.inl (v3,v4))) (
  ja (.inr s1.1))
def zV6(x0:Int)(x1:jh)(x2:jh)(x3:Int):Option jh:=
 (zH (zMy x0 x1 x2 x3) ([],0)).bind fun r5=>
 ja r5
def zT0(x0:Int):Option Bool:=
 cond (x0==2) (
  ja jc) (
  cond (x0==3) (
   ja jc) (
   cond (x0==5) (
    ja jc) (
    ja (x0==7))))
def zNY(x0:Int)(x1:Int)(x2:Int):Option Bool:=
 cond (decide (x0≥x1)) (
  ja (decide (x0≤x2))) (
  ja jd)
def zPE(x0:SPr)(x1:jg)(s1:Int):Option (Int⊕(Unit⊕Bool)):=
 cond (decide (s1<(x1.length:Int))) (
  (ixO x1 s1).bind fun v1=>
  (ixO x0.zA s1).bind fun v2=>
  (rng (v2-1)).bind fun v3=>
  (zNY v1 0 v3).bind fun r4=>
  cond (!r4) (
   ja (.inr (.inr jd))) (
   (rng (s1+1)).bind fun v5=>
   ja (.inl v5))) (
  ja (.inr (.inl ())))
def zV7(x0:SPr)(x1:jg):Option Bool:=
 cond ((x1.length:Int) != (x0.zA.length:Int)) (
  ja jd) (
  (zH (zPE x0 x1) 0).bind fun r6=>
  match r6 with
  |(.inl r6)=>
   ja jc
  |(.inr r6)=>
   ja r6)
def zQA(x0:jg)(s1:Int):Option (Int⊕(Unit⊕Bool)):=
 cond (decide (s1<(x0.length:Int))) (
  (ixO x0 s1).bind fun v1=>
  cond (v1 != 0) (
   ja (.inr (.inr jd))) (
   (rng (s1+1)).bind fun v2=>
   ja (.inl v2))) (
  ja (.inr (.inl ())))
def f_W(x0:jg):Option Bool:=
 (zH (zQA x0) 0).bind fun r3=>
 match r3 with
 |(.inl r3)=>
  ja jc
 |(.inr r3)=>
  ja r3
def zT1(x0:SPr)(x1:Int)(x2:jg):Option Bool:=
 (zV7 x0 x2).bind fun r1=>
 cond r1 (
  (rng (x1+1)).bind fun v2=>
  (yA x2 0 v2).bind fun v3=>
  (f_W v3).bind fun r4=>
  ja r4) (
  ja jd)
def zNZ(x0:SPr)(s1:Int×Int):Option ((Int×Int)⊕(Unit⊕Bool)):=
 cond (decide (s1.2<(x0.zA.length:Int))) (
  (ixO x0.zA s1.2).bind fun v1=>
  (zT0 v1).bind fun r2=>
  cond (!r2) (
   ja (.inr (.inr jd))) (
   (rng (s1.1*v1)).bind fun v3=>
   cond (decide (v3> 729)) (
    ja (.inr (.inr jd))) (
    (rng (s1.1*v1)).bind fun v4=>
    (rng (s1.2+1)).bind fun v5=>
    ja (.inl (v4,v5))))) (
  ja (.inr (.inl ())))
def zT2(x0:SPr)(s7:Int)(v12:jh)(s8:Int):Option (Int⊕(Unit⊕Bool)):=
 cond (decide (s8<(v12.length:Int))) (
  (ixO v12 s8).bind fun v13=>
  (zT1 x0 s7 v13).bind fun r14=>
  cond (!r14) (
   ja (.inr (.inr jd))) (
   (rng (s8+1)).bind fun v15=>
   ja (.inl v15))) (
  ja (.inr (.inl ())))
def zOa(x0:SPr)(s7:Int):Option (Int⊕(Unit⊕Bool)):=
 cond (decide (s7<(x0.zA.length:Int))) (
  (ixO x0.zT s7).bind fun v7=>
  (zT1 x0 s7 v7).bind fun r8=>
  cond (!r8) (
   ja (.inr (.inr jd))) (
   (ixO x0.zE s7).bind fun v9=>
   (rng ((x0.zA.length:Int)-1)).bind fun v10=>
   (rng (v10-s7)).bind fun v11=>
   cond ((v9.length:Int) != v11) (
    ja (.inr (.inr jd))) (
    (ixO x0.zE s7).bind fun v12=>
    (zH (zT2 x0 s7 v12) 0).bind fun r16=>
    match r16 with
    |(.inl r16)=>
     (rng (s7+1)).bind fun v17=>
     ja (.inl v17)
    |(.inr r16)=>
     ja (.inr (.inr r16))))) (
  ja (.inr (.inl ())))
def f_t(x0:SPr):Option Bool:=
 cond (decide ((x0.zA.length:Int)> 6)) (
  ja jd) (
  cond ((x0.zT.length:Int) != (x0.zA.length:Int)) (
   ja jd) (
   cond ((x0.zE.length:Int) != (x0.zA.length:Int)) (
    ja jd) (
    (zH (zNZ x0) (1,0)).bind fun r6=>
    match r6 with
    |(.inl r6)=>
     (zH (zOa x0) 0).bind fun r18=>
     match r18 with
     |(.inl r18)=>
      ja jc
     |(.inr r18)=>
      ja r18
    |(.inr r6)=>
     ja r6)))
def f_H(x0:jg):Option jg:=
 (xK [] x0).bind fun v2=>
 ja v2
def zT3(x2:Int)(r3:(jg))(s1:(jg)×Int):Option ((jg×Int)⊕jg):=
 cond (decide (s1.2<(r3.length:Int))) (
  (rng (x2+1)).bind fun v4=>
  (rng (v4+s1.2)).bind fun v5=>
  (ixO s1.1 v5).bind fun _=>
  (rng (s1.2+1)).bind fun v7=>
  ja (.inl (s1.1.set v5.toNat 0,v7))) (
  ja (.inr s1.1))
def zY1(g_c:SPr→jg→jg→Option jg)(x0:SPr)(x2:Int)(s7:(jg)×Int)(v17:Int)(s8:(jg)×Int):Option ((jg×Int)⊕jg):=
 cond (decide (s8.2<v17)) (
  (ixO x0.zE x2).bind fun v18=>
  (ixO v18 s7.2).bind fun v19=>
  (g_c x0 s8.1 v19).bind fun r20=>
  (rng (s8.2+1)).bind fun v21=>
  ja (.inl (r20,v21))) (
  ja (.inr s8.1))
def zY2(g_c:SPr→jg→jg→Option jg)(x0:SPr)(x2:Int)(r3:(jg))(s7:(jg)×Int):Option ((jg×Int)⊕jg):=
 cond (decide (s7.2<(r3.length:Int))) (
  (ixO r3 s7.2).bind fun v17=>
  (zH (zY1 g_c x0 x2 s7 v17) (s7.1,0)).bind fun r22=>
  (rng (s7.2+1)).bind fun v23=>
  ja (.inl (r22,v23))) (
  ja (.inr s7.1))
def zY3(g_c:SPr→jg→jg→Option jg)(x0:SPr)(x2:Int)(s15:(jg)×Int)(v25:Int)(s16:(jg)×Int):Option ((jg×Int)⊕jg):=
 cond (decide (s16.2<v25)) (
  (ixO x0.zE x2).bind fun v26=>
  (ixO v26 s15.2).bind fun v27=>
  (g_c x0 s16.1 v27).bind fun r28=>
  (rng (s16.2+1)).bind fun v29=>
  ja (.inl (r28,v29))) (
  ja (.inr s16.1))
def zY4(g_c:SPr→jg→jg→Option jg)(x0:SPr)(x2:Int)(r3:(jg))(s15:(jg)×Int):Option ((jg×Int)⊕jg):=
 cond (decide (s15.2<(r3.length:Int))) (
  (ixO r3 s15.2).bind fun v25=>
  (zH (zY3 g_c x0 x2 s15 v25) (s15.1,0)).bind fun r30=>
  (rng (s15.2+1)).bind fun v31=>
  ja (.inl (r30,v31))) (
  ja (.inr s15.1))
def b_b(g_c:SPr→jg→jg→Option jg)(x0:SPr)(x1:jg)(x2:Int):Option jg:=
 (rng (x2+1)).bind fun v1=>
 (yA x1 v1 x1.length).bind fun v2=>
 (f_H v2).bind fun r3=>
 (zH (zT3 x2 r3) (x1,0)).bind fun r8=>
 (ixO r8 x2).bind fun v9=>
 (rng (v9+1)).bind fun v10=>
 (ixO r8 x2).bind fun _=>
 (ixO (r8.set x2.toNat v10) x2).bind fun v12=>
 (ixO x0.zA x2).bind fun v13=>
 cond (v12==v13) (
  (ixO (r8.set x2.toNat v10) x2).bind fun _=>
  (ixO x0.zT x2).bind fun v15=>
  (g_c x0 ((r8.set x2.toNat v10).set x2.toNat 0) v15).bind fun r16=>
  (zH (zY2 g_c x0 x2 r3) (r16,0)).bind fun r24=>
  ja r24) (
  (zH (zY4 g_c x0 x2 r3) (r8.set x2.toNat v10,0)).bind fun r32=>
  ja r32)
def zT4(g_b:SPr→jg→Int→Option jg)(x0:SPr)(s5:(jg)×Int)(v1:Int)(s6:(jg)×Int):Option ((jg×Int)⊕jg):=
 cond (decide (s6.2<v1)) (
  (g_b x0 s6.1 s5.2).bind fun r2=>
  (rng (s6.2+1)).bind fun v3=>
  ja (.inl (r2,v3))) (
  ja (.inr s6.1))
def zT5(g_b:SPr→jg→Int→Option jg)(x0:SPr)(x2:jg)(s5:(jg)×Int):Option ((jg×Int)⊕jg):=
 cond (decide (s5.2<(x2.length:Int))) (
  (ixO x2 s5.2).bind fun v1=>
  (zH (zT4 g_b x0 s5 v1) (s5.1,0)).bind fun r4=>
  (rng (s5.2+1)).bind fun v5=>
  ja (.inl (r4,v5))) (
  ja (.inr s5.1))
def b_c(g_b:SPr→jg→Int→Option jg)(x0:SPr)(x1:jg)(x2:jg):Option jg:=
 (zH (zT5 g_b x0 x2) (x1,0)).bind fun r6=>
 ja r6
mutual
def zT6:Nat→SPr→jg→Int→Option jg
 |0=>fun _ _ _=>jb
 |n+1=>b_b (zQB n)
def zQB:Nat→SPr→jg→jg→Option jg
 |0=>fun _ _ _=>jb
 |n+1=>b_c (zT6 n)
end
def f_b(x0:SPr)(x1:jg)(x2:Int):Option jg:=zD8 fun n=>zT6 n x0 x1 x2
def f_c(x0:SPr)(x1:jg)(x2:jg):Option jg:=zD8 fun n=>zQB n x0 x1 x2
def zMz(x0:SPr)(x1:jg)(x2:Int)(s1:(jg)×Int):Option ((jg×Int)⊕jg):=
 cond (decide (s1.2<x2)) (
  (f_c x0 s1.1 x1).bind fun r2=>
  (rng (s1.2+1)).bind fun v3=>
  ja (.inl (r2,v3))) (
  ja (.inr s1.1))
def zV8(x0:SPr)(x1:jg)(x2:Int):Option jg:=
 (yY (x1.length:Int)).bind fun m1=>
 (zH (zMz x0 x1 x2) (J1 m1 (0:Int),0)).bind fun r4=>
 ja r4
def zT7(x0:SPr)(v3:jg)(v6:Int)(s6:(jg)×Int):Option ((jg×Int)⊕jg):=
 cond (decide (s6.2<v6)) (
  (f_c x0 s6.1 v3).bind fun r7=>
  (rng (s6.2+1)).bind fun v8=>
  ja (.inl (r7,v8))) (
  ja (.inr s6.1))
def zT8(x0:SPr)(x1:Int)(x2:jg)(v2:jh)(s5:(jg)×Int):Option ((jg×Int)⊕jg):=
 cond (decide (s5.2<(v2.length:Int))) (
  (ixO v2 s5.2).bind fun v3=>
  (rng (x1+1)).bind fun v4=>
  (rng (v4+s5.2)).bind fun v5=>
  (ixO x2 v5).bind fun v6=>
  (zH (zT7 x0 v3 v6) (s5.1,0)).bind fun r9=>
  (rng (s5.2+1)).bind fun v10=>
  ja (.inl (r9,v10))) (
  ja (.inr s5.1))
def f_D(x0:SPr)(x1:Int)(x2:jg):Option jg:=
 (yY (x2.length:Int)).bind fun m1=>
 (ixO x0.zE x1).bind fun v2=>
 (zH (zT8 x0 x1 x2 v2) (J1 m1 (0:Int),0)).bind fun r11=>
 ja r11
def zT9(x0:jg)(x1:jg)(s1:Int):Option (Int⊕(Unit⊕Bool)):=
 cond (decide (s1<(x0.length:Int))) (
  (ixO x0 s1).bind fun v1=>
  (ixO x1 s1).bind fun v2=>
  cond (v1 != v2) (
   ja (.inr (.inr jd))) (
   (rng (s1+1)).bind fun v3=>
   ja (.inl v3))) (
  ja (.inr (.inl ())))
def zOb(x0:jg)(x1:jg):Option Bool:=
 cond ((x0.length:Int) != (x1.length:Int)) (
  ja jd) (
  (zH (zT9 x0 x1) 0).bind fun r4=>
  match r4 with
  |(.inl r4)=>
   ja jc
  |(.inr r4)=>
   ja r4)
def zQC(x0:SPr)(s5:(jg)×jg×Int)(s6:(jg)×jg):Option ((jg×jg)⊕(jg×jg)):=
 (ixO s6.1 s5.2.2).bind fun v3=>
 cond (v3 != 0) (
  (f_b x0 s6.1 s5.2.2).bind fun r4=>
  (f_b x0 s6.2 s5.2.2).bind fun r5=>
  ja (.inl (r4,r5))) (
  ja (.inr (s6.1,s6.2)))
def zTA(x0:SPr)(r1:(jg))(s5:(jg)×jg×Int):Option ((jg×jg×Int)⊕jg):=
 cond (decide (s5.2.2<(r1.length:Int))) (
  (zH (zQC x0 s5) (s5.1,s5.2.1)).bind fun r6=>
  (rng (s5.2.2+1)).bind fun v7=>
  ja (.inl (r6.1,r6.2,v7))) (
  ja (.inr s5.2.1))
def f_I(x0:SPr)(x1:jg):Option jg:=
 (f_H x1).bind fun r1=>
 (yY (x1.length:Int)).bind fun m2=>
 (zH (zTA x0 r1) (r1,J1 m2 (0:Int),0)).bind fun r8=>
 ja r8
def zTB(x0:SPr)(x1:jg)(x2:jg):Option jg:=
 (f_H x1).bind fun r1=>
 (f_c x0 r1 x2).bind fun r2=>
 ja r2
def zTC(x0:SPr)(x1:jg)(x2:jg):Option jg:=
 (f_I x0 x2).bind fun r1=>
 (zTB x0 x1 x2).bind fun r2=>
 (zTB x0 r1 r2).bind fun r3=>
 ja r3
def zM0(x0:Int)(x1:Int):Option jg:=
 (yY x0).bind fun m1=>
 (ixO (J1 m1 (0:Int)) x1).bind fun _=>
 ja ((J1 m1 (0:Int)).set x1.toNat 1)
def zTD(x0:SPr)(x1:Int)(s1:Int):Option (Int⊕(Unit⊕xL)):=
 cond (decide (s1<(x0.zA.length:Int))) (
  (ixO x0.zE x1).bind fun v2=>
  (rng (s1-x1)).bind fun v3=>
  (rng (v3-1)).bind fun v4=>
  (ixO v2 v4).bind fun v5=>
  (ixO x0.zA s1).bind fun v6=>
  (zV8 x0 v5 v6).bind fun r7=>
  (ixO x0.zT s1).bind fun v8=>
  (f_D x0 x1 v8).bind fun r9=>
  (zOb r7 r9).bind fun r10=>
  cond (!r10) (
   ja (.inr (.inr (xL.mk 1 x1 s1 0)))) (
   (rng (s1+1)).bind fun v11=>
   ja (.inl v11))) (
  ja (.inr (.inl ())))
def zTE(x0:SPr)(x1:Int)(s7:Int)(s8:Int):Option (Int⊕(Unit⊕xL)):=
 cond (decide (s8<(x0.zA.length:Int))) (
  (ixO x0.zE x1).bind fun v15=>
  (rng (s8-x1)).bind fun v16=>
  (rng (v16-1)).bind fun v17=>
  (ixO v15 v17).bind fun v18=>
  (ixO x0.zE x1).bind fun v19=>
  (rng (s7-x1)).bind fun v20=>
  (rng (v20-1)).bind fun v21=>
  (ixO v19 v21).bind fun v22=>
  (zTC x0 v18 v22).bind fun r23=>
  (ixO x0.zE s7).bind fun v24=>
  (rng (s8-s7)).bind fun v25=>
  (rng (v25-1)).bind fun v26=>
  (ixO v24 v26).bind fun v27=>
  (f_D x0 x1 v27).bind fun r28=>
  (zOb r23 r28).bind fun r29=>
  cond (!r29) (
   ja (.inr (.inr (xL.mk 2 x1 s7 s8)))) (
   (rng (s8+1)).bind fun v30=>
   ja (.inl v30))) (
  ja (.inr (.inl ())))
def zTF(x0:SPr)(x1:Int)(s7:Int):Option (Int⊕(Unit⊕xL)):=
 cond (decide (s7<(x0.zA.length:Int))) (
  (rng (s7+1)).bind fun v14=>
  (zH (zTE x0 x1 s7) v14).bind fun r31=>
  match r31 with
  |(.inl r31)=>
   (rng (s7+1)).bind fun v32=>
   ja (.inl v32)
  |(.inr r31)=>
   ja (.inr (.inr r31))) (
  ja (.inr (.inl ())))
def zTG(x0:SPr)(x1:Int)(v39:Int)(s16:(jg)×Int):Option ((jg×Int)⊕jg):=
 cond (decide (s16.2<v39)) (
  (f_D x0 x1 s16.1).bind fun r40=>
  (rng (s16.2+1)).bind fun v41=>
  ja (.inl (r40,v41))) (
  ja (.inr s16.1))
def zTH(x0:SPr)(x1:Int)(v34:jg)(s15:Int):Option (Int⊕(Unit⊕xL)):=
 cond (decide (s15<(x0.zA.length:Int))) (
  (zM0 (x0.zA.length:Int) s15).bind fun r38=>
  (ixO x0.zA x1).bind fun v39=>
  (zH (zTG x0 x1 v39) (r38,0)).bind fun r42=>
  (zM0 (x0.zA.length:Int) s15).bind fun r43=>
  (zTC x0 r43 v34).bind fun r44=>
  (zOb r42 r44).bind fun r45=>
  cond (!r45) (
   ja (.inr (.inr (xL.mk 4 x1 s15 0)))) (
   (rng (s15+1)).bind fun v46=>
   ja (.inl v46))) (
  ja (.inr (.inl ())))
def f_n(x0:SPr)(x1:Int):Option xL:=
 (rng (x1+1)).bind fun v1=>
 (zH (zTD x0 x1) v1).bind fun r12=>
 match r12 with
 |(.inl r12)=>
  (rng (x1+1)).bind fun v13=>
  (zH (zTF x0 x1) v13).bind fun r33=>
  match r33 with
  |(.inl r33)=>
   (ixO x0.zT x1).bind fun v34=>
   (f_D x0 x1 v34).bind fun r35=>
   (zOb r35 v34).bind fun r36=>
   cond (!r36) (
    ja (xL.mk 3 x1 0 0)) (
    (rng (x1+1)).bind fun v37=>
    (zH (zTH x0 x1 v34) v37).bind fun r47=>
    match r47 with
    |(.inl r47)=>
     ja (xL.mk 0 0 0 0)
    |(.inr r47)=>
     ja r47)
  |(.inr r33)=>
   ja r33
 |(.inr r12)=>
  ja r12
def zM1(x0:SPr)(s1:Int):Option (Int⊕Int):=
 cond (decide (s1> 0)) (
  (rng (s1-1)).bind fun v1=>
  (f_n x0 v1).bind fun r2=>
  cond (r2.Kind==0&&(r2.zWY==0&&(r2.zXa==0&&r2.zU7==0))) (
   (rng (s1-1)).bind fun v3=>
   ja (.inl v3)) (
   ja (.inr s1))) (
  ja (.inr s1))
def zY5(x0:SPr):Option Int:=
 (zH (zM1 x0) (x0.zA.length:Int)).bind fun r4=>
 ja r4
def zTI(x0:SPr):Option Bool:=
 (f_t x0).bind fun r1=>
 cond r1 (
  (zY5 x0).bind fun r2=>
  ja (r2==0)) (
  ja jd)
def zTJ(x0:zG)(x1:Int):Option zK:=
 (ixO x0.zR x1).bind fun v1=>
 ja (zK.mk x0.Prime x0.Dim v1)
def zPF(x0:jg)(x1:Int)(s1:Int):Option (Int⊕(Unit⊕Bool)):=
 cond (decide (s1<(x0.length:Int))) (
  (ixO x0 s1).bind fun v1=>
  (rng (x1-1)).bind fun v2=>
  (zNY v1 0 v2).bind fun r3=>
  cond (!r3) (
   ja (.inr (.inr jd))) (
   (rng (s1+1)).bind fun v4=>
   ja (.inl v4))) (
  ja (.inr (.inl ())))
def zV9(x0:jg)(x1:Int)(x2:Int):Option Bool:=
 cond ((x0.length:Int) != x2) (
  ja jd) (
  (zH (zPF x0 x1) 0).bind fun r5=>
  match r5 with
  |(.inl r5)=>
   ja jc
  |(.inr r5)=>
   ja r5)
def zM2(x0:zK)(s1:Int):Option (Int⊕(Unit⊕Bool)):=
 cond (decide (s1<(x0.Rows.length:Int))) (
  (ixO x0.Rows s1).bind fun v3=>
  (zV9 v3 x0.Prime x0.yI).bind fun r4=>
  cond (!r4) (
   ja (.inr (.inr jd))) (
   (rng (s1+1)).bind fun v5=>
   ja (.inl v5))) (
  ja (.inr (.inl ())))
def zVA(x0:zK):Option Bool:=
 (zT0 x0.Prime).bind fun r1=>
 cond (!r1) (
  ja jd) (
  (zNY x0.yI 0 8).bind fun r2=>
  cond (!r2) (
   ja jd) (
   cond (decide ((x0.Rows.length:Int)> 8)) (
    ja jd) (
    (zH (zM2 x0) 0).bind fun r6=>
    match r6 with
    |(.inl r6)=>
     ja jc
    |(.inr r6)=>
     ja r6)))
def yA8(x0:Int)(x1:Int):Option (Int×Int):=
 ja ((IntKind.wrap .u64 ((IntKind.wrap .u64 ((IntKind.wrap .u64 ((U4 x0 (2 ^ (min (32:Int).toNat (IntKind.bits .u64))))*(U4 x1 (2 ^ (min (32:Int).toNat (IntKind.bits .u64))))))+(U4 (IntKind.wrap .u64 ((IntKind.wrap .u64 ((U4 x0 (2 ^ (min (32:Int).toNat (IntKind.bits .u64))))*(zGy .u64 x1 4294967295)))+(U4 (IntKind.wrap .u64 ((zGy .u64 x0 4294967295)*(zGy .u64 x1 4294967295))) (2 ^ (min (32:Int).toNat (IntKind.bits .u64)))))) (2 ^ (min (32:Int).toNat (IntKind.bits .u64))))))+(U4 (IntKind.wrap .u64 ((zGy .u64 (IntKind.wrap .u64 ((IntKind.wrap .u64 ((U4 x0 (2 ^ (min (32:Int).toNat (IntKind.bits .u64))))*(zGy .u64 x1 4294967295)))+(U4 (IntKind.wrap .u64 ((zGy .u64 x0 4294967295)*(zGy .u64 x1 4294967295))) (2 ^ (min (32:Int).toNat (IntKind.bits .u64)))))) 4294967295)+(IntKind.wrap .u64 ((zGy .u64 x0 4294967295)*(U4 x1 (2 ^ (min (32:Int).toNat (IntKind.bits .u64)))))))) (2 ^ (min (32:Int).toNat (IntKind.bits .u64)))))),(IntKind.wrap .u64 (x0*x1)))
def zVB(x0:Int)(x1:Int):Option (Int×Int):=
 (yA8 x0 x1).bind fun r1=>
 ja (r1.1,r1.2)
def tL(s1:(jg)×Int):Option ((jg×Int)⊕jg):=
 cond (decide (s1.2<(s1.1.length:Int))) (
  (yA s1.1 s1.2 s1.1.length).bind fun _=>
  (yA s1.1 0 s1.2).bind fun v4=>
  (rng (s1.2+((min v4.length (((s1.1.length:Int).toNat)-((s1.2:Int).toNat)):Nat):Int))).bind fun v5=>
  ja (.inl (xX s1.1 ((s1.2:Int).toNat) (v4.take (((s1.1.length:Int).toNat)-((s1.2:Int).toNat))),v5))) (
  ja (.inr s1.1))
def f_i(x0:jg)(x1:Int):Option jg:=
 cond (decide (x1<0)) (
  jb) (
  (zVB (IntKind.wrap .u64 (x0.length:Int)) (IntKind.wrap .u64 x1)).bind fun r1=>
  cond (decide (r1.1> 0)) (
   jb) (
   cond (decide (r1.2> 9223372036854775807)) (
    jb) (
    (yY (IntKind.wrap .i64 r1.2)).bind fun m2=>
    (zH tL (xX (J1 m2 (0:Int)) 0 (x0.take (((J1 m2 (0:Int)).length)-0)),((min x0.length (((J1 m2 (0:Int)).length)-0):Nat):Int))).bind fun r6=>
    ja r6)))
def zTK(s5:(jg)×Int)(v1:Int)(s6:(jg)×Int):Option ((jg×Int)⊕jg):=
 cond (decide (s6.2<v1)) (
  (rng (s5.2+1)).bind fun v2=>
  (xK s6.1 [v2]).bind fun v3=>
  (rng (s6.2+1)).bind fun v4=>
  ja (.inl (v3,v4))) (
  ja (.inr s6.1))
def zTL(x0:jg)(s5:(jg)×Int):Option ((jg×Int)⊕jg):=
 cond (decide (s5.2<(x0.length:Int))) (
  (ixO x0 s5.2).bind fun v1=>
  (zH (zTK s5 v1) (s5.1,0)).bind fun r5=>
  (rng (s5.2+1)).bind fun v6=>
  ja (.inl (r5,v6))) (
  ja (.inr s5.1))
def f_w(x0:jg):Option jg:=
 (zH (zTL x0) ([],0)).bind fun r7=>
 ja r7
def zTM(x0:SPr)(s1:(List (jg×jg))×Int):Option (((List (jg×jg))×Int)⊕(List (jg×jg))):=
 cond (decide (s1.2<(x0.zA.length:Int))) (
  (ixO x0.zA s1.2).bind fun v1=>
  (rng (s1.2+1)).bind fun v2=>
  (f_i [v2] v1).bind fun r3=>
  (ixO x0.zT s1.2).bind fun v4=>
  (f_w v4).bind fun r5=>
  (xK s1.1 [(r3,r5)]).bind fun v6=>
  (rng (s1.2+1)).bind fun v7=>
  ja (.inl (v6,v7))) (
  ja (.inr s1.1))
def zTN(s7:(List (jg×jg))×Int)(v9:jh)(s8:(List (jg×jg))×Int):Option (((List (jg×jg))×Int)⊕(List (jg×jg))):=
 cond (decide (s8.2<(v9.length:Int))) (
  (ixO v9 s8.2).bind fun v10=>
  (rng (s7.2+1)).bind fun v11=>
  (rng (s7.2+s8.2)).bind fun v12=>
  (rng (v12+2)).bind fun v13=>
  (f_w v10).bind fun r14=>
  (xK [v11] r14).bind fun v15=>
  (xK s8.1 [([v13,v11],v15)]).bind fun v16=>
  (rng (s8.2+1)).bind fun v17=>
  ja (.inl (v16,v17))) (
  ja (.inr s8.1))
def zTO(x0:SPr)(s7:(List (jg×jg))×Int):Option (((List (jg×jg))×Int)⊕(List (jg×jg))):=
 cond (decide (s7.2<(x0.zA.length:Int))) (
  (ixO x0.zE s7.2).bind fun v9=>
  (zH (zTN s7 v9) (s7.1,0)).bind fun r18=>
  (rng (s7.2+1)).bind fun v19=>
  ja (.inl (r18,v19))) (
  ja (.inr s7.1))
def f_A(x0:SPr):Option (List (jg×jg)):=
 (zH (zTM x0) ([],0)).bind fun r8=>
 (zH (zTO x0) (r8,0)).bind fun r20=>
 ja r20
def zTP(x1:Int)(s1:(jh)×Int):Option ((jh×Int)⊕jh):=
 cond (decide (s1.2<x1)) (
  (yY x1).bind fun m1=>
  (ixO (J1 m1 (0:Int)) s1.2).bind fun _=>
  (xK s1.1 [(J1 m1 (0:Int)).set s1.2.toNat 1]).bind fun v3=>
  (rng (s1.2+1)).bind fun v4=>
  ja (.inl (v3,v4))) (
  ja (.inr s1.1))
def f_M(x0:Int)(x1:Int):Option zK:=
 (zH (zTP x1) ([],0)).bind fun r5=>
 ja (zK.mk x0 x1 r5)
def zK9(x0:Int)(x1:Int):Option Int:=
 (vS x0 x1).bind fun v1=>
 (rng (v1+x1)).bind fun v2=>
 (vS v2 x1).bind fun v3=>
 ja v3
def zM3(x0:jg)(x1:jg)(x2:Int)(x3:Int)(s1:(jg)×Int):Option ((jg×Int)⊕jg):=
 cond (decide (s1.2<(x0.length:Int))) (
  (ixO s1.1 s1.2).bind fun v1=>
  (ixO x1 s1.2).bind fun v2=>
  (rng (x2*v2)).bind fun v3=>
  (rng (v1+v3)).bind fun v4=>
  (zK9 v4 x3).bind fun r5=>
  (ixO s1.1 s1.2).bind fun _=>
  (rng (s1.2+1)).bind fun v7=>
  ja (.inl (s1.1.set s1.2.toNat r5,v7))) (
  ja (.inr s1.1))
def f_s(x0:jg)(x1:jg)(x2:Int)(x3:Int):Option jg:=
 (zH (zM3 x0 x1 x2 x3) (x0,0)).bind fun r8=>
 ja r8
def zM4(x0:jg)(x1:zK)(s1:(jg)×Int):Option ((jg×Int)⊕jg):=
 cond (decide (s1.2<(x0.length:Int))) (
  (ixO x0 s1.2).bind fun v2=>
  (ixO x1.Rows s1.2).bind fun v3=>
  (f_s s1.1 v3 v2 x1.Prime).bind fun r4=>
  (rng (s1.2+1)).bind fun v5=>
  ja (.inl (r4,v5))) (
  ja (.inr s1.1))
def zTQ(x0:jg)(x1:zK):Option jg:=
 (yY x1.yI).bind fun m1=>
 (zH (zM4 x0 x1) (J1 m1 (0:Int),0)).bind fun r6=>
 ja r6
def zM5(x0:zK)(x1:zK)(s1:(jh)×Int):Option ((jh×Int)⊕jh):=
 cond (decide (s1.2<(x0.Rows.length:Int))) (
  (ixO x0.Rows s1.2).bind fun v1=>
  (zTQ v1 x1).bind fun r2=>
  (xK s1.1 [r2]).bind fun v3=>
  (rng (s1.2+1)).bind fun v4=>
  ja (.inl (v3,v4))) (
  ja (.inr s1.1))
def zVC(x0:zK)(x1:zK):Option zK:=
 (zH (zM5 x0 x1) ([],0)).bind fun r5=>
 ja (zK.mk x0.Prime x1.yI r5)
def zTR(x0:zG)(x1:jg)(s1:Int×Int×jh×Int):Option ((Int×Int×jh×Int)⊕(Int×Int×jh)):=
 cond (decide (s1.2.2.2<(x1.length:Int))) (
  (ixO x1 s1.2.2.2).bind fun v2=>
  (rng (v2-1)).bind fun v3=>
  (zTJ x0 v3).bind fun r4=>
  (zVC (zK.mk s1.1 s1.2.1 s1.2.2.1) r4).bind fun r5=>
  (rng (s1.2.2.2+1)).bind fun v6=>
  ja (.inl (r5.Prime,r5.yI,r5.Rows,v6))) (
  ja (.inr (s1.1,s1.2.1,s1.2.2.1)))
def f_N(x0:zG)(x1:jg):Option zK:=
 (f_M x0.Prime x0.Dim).bind fun r1=>
 (zH (zTR x0 x1) (r1.Prime,r1.yI,r1.Rows,0)).bind fun r7=>
 ja (zK.mk r7.1 r7.2.1 r7.2.2)
def zTS(x1:Int):Option jg:=
 cond (decide (x1<0)) (
  jb) (
  (rng (0-0)).bind fun v1=>
  (rng (x1-v1)).bind fun v2=>
  cond (decide (v2> 0)) (
   (vL [] v2 (0:Int)).bind fun v3=>
   (yA v3 0 0).bind fun v4=>
   ja v4) (
   ja []))
def zTT(x0:jh)(s1:Int×Int):Option ((Int×Int)⊕Int):=
 cond (decide (s1.2<(x0.length:Int))) (
  (ixO x0 s1.2).bind fun v1=>
  (rng (s1.1+(v1.length:Int))).bind fun v2=>
  cond (decide (v2<0)) (
   jb) (
   (rng (s1.2+1)).bind fun v3=>
   ja (.inl (v2,v3)))) (
  ja (.inr s1.1))
def zTU(x0:jh)(s3:(jg)×Int):Option ((jg×Int)⊕jg):=
 cond (decide (s3.2<(x0.length:Int))) (
  (ixO x0 s3.2).bind fun v6=>
  (xK s3.1 v6).bind fun v7=>
  (rng (s3.2+1)).bind fun v8=>
  ja (.inl (v7,v8))) (
  ja (.inr s3.1))
def f_v(x0:jh):Option jg:=
 (zH (zTT x0) (0,0)).bind fun r4=>
 (zTS r4).bind fun r5=>
 (zH (zTU x0) (r5,0)).bind fun r9=>
 ja r9
def zTV(x0:jg)(x1:jg)(s1:Int):Option (Int⊕(Unit⊕Bool)):=
 cond (decide (s1<(x0.length:Int))) (
  (ixO x0 s1).bind fun v1=>
  (ixO x1 s1).bind fun v2=>
  cond (v1 != v2) (
   ja (.inr (.inr jd))) (
   (rng (s1+1)).bind fun v3=>
   ja (.inl v3))) (
  ja (.inr (.inl ())))
def zTW(x0:jg)(x1:jg):Option Bool:=
 cond ((x0.length:Int) != (x1.length:Int)) (
  ja jd) (
  (zH (zTV x0 x1) 0).bind fun r4=>
  match r4 with
  |(.inl r4)=>
   ja jc
  |(.inr r4)=>
   ja r4)
def zY6(x0:jh)(x1:jh)(s1:Int):Option (Int⊕(Unit⊕Bool)):=
 cond (decide (s1<(x0.length:Int))) (
  (ixO x0 s1).bind fun v1=>
  (ixO x1 s1).bind fun v2=>
  (zTW v1 v2).bind fun r3=>
  cond (!r3) (
   ja (.inr (.inr jd))) (
   (rng (s1+1)).bind fun v4=>
   ja (.inl v4))) (
  ja (.inr (.inl ())))
def f_R(x0:jh)(x1:jh):Option Bool:=
 cond ((x0.length:Int) != (x1.length:Int)) (
  ja jd) (
  (zH (zY6 x0 x1) 0).bind fun r5=>
  match r5 with
  |(.inl r5)=>
   ja jc
  |(.inr r5)=>
   ja r5)
def zTX(x0:List jh)(x1:List jh)(s1:Int):Option (Int⊕(Unit⊕Bool)):=
 cond (decide (s1<(x0.length:Int))) (
  (ixO x0 s1).bind fun v1=>
  (ixO x1 s1).bind fun v2=>
  (f_R v1 v2).bind fun r3=>
  cond (!r3) (
   ja (.inr (.inr jd))) (
   (rng (s1+1)).bind fun v4=>
   ja (.inl v4))) (
  ja (.inr (.inl ())))
def zY7(x0:List jh)(x1:List jh):Option Bool:=
 cond ((x0.length:Int) != (x1.length:Int)) (
  ja jd) (
  (zH (zTX x0 x1) 0).bind fun r5=>
  match r5 with
  |(.inl r5)=>
   ja jc
  |(.inr r5)=>
   ja r5)
def zVD(x0:SPr)(x1:SPr):Option Bool:=
 (zTW x0.zA x1.zA).bind fun r1=>
 cond (!r1) (
  ja jd) (
  (f_R x0.zT x1.zT).bind fun r2=>
  cond (!r2) (
   ja jd) (
   (zY7 x0.zE x1.zE).bind fun r3=>
   cond (!r3) (
    ja jd) (
    ja jc)))
def zPG(s1:(jg)×Int×Int):Option ((jg×Int×Int)⊕(jg×Int)):=
 cond (decide (s1.2.2<(s1.1.length:Int))) (
  (ixO s1.1 s1.2.2).bind fun _=>
  (rng (s1.2.1+1)).bind fun v2=>
  (rng (s1.2.2+1)).bind fun v3=>
  ja (.inl (s1.1.set s1.2.2.toNat s1.2.1,v2,v3))) (
  ja (.inr (s1.1,s1.2.1)))
def zQD(x0:jg)(x1:Int):Option (Int×jg):=
 (zH zPG (x0,x1,0)).bind fun r4=>
 ja (r4.2,r4.1)
def zY8(s1:(jh)×Int×Int):Option ((jh×Int×Int)⊕(jh×Int)):=
 cond (decide (s1.2.2<(s1.1.length:Int))) (
  (ixO s1.1 s1.2.2).bind fun v1=>
  (zQD v1 s1.2.1).bind fun r2=>
  (rng (s1.2.2+1)).bind fun v3=>
  ja (.inl (s1.1.set s1.2.2.toNat r2.2,r2.1,v3))) (
  ja (.inr (s1.1,s1.2.1)))
def f_V(x0:jh)(x1:Int):Option (Int×jh):=
 (zH zY8 (x0,x1,0)).bind fun r4=>
 ja (r4.2,r4.1)
def zTY(s1:(List jh)×Int×Int):Option (((List jh)×Int×Int)⊕((List jh)×Int)):=
 cond (decide (s1.2.2<(s1.1.length:Int))) (
  (ixO s1.1 s1.2.2).bind fun v1=>
  (f_V v1 s1.2.1).bind fun r2=>
  (rng (s1.2.2+1)).bind fun v3=>
  ja (.inl (s1.1.set s1.2.2.toNat r2.2,r2.1,v3))) (
  ja (.inr (s1.1,s1.2.1)))
def zVE(x0:List jh)(x1:Int):Option (Int×(List jh)):=
 (zH zTY (x0,x1,0)).bind fun r4=>
 ja (r4.2,r4.1)
def zVF(x0:SPr)(x1:Int):Option (Int×SPr):=
 (zQD x0.zA x1).bind fun r1=>
 (f_V x0.zT r1.1).bind fun r2=>
 (zVE x0.zE r2.1).bind fun r3=>
 ja (r3.1,(SPr.mk r1.2 r2.2 r3.2))
def zM6(x0:jg)(s1:Int×Int):Option ((Int×Int)⊕(Int⊕Int)):=
 cond (decide (s1.2<(x0.length:Int))) (
  (ixO x0 s1.2).bind fun v1=>
  cond (v1 != s1.1) (
   ja (.inr (.inr (-1)))) (
   (rng (s1.1+1)).bind fun v2=>
   (rng (s1.2+1)).bind fun v3=>
   ja (.inl (v2,v3)))) (
  ja (.inr (.inl s1.1)))
def zTZ(x0:jg)(x1:Int):Option Int:=
 (zH (zM6 x0) (x1,0)).bind fun r4=>
 match r4 with
 |(.inl r4)=>
  ja r4
 |(.inr r4)=>
  ja r4
def zUa(x0:jh)(s1:Int×Int):Option ((Int×Int)⊕(Int⊕Int)):=
 cond (decide (s1.2<(x0.length:Int))) (
  (ixO x0 s1.2).bind fun v1=>
  (zTZ v1 s1.1).bind fun r2=>
  cond (decide (r2<0)) (
   ja (.inr (.inr (-1)))) (
   (rng (s1.2+1)).bind fun v3=>
   ja (.inl (r2,v3)))) (
  ja (.inr (.inl s1.1)))
def zVG(x0:jh)(x1:Int):Option Int:=
 (zH (zUa x0) (x1,0)).bind fun r4=>
 match r4 with
 |(.inl r4)=>
  ja r4
 |(.inr r4)=>
  ja r4
def zM7(x0:jh)(s1:(jh)×Int):Option ((jh×Int)⊕jh):=
 cond (decide (s1.2<(x0.length:Int))) (
  (ixO x0 s1.2).bind fun v1=>
  (rng ((v1.length:Int)+(x0.length:Int))).bind fun v2=>
  (yY v2).bind fun m3=>
  (rng ((v1.length:Int)+s1.2)).bind fun v4=>
  (ixO (xX (J1 m3 (0:Int)) 0 (v1.take (((J1 m3 (0:Int)).length)-0))) v4).bind fun _=>
  (xK s1.1 [(xX (J1 m3 (0:Int)) 0 (v1.take (((J1 m3 (0:Int)).length)-0))).set v4.toNat 1]).bind fun v6=>
  (rng (s1.2+1)).bind fun v7=>
  ja (.inl (v6,v7))) (
  ja (.inr s1.1))
def zVH(x0:jh):Option jh:=
 (zH (zM7 x0) ([],0)).bind fun r8=>
 ja r8
def zM8(x0:jh)(s1:(jh)×Int):Option ((jh×Int)⊕jh):=
 cond (decide (s1.2<(x0.length:Int))) (
  (ixO x0 s1.2).bind fun v1=>
  (f_H v1).bind fun r2=>
  (xK s1.1 [r2]).bind fun v3=>
  (rng (s1.2+1)).bind fun v4=>
  ja (.inl (v3,v4))) (
  ja (.inr s1.1))
def zVI(x0:jh):Option jh:=
 (zH (zM8 x0) ([],0)).bind fun r5=>
 ja r5
def zQE(s1:Int×Int×Int×Int):Option ((Int×Int×Int×Int)⊕(Int×Int)):=
 cond (s1.2.1 != 0) (
  (uM s1.1 s1.2.1).bind fun v1=>
  (rng (v1*s1.2.1)).bind fun v2=>
  (rng (s1.1-v2)).bind fun v3=>
  (rng (v1*s1.2.2.2)).bind fun v4=>
  (rng (s1.2.2.1-v4)).bind fun v5=>
  ja (.inl (s1.2.1,v3,s1.2.2.2,v5))) (
  ja (.inr (s1.1,s1.2.2.1)))
def f_O(x0:Int)(x1:Int):Option (Int×Bool):=
 (zH zQE (x1,x0,0,1)).bind fun r6=>
 (zK9 r6.2 x1).bind fun r7=>
 ja (r7,(r6.1==1))
def zIF(s13:(jh)×Int×Int)(s14:Int):Option (Int⊕Int):=
 cond (decide (s14<(s13.1.length:Int))) (
  (ixO s13.1 s14).bind fun v3=>
  (ixO v3 s13.2.2).bind fun v4=>
  cond (v4==0) (
   (rng (s14+1)).bind fun v5=>
   ja (.inl v5)) (
   ja (.inr s14))) (
  ja (.inr s14))
def zM9(x0:Int)(s13:(jh)×Int×Int)(r12:Int×Bool)(v13:jg)(s16:(jh)×Int):Option ((jh×Int)⊕jh):=
 cond (decide (s16.2<(v13.length:Int))) (
  (ixO s16.1 s13.2.1).bind fun v14=>
  (ixO s16.1 s13.2.1).bind fun v15=>
  (ixO v15 s16.2).bind fun v16=>
  (rng (v16*r12.1)).bind fun v17=>
  (vS v17 x0).bind fun v18=>
  (ixO v14 s16.2).bind fun _=>
  (rng (s16.2+1)).bind fun v20=>
  ja (.inl (s16.1.set s13.2.1.toNat (v14.set s16.2.toNat v18),v20))) (
  ja (.inr s16.1))
def zOc(x0:Int)(s13:(jh)×Int×Int)(r21:(jh))(s18:(jh)×Int):Option ((jh×Int)⊕jh):=
 cond (decide (s18.2<(r21.length:Int))) (
  cond (s18.2 != s13.2.1) (
   (ixO s18.1 s18.2).bind fun v22=>
   (ixO s18.1 s13.2.1).bind fun v23=>
   (ixO s18.1 s18.2).bind fun v24=>
   (ixO v24 s13.2.2).bind fun v25=>
   (rng (0-v25)).bind fun v26=>
   (f_s v22 v23 v26 x0).bind fun r27=>
   (rng (s18.2+1)).bind fun v28=>
   ja (.inl (s18.1.set s18.2.toNat r27,v28))) (
   (rng (s18.2+1)).bind fun v29=>
   ja (.inl (s18.1,v29)))) (
  ja (.inr s18.1))
def zOd(x0:Int)(s13:(jh)×Int×Int):Option ((jh×Int×Int)⊕(jh×Int)):=
 cond (decide ((s13.1.length:Int)> 0)) (
  (ixO s13.1 0).bind fun v2=>
  cond (decide (s13.2.2<(v2.length:Int))) (
   cond (decide (s13.2.1<(s13.1.length:Int))) (
    (zH (zIF s13) s13.2.1).bind fun r6=>
    cond (r6==(s13.1.length:Int)) (
     (rng (s13.2.2+1)).bind fun v7=>
     ja (.inl (s13.1,s13.2.1,v7))) (
     (ixO s13.1 r6).bind fun v8=>
     (ixO s13.1 s13.2.1).bind fun v9=>
     (ixO (jK s13.1 s13.2.1 r6 v8 v9) s13.2.1).bind fun v10=>
     (ixO v10 s13.2.2).bind fun v11=>
     (f_O v11 x0).bind fun r12=>
     (ixO (jK s13.1 s13.2.1 r6 v8 v9) s13.2.1).bind fun v13=>
     (zH (zM9 x0 s13 r12 v13) (jK s13.1 s13.2.1 r6 v8 v9,0)).bind fun r21=>
     (zH (zOc x0 s13 r21) (r21,0)).bind fun r30=>
     (rng (s13.2.1+1)).bind fun v31=>
     (rng (s13.2.2+1)).bind fun v32=>
     ja (.inl (r30,v31,v32)))) (
    ja (.inr (s13.1,s13.2.1)))) (
   ja (.inr (s13.1,s13.2.1)))) (
  ja (.inr (s13.1,s13.2.1)))
def f_j(x0:Int)(x1:jh):Option jh:=
 (zVI x1).bind fun r1=>
 (zH (zOd x0) (r1,0,0)).bind fun r33=>
 (yA r33.1 0 r33.2).bind fun v34=>
 ja v34
def zUb(x0:Int)(x1:Int):Option Int:=
 (vS x0 x1).bind fun v1=>
 cond (decide (v1<0)) (
  (rng (v1+x1)).bind fun v2=>
  ja v2) (
  ja v1)
def zIG(x0:jg)(s1:Int):Option (Int⊕(Unit⊕Int)):=
 cond (decide (s1<(x0.length:Int))) (
  (ixO x0 s1).bind fun v1=>
  cond (v1 != 0) (
   ja (.inr (.inr s1))) (
   (rng (s1+1)).bind fun v2=>
   ja (.inl v2))) (
  ja (.inr (.inl ())))
def f_B(x0:jg):Option Int:=
 (zH (zIG x0) 0).bind fun r3=>
 match r3 with
 |(.inl r3)=>
  ja (x0.length:Int)
 |(.inr r3)=>
  ja r3
def zUc(x0:Int)(x2:Int)(x3:jg)(s1:(jg)×Int):Option ((jg×Int)⊕jg):=
 cond (decide (s1.2<(s1.1.length:Int))) (
  cond (decide (s1.2<(x3.length:Int))) (
   (ixO s1.1 s1.2).bind fun v2=>
   (ixO x3 s1.2).bind fun v3=>
   (rng (x2*v3)).bind fun v4=>
   (rng (v2+v4)).bind fun v5=>
   (zUb v5 x0).bind fun r6=>
   (ixO s1.1 s1.2).bind fun _=>
   (rng (s1.2+1)).bind fun v8=>
   ja (.inl (s1.1.set s1.2.toNat r6,v8))) (
   ja (.inr s1.1))) (
  ja (.inr s1.1))
def f_x(x0:Int)(x1:jg)(x2:Int)(x3:jg):Option jg:=
 (f_z x1).bind fun r1=>
 (zH (zUc x0 x2 x3) (r1,0)).bind fun r9=>
 ja r9
def zUd(x0:Int)(x1:jh)(s1:(jg)×Int):Option ((jg×Int)⊕jg):=
 cond (decide (s1.2<(x1.length:Int))) (
  (ixO x1 s1.2).bind fun v2=>
  (f_B v2).bind fun r3=>
  cond (decide (r3<(s1.1.length:Int))) (
   (ixO s1.1 r3).bind fun v4=>
   cond (v4 != 0) (
    (ixO s1.1 r3).bind fun v5=>
    (rng (x0-v5)).bind fun v6=>
    (ixO x1 s1.2).bind fun v7=>
    (f_x x0 s1.1 v6 v7).bind fun r8=>
    (rng (s1.2+1)).bind fun v9=>
    ja (.inl (r8,v9))) (
    (rng (s1.2+1)).bind fun v10=>
    ja (.inl (s1.1,v10)))) (
   (rng (s1.2+1)).bind fun v11=>
   ja (.inl (s1.1,v11)))) (
  ja (.inr s1.1))
def f_X(x0:Int)(x1:jh)(x2:jg):Option jg:=
 (f_z x2).bind fun r1=>
 (zH (zUd x0 x1) (r1,0)).bind fun r12=>
 ja r12
def zMA(x0:Int)(x1:Int)(s1:Int):Option (Int⊕(Unit⊕Int)):=
 cond (decide (s1<x1)) (
  (zUb x0 x1).bind fun r1=>
  (rng (r1*s1)).bind fun v2=>
  (vS v2 x1).bind fun v3=>
  cond (v3==1) (
   ja (.inr (.inr s1))) (
   (rng (s1+1)).bind fun v4=>
   ja (.inl v4))) (
  ja (.inr (.inl ())))
def zVJ(x0:Int)(x1:Int):Option Int:=
 (zH (zMA x0 x1) 1).bind fun r5=>
 match r5 with
 |(.inl r5)=>
  ja 0
 |(.inr r5)=>
  ja r5
def zVK(x0:Int)(x1:Int)(x2:jg):Option jg:=
 (yY (x2.length:Int)).bind fun m1=>
 (f_x x0 (J1 m1 (0:Int)) x1 x2).bind fun r2=>
 ja r2
def zIH(x0:Int)(s5:(jh)×Int)(r3:Int)(r7:(jg))(s6:(jh)×Bool×Int):Option ((jh×Bool×Int)⊕(jh×Bool)):=
 cond (decide (s6.2.2<(s5.1.length:Int))) (
  cond (!s6.2.1) (
   (ixO s5.1 s6.2.2).bind fun v8=>
   (f_B v8).bind fun r9=>
   cond (decide (r9> r3)) (
    (xK s6.1 [r7]).bind fun v10=>
    (ixO s5.1 s6.2.2).bind fun v11=>
    (ixO s5.1 s6.2.2).bind fun v12=>
    (ixO v12 r3).bind fun v13=>
    (rng (x0-v13)).bind fun v14=>
    (f_x x0 v11 v14 r7).bind fun r15=>
    (xK v10 [r15]).bind fun v16=>
    (rng (s6.2.2+1)).bind fun v17=>
    ja (.inl (v16,jc,v17))) (
    (ixO s5.1 s6.2.2).bind fun v18=>
    (ixO s5.1 s6.2.2).bind fun v19=>
    (ixO v19 r3).bind fun v20=>
    (rng (x0-v20)).bind fun v21=>
    (f_x x0 v18 v21 r7).bind fun r22=>
    (xK s6.1 [r22]).bind fun v23=>
    (rng (s6.2.2+1)).bind fun v24=>
    ja (.inl (v23,s6.2.1,v24)))) (
   (ixO s5.1 s6.2.2).bind fun v25=>
   (ixO s5.1 s6.2.2).bind fun v26=>
   (ixO v26 r3).bind fun v27=>
   (rng (x0-v27)).bind fun v28=>
   (f_x x0 v25 v28 r7).bind fun r29=>
   (xK s6.1 [r29]).bind fun v30=>
   (rng (s6.2.2+1)).bind fun v31=>
   ja (.inl (v30,s6.2.1,v31)))) (
  ja (.inr (s6.1,s6.2.1)))
def zQF(x0:Int)(x1:jh)(s5:(jh)×Int):Option ((jh×Int)⊕jh):=
 cond (decide (s5.2<(x1.length:Int))) (
  (ixO x1 s5.2).bind fun v1=>
  (f_X x0 s5.1 v1).bind fun r2=>
  (f_B r2).bind fun r3=>
  cond (r3==(r2.length:Int)) (
   (rng (s5.2+1)).bind fun v4=>
   ja (.inl (s5.1,v4))) (
   (ixO r2 r3).bind fun v5=>
   (zVJ v5 x0).bind fun r6=>
   (zVK x0 r6 r2).bind fun r7=>
   (zH (zIH x0 s5 r3 r7) ([],jd,0)).bind fun r32=>
   cond (!r32.2) (
    (xK r32.1 [r7]).bind fun v33=>
    (rng (s5.2+1)).bind fun v34=>
    ja (.inl (v33,v34))) (
    (rng (s5.2+1)).bind fun v35=>
    ja (.inl (r32.1,v35))))) (
  ja (.inr s5.1))
def f_p(x0:Int)(x1:jh):Option jh:=
 (zH (zQF x0 x1) ([],0)).bind fun r36=>
 ja r36
def zMB(x1:jh)(r1:(jh))(s1:(jh)×Int):Option ((jh×Int)⊕jh):=
 cond (decide (s1.2<(x1.length:Int))) (
  (ixO x1 s1.2).bind fun v2=>
  (f_z v2).bind fun r3=>
  (ixO r1 s1.2).bind fun v4=>
  (xK r3 v4).bind fun v5=>
  (xK s1.1 [v5]).bind fun v6=>
  (rng (s1.2+1)).bind fun v7=>
  ja (.inl (v6,v7))) (
  ja (.inr s1.1))
def zVL(x0:Int)(x1:jh):Option jh:=
 (f_J (x1.length:Int)).bind fun r1=>
 (zH (zMB x1 r1) ([],0)).bind fun r8=>
 (f_p x0 r8).bind fun r9=>
 ja r9
def zQG(x2:Int)(r1:(jh))(s1:(jh)×Int):Option ((jh×Int)⊕jh):=
 cond (decide (s1.2<(r1.length:Int))) (
  (ixO r1 s1.2).bind fun v2=>
  (f_B v2).bind fun r3=>
  cond (decide (r3≥x2)) (
   (ixO r1 s1.2).bind fun v4=>
   (yA v4 x2 v4.length).bind fun v5=>
   (f_z v5).bind fun r6=>
   (xK s1.1 [r6]).bind fun v7=>
   (rng (s1.2+1)).bind fun v8=>
   ja (.inl (v7,v8))) (
   (rng (s1.2+1)).bind fun v9=>
   ja (.inl (s1.1,v9)))) (
  ja (.inr s1.1))
def f_Y(x0:Int)(x1:jh)(x2:Int):Option jh:=
 (zVL x0 x1).bind fun r1=>
 (zH (zQG x2 r1) ([],0)).bind fun r10=>
 ja r10
def zUe(x0:SPr):Option Int:=
 (rng ((x0.zA.length:Int)-1)).bind fun v1=>
 (rng ((x0.zA.length:Int)*v1)).bind fun v2=>
 (uM v2 2).bind fun v3=>
 (rng ((x0.zA.length:Int)+v3)).bind fun v4=>
 ja v4
def zY9(x0:Int)(x1:Int)(x2:Int):Option Int:=
 (rng (x1*x0)).bind fun v1=>
 (rng (x0+v1)).bind fun v2=>
 (rng (x1+1)).bind fun v3=>
 (rng (x1*v3)).bind fun v4=>
 (uM v4 2).bind fun v5=>
 (rng (v2-v5)).bind fun v6=>
 (rng (v6+x2)).bind fun v7=>
 (rng (v7-x1)).bind fun v8=>
 (rng (v8-1)).bind fun v9=>
 ja v9
def zUf(x0:SPr):Option Int:=
 (rng ((x0.zA.length:Int)+1)).bind fun v1=>
 (rng ((x0.zA.length:Int)*v1)).bind fun v2=>
 (uM v2 2).bind fun v3=>
 ja v3
def zQH(x0:jg)(x1:Int)(s1:(jh)×Int):Option ((jh×Int)⊕jh):=
 cond (decide (s1.2<(x0.length:Int))) (
  (rng (s1.2+x1)).bind fun v1=>
  (yA x0 s1.2 v1).bind fun v2=>
  (f_H v2).bind fun r3=>
  (xK s1.1 [r3]).bind fun v4=>
  (rng (s1.2+x1)).bind fun v5=>
  ja (.inl (v4,v5))) (
  ja (.inr s1.1))
def f_S(x0:jg)(x1:Int):Option jh:=
 (zH (zQH x0 x1) ([],0)).bind fun r6=>
 ja r6
def zMC(x0:zG)(x1:jh)(x2:jg)(x3:Int):Option jg:=
 (ixO x0.zR x3).bind fun v1=>
 (f_u x0.Prime x2 v1 x0.Dim).bind fun r2=>
 (ixO x1 x3).bind fun v3=>
 (f_x x0.Prime r2 1 v3).bind fun r4=>
 ja r4
def zUg(x0:zG)(x1:jh)(x3:jg)(s5:(jg)×Int)(s6:(jg)×Int):Option ((jg×Int)⊕jg):=
 (ixO x3 s5.2).bind fun v1=>
 cond (decide (s6.2<v1)) (
  (zMC x0 x1 s6.1 s5.2).bind fun r2=>
  (rng (s6.2+1)).bind fun v3=>
  ja (.inl (r2,v3))) (
  ja (.inr s6.1))
def zUh(x0:zG)(x1:jh)(x3:jg)(s5:(jg)×Int):Option ((jg×Int)⊕jg):=
 cond (decide (s5.2<(x3.length:Int))) (
  (zH (zUg x0 x1 x3 s5) (s5.1,0)).bind fun r4=>
  (rng (s5.2+1)).bind fun v5=>
  ja (.inl (r4,v5))) (
  ja (.inr s5.1))
def f_K(x0:zG)(x1:jh)(x2:jg)(x3:jg):Option jg:=
 (zH (zUh x0 x1 x3) (x2,0)).bind fun r6=>
 ja r6
def zMD(x0:zG)(x1:jh)(x2:jg)(s1:(jg)×Int):Option ((jg×Int)⊕jg):=
 cond (decide (s1.2<(x2.length:Int))) (
  (ixO x2 s1.2).bind fun v2=>
  (rng (v2-1)).bind fun v3=>
  (zTJ x0 v3).bind fun r4=>
  (zTQ s1.1 r4).bind fun r5=>
  (rng (v2-1)).bind fun v6=>
  (ixO x1 v6).bind fun v7=>
  (f_s r5 v7 1 x0.Prime).bind fun r8=>
  (rng (s1.2+1)).bind fun v9=>
  ja (.inl (r8,v9))) (
  ja (.inr s1.1))
def zUi(x0:zG)(x1:jh)(x2:jg):Option jg:=
 (yY x0.Dim).bind fun m1=>
 (zH (zMD x0 x1 x2) (J1 m1 (0:Int),0)).bind fun r10=>
 ja r10
def zME(x1:zG)(x2:jh)(r1:(List (jg×jg)))(s1:(jh)×Int):Option ((jh×Int)⊕jh):=
 cond (decide (s1.2<(r1.length:Int))) (
  (ixO r1 s1.2).bind fun v2=>
  (zUi x1 x2 v2.1).bind fun r3=>
  (zUi x1 x2 v2.2).bind fun r4=>
  (f_s r3 r4 (-1) x1.Prime).bind fun r5=>
  (xK s1.1 [r5]).bind fun v6=>
  (rng (s1.2+1)).bind fun v7=>
  ja (.inl (v6,v7))) (
  ja (.inr s1.1))
def zVM(x0:SPr)(x1:zG)(x2:jh):Option jh:=
 (f_A x0).bind fun r1=>
 (zH (zME x1 x2 r1) ([],0)).bind fun r8=>
 ja r8
def zMF(x0:zZ):Option zJ:=
 cond (decide ((x0.zMS.length:Int)> 0)) (
  (ixO x0.zMS 0).bind fun v1=>
  (yY (x0.p.zA.length:Int)).bind fun m2=>
  (yY (v1.length:Int)).bind fun m3=>
  ja (zJ.mk (J1 m2 (0:Int)) (J1 m3 (0:Int)))) (
  (yY (x0.p.zA.length:Int)).bind fun m4=>
  (yY 0).bind fun m5=>
  ja (zJ.mk (J1 m4 (0:Int)) (J1 m5 (0:Int))))
def f_T(x0:zZ)(x1:Int)(x2:Int):Option zJ:=
 (ixO x0.p.zE x1).bind fun v1=>
 (rng (x2-x1)).bind fun v2=>
 (rng (v2-1)).bind fun v3=>
 (ixO v1 v3).bind fun v4=>
 (zY9 (x0.p.zA.length:Int) x1 x2).bind fun r5=>
 (ixO x0.zMS r5).bind fun v6=>
 ja (zJ.mk v4 v6)
def zMG(x0:zG)(x1:jg)(x2:Int)(s1:(jg)×Int):Option ((jg×Int)⊕jg):=
 cond (decide (s1.2<(x1.length:Int))) (
  (rng (s1.2+x0.Dim)).bind fun v1=>
  (yA x1 s1.2 v1).bind fun v2=>
  (ixO x0.zR x2).bind fun v3=>
  (f_u x0.Prime v2 v3 x0.Dim).bind fun r4=>
  (xK s1.1 r4).bind fun v5=>
  (rng (s1.2+x0.Dim)).bind fun v6=>
  ja (.inl (v5,v6))) (
  ja (.inr s1.1))
def zVN(x0:zG)(x1:jg)(x2:Int):Option jg:=
 (zH (zMG x0 x1 x2) ([],0)).bind fun r7=>
 ja r7
def zOe(x0:zZ)(x1:Int):Option zJ:=
 (ixO x0.p.zT x1).bind fun v1=>
 (ixO x0.zMS x1).bind fun v2=>
 ja (zJ.mk v1 v2)
def zVO(g_d:zZ→Int→zJ→zJ→Option zJ)(x0:zZ)(x1:Int)(x2:zJ)(s5:(jg)×jg×Int)(s6:(jg)×jg×Int):Option ((jg×jg×Int)⊕(jg×jg)):=
 (ixO x2.x s5.2.2).bind fun v3=>
 cond (decide (s6.2.2<v3)) (
  (rng (x1+1)).bind fun v4=>
  (f_T x0 x1 s5.2.2).bind fun r5=>
  (g_d x0 v4 (zJ.mk s6.1 s6.2.1) r5).bind fun r6=>
  (rng (s6.2.2+1)).bind fun v7=>
  ja (.inl (r6.x,r6.v,v7))) (
  ja (.inr (s6.1,s6.2.1)))
def zUj(g_d:zZ→Int→zJ→zJ→Option zJ)(x0:zZ)(x1:Int)(x2:zJ)(s5:(jg)×jg×Int):Option ((jg×jg×Int)⊕(jg×jg)):=
 cond (decide (s5.2.2<(x2.x.length:Int))) (
  (zH (zVO g_d x0 x1 x2 s5) (s5.1,s5.2.1,0)).bind fun r8=>
  (rng (s5.2.2+1)).bind fun v9=>
  ja (.inl (r8.1,r8.2,v9))) (
  ja (.inr (s5.1,s5.2.1)))
def b_h(g_d:zZ→Int→zJ→zJ→Option zJ)(x0:zZ)(x1:Int)(x2:zJ):Option zJ:=
 (zMF x0).bind fun r1=>
 (rng (x1+1)).bind fun v2=>
 (zH (zUj g_d x0 x1 x2) (r1.x,r1.v,v2)).bind fun r10=>
 (zVN x0.m x2.v x1).bind fun r11=>
 (f_x x0.m.Prime r10.2 1 r11).bind fun r12=>
 ja (zJ.mk r10.1 r12)
def zQI(g_h:zZ→Int→zJ→Option zJ)(x0:zZ)(x1:Int)(x3:zJ)(s1:(jg)×jg×Int):Option ((jg×jg×Int)⊕(jg×jg)):=
 (ixO x3.x x1).bind fun v7=>
 cond (decide (s1.2.2<v7)) (
  (g_h x0 x1 (zJ.mk s1.1 s1.2.1)).bind fun r8=>
  (rng (s1.2.2+1)).bind fun v9=>
  ja (.inl (r8.x,r8.v,v9))) (
  ja (.inr (s1.1,s1.2.1)))
def b_d(g_h:zZ→Int→zJ→Option zJ)(g_d:zZ→Int→zJ→zJ→Option zJ)(x0:zZ)(x1:Int)(x2:zJ)(x3:zJ):Option zJ:=
 cond (decide (x1≥(x0.p.zA.length:Int))) (
  (yY (x0.p.zA.length:Int)).bind fun m1=>
  (f_x x0.m.Prime x2.v 1 x3.v).bind fun r2=>
  ja (zJ.mk (J1 m1 (0:Int)) r2)) (
  (f_z x2.x).bind fun r3=>
  (f_z x3.x).bind fun r4=>
  (ixO r3 x1).bind fun _=>
  (ixO r4 x1).bind fun _=>
  (zH (zQI g_h x0 x1 x3) (r3.set x1.toNat 0,x2.v,0)).bind fun r10=>
  (rng (x1+1)).bind fun v11=>
  (g_d x0 v11 (zJ.mk r10.1 r10.2) (zJ.mk (r4.set x1.toNat 0) x3.v)).bind fun r12=>
  (ixO x2.x x1).bind fun v13=>
  (ixO x3.x x1).bind fun v14=>
  (rng (v13+v14)).bind fun v15=>
  (ixO x0.p.zA x1).bind fun v16=>
  cond (decide (v15≥v16)) (
   (ixO x0.p.zA x1).bind fun v17=>
   (rng (v15-v17)).bind fun v18=>
   (rng (x1+1)).bind fun v19=>
   (zOe x0 x1).bind fun r20=>
   (g_d x0 v19 r20 r12).bind fun r21=>
   (f_z r21.x).bind fun r22=>
   (ixO r22 x1).bind fun _=>
   ja (zJ.mk (r22.set x1.toNat v18) r21.v)) (
   (f_z r12.x).bind fun r24=>
   (ixO r24 x1).bind fun _=>
   ja (zJ.mk (r24.set x1.toNat v15) r12.v)))
mutual
def zOf:Nat→zZ→Int→zJ→Option zJ
 |0=>fun _ _ _=>jb
 |n+1=>b_h (zOg n)
def zOg:Nat→zZ→Int→zJ→zJ→Option zJ
 |0=>fun _ _ _ _=>jb
 |n+1=>b_d (zOf n) (zOg n)
end
def f_h(x0:zZ)(x1:Int)(x2:zJ):Option zJ:=zD8 fun n=>zOf n x0 x1 x2
def f_d(x0:zZ)(x1:Int)(x2:zJ)(x3:zJ):Option zJ:=zD8 fun n=>zOg n x0 x1 x2 x3
def zMH(x0:zZ)(x1:zJ)(x2:zJ):Option jg:=
 (rng (x0.m.Prime-1)).bind fun v1=>
 (f_x x0.m.Prime x1.v v1 x2.v).bind fun r2=>
 ja r2
def zQJ(x0:zZ)(x1:Int)(s9:(jh)×Int)(s10:(jg)×jg×Int):Option ((jg×jg×Int)⊕(jg×jg)):=
 (ixO x0.p.zA s9.2).bind fun v3=>
 cond (decide (s10.2.2<v3)) (
  (rng (x1+1)).bind fun v4=>
  (f_T x0 x1 s9.2).bind fun r5=>
  (f_d x0 v4 (zJ.mk s10.1 s10.2.1) r5).bind fun r6=>
  (rng (s10.2.2+1)).bind fun v7=>
  ja (.inl (r6.x,r6.v,v7))) (
  ja (.inr (s10.1,s10.2.1)))
def zQK(x0:zZ)(x1:Int)(s9:(jh)×Int)(s12:(jh)×Int):Option ((jh×Int)⊕jh):=
 cond (decide (s12.2<(x0.p.zA.length:Int))) (
  (f_T x0 x1 s9.2).bind fun r14=>
  (f_T x0 x1 s12.2).bind fun r15=>
  (f_T x0 s9.2 s12.2).bind fun r16=>
  (f_h x0 x1 r16).bind fun r17=>
  (rng (x1+1)).bind fun v18=>
  (f_d x0 v18 r15 r14).bind fun r19=>
  (rng (x1+1)).bind fun v20=>
  (f_d x0 v20 r14 r17).bind fun r21=>
  (zMH x0 r19 r21).bind fun r22=>
  (xK s12.1 [r22]).bind fun v23=>
  (rng (s12.2+1)).bind fun v24=>
  ja (.inl (v23,v24))) (
  ja (.inr s12.1))
def zUk(x0:zZ)(x1:Int)(s9:(jh)×Int):Option ((jh×Int)⊕jh):=
 cond (decide (s9.2<(x0.p.zA.length:Int))) (
  (zMF x0).bind fun r2=>
  (zH (zQJ x0 x1 s9) (r2.x,r2.v,0)).bind fun r8=>
  (zOe x0 s9.2).bind fun r9=>
  (f_h x0 x1 r9).bind fun r10=>
  (zMH x0 (zJ.mk r8.1 r8.2) r10).bind fun r11=>
  (xK s9.1 [r11]).bind fun v12=>
  (rng (s9.2+1)).bind fun v13=>
  (zH (zQK x0 x1 s9) (v12,v13)).bind fun r25=>
  (rng (s9.2+1)).bind fun v26=>
  ja (.inl (r25,v26))) (
  ja (.inr s9.1))
def zUl(x0:zZ)(x1:Int)(s20:(jg)×jg×Int):Option ((jg×jg×Int)⊕(jg×jg)):=
 (ixO x0.p.zA x1).bind fun v35=>
 cond (decide (s20.2.2<v35)) (
  (f_h x0 x1 (zJ.mk s20.1 s20.2.1)).bind fun r36=>
  (rng (s20.2.2+1)).bind fun v37=>
  ja (.inl (r36.x,r36.v,v37))) (
  ja (.inr (s20.1,s20.2.1)))
def zQL(x0:zZ)(x1:Int)(r28:zJ)(s19:(jh)×Int):Option ((jh×Int)⊕jh):=
 cond (decide (s19.2<(x0.p.zA.length:Int))) (
  (zMF x0).bind fun r33=>
  (ixO r33.x s19.2).bind fun _=>
  (zH (zUl x0 x1) (r33.x.set s19.2.toNat 1,r33.v,0)).bind fun r38=>
  (rng (x1+1)).bind fun v39=>
  (f_d x0 v39 r28 (zJ.mk r38.1 r38.2)).bind fun r40=>
  (rng (x1+1)).bind fun v41=>
  (f_d x0 v41 (zJ.mk (r33.x.set s19.2.toNat 1) r33.v) r28).bind fun r42=>
  (zMH x0 r40 r42).bind fun r43=>
  (xK s19.1 [r43]).bind fun v44=>
  (rng (s19.2+1)).bind fun v45=>
  ja (.inl (v44,v45))) (
  ja (.inr s19.1))
def f_l(x0:zZ)(x1:Int):Option jh:=
 (rng (x1+1)).bind fun v1=>
 (zH (zUk x0 x1) ([],v1)).bind fun r27=>
 (zOe x0 x1).bind fun r28=>
 (f_h x0 x1 r28).bind fun r29=>
 (zMH x0 r29 r28).bind fun r30=>
 (xK r27 [r30]).bind fun v31=>
 (rng (x1+1)).bind fun v32=>
 (zH (zQL x0 x1 r28) (v31,v32)).bind fun r46=>
 ja r46
def zQM(x0:zZ)(s1:(jh)×Int):Option ((jh×Int)⊕jh):=
 cond (decide (s1.2<(x0.p.zA.length:Int))) (
  (f_l x0 s1.2).bind fun r1=>
  (xK s1.1 r1).bind fun v2=>
  (rng (s1.2+1)).bind fun v3=>
  ja (.inl (v2,v3))) (
  ja (.inr s1.1))
def f_L(x0:zZ):Option jh:=
 (zH (zQM x0) ([],0)).bind fun r4=>
 ja r4
def zVP(x0:zK)(x1:Int):Option Int:=
 (zTl x0.Rows x1).bind fun r1=>
 cond (decide (r1<0)) (
  ja (-1)) (
  ja r1)
def zOh(x0:zK):Option zK:=
 (zNT x0.Rows).bind fun r1=>
 ja (zK.mk x0.Prime x0.yI r1)
def zMI(x0:zK)(s1:Int):Option (Int⊕(Unit⊕Bool)):=
 cond (decide (s1<(x0.Rows.length:Int))) (
  (ixO x0.Rows s1).bind fun v3=>
  (zV5 x0.Prime x0.yI v3).bind fun r4=>
  cond (!r4) (
   ja (.inr (.inr jd))) (
   (rng (s1+1)).bind fun v5=>
   ja (.inl v5))) (
  ja (.inr (.inl ())))
def zVQ(x0:zK):Option Bool:=
 (zV1 x0.Prime).bind fun r1=>
 cond (!r1) (
  ja jd) (
  (zQ8 x0.yI 0 8).bind fun r2=>
  cond (!r2) (
   ja jd) (
   cond (decide ((x0.Rows.length:Int)> 8)) (
    ja jd) (
    (zH (zMI x0) 0).bind fun r6=>
    match r6 with
    |(.inl r6)=>
     ja jc
    |(.inr r6)=>
     ja r6)))
def zYA(x0:Int)(x1:Int)(x2:jh):Option zK:=
 (f_j x0 x2).bind fun r1=>
 ja (zK.mk x0 x1 r1)
def zVR(x0:Int):Option Bool:=
 ja (x0 != 0)
def zJu(x0:jg)(s1:Int):Option (Int⊕(Unit⊕Int)):=
 cond (decide (s1<(x0.length:Int))) (
  (ixO x0 s1).bind fun v1=>
  (zVR v1).bind fun r2=>
  cond r2 (
   ja (.inr (.inr s1))) (
   (rng (s1+1)).bind fun v3=>
   ja (.inl v3))) (
  ja (.inr (.inl ())))
def zVS(x0:jg):Option Int:=
 (zH (zJu x0) 0).bind fun r4=>
 match r4 with
 |(.inl r4)=>
  ja (-1)
 |(.inr r4)=>
  ja r4
def zMJ(x0:jh)(s1:(jg)×Int):Option ((jg×Int)⊕jg):=
 cond (decide (s1.2<(x0.length:Int))) (
  (ixO x0 s1.2).bind fun v1=>
  (zVS v1).bind fun r2=>
  (xK s1.1 [r2]).bind fun v3=>
  (rng (s1.2+1)).bind fun v4=>
  ja (.inl (v3,v4))) (
  ja (.inr s1.1))
def zVT(x0:jh):Option jg:=
 (zH (zMJ x0) ([],0)).bind fun r5=>
 ja r5
def zJv(x0:zK)(r2:(jg))(s1:(jg)×Int):Option ((jg×Int)⊕jg):=
 cond (decide (s1.2<(r2.length:Int))) (
  (ixO r2 s1.2).bind fun v3=>
  (ixO x0.Rows s1.2).bind fun v4=>
  (ixO s1.1 v3).bind fun v5=>
  (rng (0-v5)).bind fun v6=>
  (f_s s1.1 v4 v6 x0.Prime).bind fun r7=>
  (rng (s1.2+1)).bind fun v8=>
  ja (.inl (r7,v8))) (
  ja (.inr s1.1))
def zVU(x0:zK)(x1:jg):Option jg:=
 (f_H x1).bind fun r1=>
 (zVT x0.Rows).bind fun r2=>
 (zH (zJv x0 r2) (r1,0)).bind fun r9=>
 ja r9
def zVV(x0:zK)(x1:zK):Option Bool:=
 cond (x0.Prime != x1.Prime) (
  ja jd) (
  cond (x0.yI != x1.yI) (
   ja jd) (
   (f_R x0.Rows x1.Rows).bind fun r1=>
   cond (!r1) (
    ja jd) (
    ja jc)))
def zMK(x0:jh)(s1:(jg)×Int):Option ((jg×Int)⊕jg):=
 cond (decide (s1.2<(x0.length:Int))) (
  (ixO x0 s1.2).bind fun v1=>
  (xK s1.1 v1).bind fun v2=>
  (rng (s1.2+1)).bind fun v3=>
  ja (.inl (v2,v3))) (
  ja (.inr s1.1))
def zVW(x0:jh):Option jg:=
 (zH (zMK x0) ([],0)).bind fun r4=>
 ja r4
def zVX(x0:zK)(x1:Int):Option (Int×zK):=
 (f_V x0.Rows x1).bind fun r1=>
 ja (r1.1,(zK.mk x0.Prime x0.yI r1.2))
def zQN(x2:Int)(r2:(jh))(s1:(jh)×Int):Option ((jh×Int)⊕jh):=
 cond (decide (s1.2<(r2.length:Int))) (
  (ixO r2 s1.2).bind fun v3=>
  (yA v3 0 x2).bind fun v4=>
  (f_W v4).bind fun r5=>
  cond r5 (
   (yA v3 x2 v3.length).bind fun v6=>
   (xK s1.1 [v6]).bind fun v7=>
   (rng (s1.2+1)).bind fun v8=>
   ja (.inl (v7,v8))) (
   (rng (s1.2+1)).bind fun v9=>
   ja (.inl (s1.1,v9)))) (
  ja (.inr s1.1))
def f_G(x0:Int)(x1:jh)(x2:Int):Option jh:=
 (zVH x1).bind fun r1=>
 (f_j x0 r1).bind fun r2=>
 (zH (zQN x2 r2) ([],0)).bind fun r10=>
 (f_j x0 r10).bind fun r11=>
 ja r11
def zQO(x0:jg)(x1:Int)(s1:(jh)×Int):Option ((jh×Int)⊕jh):=
 (rng (s1.2+x1)).bind fun v1=>
 cond (decide (v1≤(x0.length:Int))) (
  (rng (s1.2+x1)).bind fun v2=>
  (yA x0 s1.2 v2).bind fun v3=>
  (f_z v3).bind fun r4=>
  (xK s1.1 [r4]).bind fun v5=>
  (rng (s1.2+x1)).bind fun v6=>
  ja (.inl (v5,v6))) (
  ja (.inr s1.1))
def f_Z(x0:jg)(x1:Int):Option jh:=
 (zH (zQO x0 x1) ([],0)).bind fun r7=>
 ja r7
def zUm(x0:SPr)(x1:zG)(x2:jh)(s5:(jh)×Int)(s6:(jg)×Int):Option ((jg×Int)⊕jg):=
 (ixO x0.zA s5.2).bind fun v2=>
 cond (decide (s6.2<v2)) (
  (zMC x1 x2 s6.1 s5.2).bind fun r3=>
  (rng (s6.2+1)).bind fun v4=>
  ja (.inl (r3,v4))) (
  ja (.inr s6.1))
def zUn(x0:SPr)(x1:zG)(x2:jh)(m1:Nat)(s5:(jh)×Int):Option ((jh×Int)⊕jh):=
 cond (decide (s5.2<(x0.zA.length:Int))) (
  (zH (zUm x0 x1 x2 s5) (J1 m1 (0:Int),0)).bind fun r5=>
  (rng (x1.Prime-1)).bind fun v6=>
  (ixO x0.zT s5.2).bind fun v7=>
  (f_K x1 x2 (J1 m1 (0:Int)) v7).bind fun r8=>
  (f_x x1.Prime r5 v6 r8).bind fun r9=>
  (xK s5.1 [r9]).bind fun v10=>
  (rng (s5.2+1)).bind fun v11=>
  ja (.inl (v10,v11))) (
  ja (.inr s5.1))
def zUo(x0:SPr)(x1:zG)(x2:jh)(m1:Nat)(s13:(jh)×Int)(s14:(jh)×Int):Option ((jh×Int)⊕jh):=
 cond (decide (s14.2<(x0.zA.length:Int))) (
  (zMC x1 x2 (J1 m1 (0:Int)) s14.2).bind fun r14=>
  (zMC x1 x2 r14 s13.2).bind fun r15=>
  (zMC x1 x2 (J1 m1 (0:Int)) s13.2).bind fun r16=>
  (ixO x0.zE s13.2).bind fun v17=>
  (rng (s14.2-s13.2)).bind fun v18=>
  (rng (v18-1)).bind fun v19=>
  (ixO v17 v19).bind fun v20=>
  (f_K x1 x2 r16 v20).bind fun r21=>
  (rng (x1.Prime-1)).bind fun v22=>
  (f_x x1.Prime r15 v22 r21).bind fun r23=>
  (xK s14.1 [r23]).bind fun v24=>
  (rng (s14.2+1)).bind fun v25=>
  ja (.inl (v24,v25))) (
  ja (.inr s14.1))
def zQP(x0:SPr)(x1:zG)(x2:jh)(m1:Nat)(s13:(jh)×Int):Option ((jh×Int)⊕jh):=
 cond (decide (s13.2<(x0.zA.length:Int))) (
  (rng (s13.2+1)).bind fun v13=>
  (zH (zUo x0 x1 x2 m1 s13) (s13.1,v13)).bind fun r26=>
  (rng (s13.2+1)).bind fun v27=>
  ja (.inl (r26,v27))) (
  ja (.inr s13.1))
def f_q(x0:SPr)(x1:zG)(x2:jh):Option jh:=
 (yY x1.Dim).bind fun m1=>
 (zH (zUn x0 x1 x2 m1) ([],0)).bind fun r12=>
 (zH (zQP x0 x1 x2 m1) (r12,0)).bind fun r28=>
 ja r28
def zML(x0:SPr)(x1:zG)(v1:Int)(s1:(jh)×Int):Option ((jh×Int)⊕jh):=
 cond (decide (s1.2<v1)) (
  (yY v1).bind fun m2=>
  (ixO (J1 m2 (0:Int)) s1.2).bind fun _=>
  (f_Z ((J1 m2 (0:Int)).set s1.2.toNat 1) x1.Dim).bind fun r4=>
  (f_q x0 x1 r4).bind fun r5=>
  (zVW r5).bind fun r6=>
  (xK s1.1 [r6]).bind fun v7=>
  (rng (s1.2+1)).bind fun v8=>
  ja (.inl (v7,v8))) (
  ja (.inr s1.1))
def zVY(x0:SPr)(x1:zG):Option jh:=
 (rng ((x0.zA.length:Int)*x1.Dim)).bind fun v1=>
 (zH (zML x0 x1 v1) ([],0)).bind fun r9=>
 ja r9
def zUp(x0:SPr)(x1:zG):Option jh:=
 (zVY x0 x1).bind fun r1=>
 (f_p x1.Prime r1).bind fun r2=>
 ja r2
def zMM(x0:SPr)(x1:zG)(v1:Int)(s1:(jh)×Int):Option ((jh×Int)⊕jh):=
 cond (decide (s1.2<v1)) (
  (zM0 v1 s1.2).bind fun r2=>
  (f_S r2 x1.Dim).bind fun r3=>
  (zVM x0 x1 r3).bind fun r4=>
  (f_v r4).bind fun r5=>
  (xK s1.1 [r5]).bind fun v6=>
  (rng (s1.2+1)).bind fun v7=>
  ja (.inl (v6,v7))) (
  ja (.inr s1.1))
def zUq(x0:SPr)(x1:zG):Option jh:=
 (rng ((x0.zA.length:Int)*x1.Dim)).bind fun v1=>
 (zH (zMM x0 x1 v1) ([],0)).bind fun r8=>
 ja r8
def zUr(x0:SPr)(x1:zG)(x2:jg):Option jh:=
 (zUq x0 x1).bind fun r1=>
 (zYA x1.Prime x1.Dim r1).bind fun r2=>
 (zVU r2 x2).bind fun r3=>
 (f_S r3 x1.Dim).bind fun r4=>
 ja r4
structure zL where
 Word:jg
 Left:jg
 zWZ:jg
abbrev zF(x:zL):T:=.agg [(L 1 I) x.Word,(L 1 I) x.Left,(L 1 I) x.zWZ]
instance:Enc zF:=.of fun _=>zNg ⟨Enc.t (f:=(L 1 I)) inferInstance _,Enc.t (f:=(L 1 I)) inferInstance _,Enc.t (f:=(L 1 I)) inferInstance _,trivial⟩
structure xR where
 p:SPr
 m:zG
 sums:List zK
abbrev zJw(x:xR):T:=.agg [(Pt yO) x.p,(Pt zV) x.m,(L 3 zP) x.sums]
instance:Enc zJw:=.of fun _=>zNg ⟨Enc.t (f:=(Pt yO)) inferInstance _,Enc.t (f:=(Pt zV)) inferInstance _,Enc.t (f:=(L 3 zP)) inferInstance _,trivial⟩
def zQQ(x1:zG)(s5:(jh)×Int)(s6:(jg)×Int):Option ((jg×Int)⊕jg):=
 cond (decide (s6.2<x1.Dim)) (
  (rng (s5.2*x1.Dim)).bind fun v5=>
  (rng (v5+s6.2)).bind fun v6=>
  (rng (v6*x1.Dim)).bind fun v7=>
  (rng (v7+s6.2)).bind fun v8=>
  (ixO s6.1 v8).bind fun _=>
  (rng (s6.2+1)).bind fun v10=>
  ja (.inl (s6.1.set v8.toNat 1,v10))) (
  ja (.inr s6.1))
def zUs(x1:zG)(r1:Int)(v2:Int)(s5:(jh)×Int):Option ((jh×Int)⊕jh):=
 cond (decide (s5.2<r1)) (
  (rng (v2*x1.Dim)).bind fun v3=>
  (yY v3).bind fun m4=>
  (zH (zQQ x1 s5) (J1 m4 (0:Int),0)).bind fun r11=>
  (xK s5.1 [r11]).bind fun v12=>
  (rng (s5.2+1)).bind fun v13=>
  ja (.inl (v12,v13))) (
  ja (.inr s5.1))
def zQR(x1:zG)(r15:(jh))(s13:(jh)×Int)(s14:(jg)×Int):Option ((jg×Int)⊕jg):=
 cond (decide (s14.2<(r15.length:Int))) (
  (ixO r15 s14.2).bind fun v16=>
  (rng (s13.2*x1.Dim)).bind fun v17=>
  (rng (s13.2+1)).bind fun v18=>
  (rng (v18*x1.Dim)).bind fun v19=>
  (yA v16 v17 v19).bind fun v20=>
  (xK s14.1 v20).bind fun v21=>
  (rng (s14.2+1)).bind fun v22=>
  ja (.inl (v21,v22))) (
  ja (.inr s14.1))
def zUt(x1:zG)(v2:Int)(r15:(jh))(s13:(jh)×Int):Option ((jh×Int)⊕jh):=
 cond (decide (s13.2<v2)) (
  (zH (zQR x1 r15 s13) ([],0)).bind fun r23=>
  (xK s13.1 [r23]).bind fun v24=>
  (rng (s13.2+1)).bind fun v25=>
  ja (.inl (v24,v25))) (
  ja (.inr s13.1))
def f_m(x0:SPr)(x1:zG):Option jh:=
 (zUe x0).bind fun r1=>
 (rng (r1*x1.Dim)).bind fun v2=>
 (zH (zUs x1 r1 v2) ([],0)).bind fun r14=>
 (f_L (zZ.mk x0 x1 r14)).bind fun r15=>
 (zH (zUt x1 v2 r15) ([],0)).bind fun r26=>
 (rng ((r15.length:Int)*x1.Dim)).bind fun v27=>
 (f_Y x1.Prime r26 v27).bind fun r28=>
 ja r28
def zOi(x0:SPr)(x1:jg)(x2:Int):Option jg:=
 (rng (x2+1)).bind fun v1=>
 cond (decide (v1<(x1.length:Int))) (
  (ixO x1 x2).bind fun v2=>
  (rng (x2+1)).bind fun v3=>
  (ixO x1 v3).bind fun v4=>
  cond (decide (v2> v4)) (
   (ixO x1 x2).bind fun v5=>
   (rng (v5-1)).bind fun v6=>
   (rng (x2+1)).bind fun v7=>
   (ixO x1 v7).bind fun v8=>
   (rng (v8-1)).bind fun v9=>
   (yA x1 0 x2).bind fun v10=>
   (rng (v9+1)).bind fun v11=>
   (ixO x0.zE v9).bind fun v12=>
   (rng (v6-v9)).bind fun v13=>
   (rng (v13-1)).bind fun v14=>
   (ixO v12 v14).bind fun v15=>
   (f_w v15).bind fun r16=>
   (rng (x2+2)).bind fun v17=>
   (yA x1 v17 x1.length).bind fun v18=>
   (f_v [v10,[v11],r16,v18]).bind fun r19=>
   ja r19) (
   (ixO x1 x2).bind fun v20=>
   (rng (v20-1)).bind fun v21=>
   (yA x1 0 x2).bind fun v22=>
   (ixO x0.zT v21).bind fun v23=>
   (f_w v23).bind fun r24=>
   (ixO x0.zA v21).bind fun v25=>
   (rng (x2+v25)).bind fun v26=>
   (yA x1 v26 x1.length).bind fun v27=>
   (f_v [v22,r24,v27]).bind fun r28=>
   ja r28)) (
  (ixO x1 x2).bind fun v2=>
  (rng (v2-1)).bind fun v3=>
  (yA x1 0 x2).bind fun v4=>
  (ixO x0.zT v3).bind fun v5=>
  (f_w v5).bind fun r6=>
  (ixO x0.zA v3).bind fun v7=>
  (rng (x2+v7)).bind fun v8=>
  (yA x1 v8 x1.length).bind fun v9=>
  (f_v [v4,r6,v9]).bind fun r10=>
  ja r10)
def f_Q(x0:jg)(x1:Int)(x2:List zL)(x3:SPr):Option (List zL):=
 (zOi x3 x0 0).bind fun r1=>
 (zOi x3 x0 x1).bind fun r2=>
 (xK x2 [(zL.mk x0 r1 r2)]).bind fun v3=>
 ja v3
def zMN(x0:Int)(x1:Int):Option jg:=
 (f_i [x0] x1).bind fun r1=>
 ja r1
def zQS(x0:SPr)(s17:(List zL)×Int)(s22:(List zL)×Int)(s23:(List zL)×Int):Option (((List zL)×Int)⊕(List zL)):=
 cond (decide (s23.2≤(x0.zA.length:Int))) (
  (f_Q [s23.2,s22.2,s17.2] 1 s23.1 x0).bind fun r3=>
  (rng (s23.2+1)).bind fun v4=>
  ja (.inl (r3,v4))) (
  ja (.inr s23.1))
def zQT(x0:SPr)(s17:(List zL)×Int)(s22:(List zL)×Int):Option (((List zL)×Int)⊕(List zL)):=
 cond (decide (s22.2≤(x0.zA.length:Int))) (
  (rng (s22.2+1)).bind fun v2=>
  (zH (zQS x0 s17 s22) (s22.1,v2)).bind fun r5=>
  (rng (s22.2+1)).bind fun v6=>
  ja (.inl (r5,v6))) (
  ja (.inr s22.1))
def zQU(x0:SPr)(s17:(List zL)×Int):Option (((List zL)×Int)⊕(List zL)):=
 cond (decide (s17.2≤(x0.zA.length:Int))) (
  (rng (s17.2+1)).bind fun v1=>
  (zH (zQT x0 s17) (s17.1,v1)).bind fun r7=>
  (rng (s17.2+1)).bind fun v8=>
  ja (.inl (r7,v8))) (
  ja (.inr s17.1))
def zQV(x0:SPr)(s31:(List zL)×Int)(s32:(List zL)×Int):Option (((List zL)×Int)⊕(List zL)):=
 cond (decide (s32.2≤(x0.zA.length:Int))) (
  (rng (s32.2-1)).bind fun v11=>
  (ixO x0.zA v11).bind fun v12=>
  (zMN s32.2 v12).bind fun r13=>
  (xK r13 [s31.2]).bind fun v14=>
  (rng (s32.2-1)).bind fun v15=>
  (ixO x0.zA v15).bind fun v16=>
  (rng (v16-1)).bind fun v17=>
  (f_Q v14 v17 s32.1 x0).bind fun r18=>
  (rng (s32.2+1)).bind fun v19=>
  ja (.inl (r18,v19))) (
  ja (.inr s32.1))
def zQW(x0:SPr)(s31:(List zL)×Int):Option (((List zL)×Int)⊕(List zL)):=
 cond (decide (s31.2≤(x0.zA.length:Int))) (
  (rng (s31.2+1)).bind fun v10=>
  (zH (zQV x0 s31) (s31.1,v10)).bind fun r20=>
  (rng (s31.2+1)).bind fun v21=>
  ja (.inl (r20,v21))) (
  ja (.inr s31.1))
def zQX(x0:SPr)(s39:(List zL)×Int)(s40:(List zL)×Int):Option (((List zL)×Int)⊕(List zL)):=
 cond (decide (s40.2≤(x0.zA.length:Int))) (
  (rng (s39.2-1)).bind fun v24=>
  (ixO x0.zA v24).bind fun v25=>
  (zMN s39.2 v25).bind fun r26=>
  (xK [s40.2] r26).bind fun v27=>
  (f_Q v27 1 s40.1 x0).bind fun r28=>
  (rng (s40.2+1)).bind fun v29=>
  ja (.inl (r28,v29))) (
  ja (.inr s40.1))
def zQY(x0:SPr)(s39:(List zL)×Int):Option (((List zL)×Int)⊕(List zL)):=
 cond (decide (s39.2≤(x0.zA.length:Int))) (
  (rng (s39.2+1)).bind fun v23=>
  (zH (zQX x0 s39) (s39.1,v23)).bind fun r30=>
  (rng (s39.2+1)).bind fun v31=>
  ja (.inl (r30,v31))) (
  ja (.inr s39.1))
def zQZ(x0:SPr)(s43:(List zL)×Int):Option (((List zL)×Int)⊕(List zL)):=
 cond (decide (s43.2≤(x0.zA.length:Int))) (
  (rng (s43.2-1)).bind fun v33=>
  (ixO x0.zA v33).bind fun v34=>
  (rng (v34+1)).bind fun v35=>
  (zMN s43.2 v35).bind fun r36=>
  (f_Q r36 1 s43.1 x0).bind fun r37=>
  (rng (s43.2+1)).bind fun v38=>
  ja (.inl (r37,v38))) (
  ja (.inr s43.1))
def f_e(x0:SPr):Option (List zL):=
 (zH (zQU x0) ([],1)).bind fun r9=>
 (zH (zQW x0) (r9,1)).bind fun r22=>
 (zH (zQY x0) (r22,1)).bind fun r32=>
 (zH (zQZ x0) (r32,1)).bind fun r39=>
 ja r39
def zVZ(x0:xR)(x1:jg)(x2:Int):Option Int:=
 (rng (x2+1)).bind fun v1=>
 cond (decide (v1<(x1.length:Int))) (
  (ixO x1 x2).bind fun v2=>
  (rng (x2+1)).bind fun v3=>
  (ixO x1 v3).bind fun v4=>
  cond (decide (v2> v4)) (
   (ixO x1 x2).bind fun v5=>
   (rng (v5-1)).bind fun v6=>
   (rng (x2+1)).bind fun v7=>
   (ixO x1 v7).bind fun v8=>
   (rng (v8-1)).bind fun v9=>
   (rng ((x0.p.zA.length:Int)-1)).bind fun v10=>
   (rng (v9*v10)).bind fun v11=>
   (rng ((x0.p.zA.length:Int)+v11)).bind fun v12=>
   (rng (v9-1)).bind fun v13=>
   (rng (v9*v13)).bind fun v14=>
   (uM v14 2).bind fun v15=>
   (rng (v12-v15)).bind fun v16=>
   (rng (v16+v6)).bind fun v17=>
   (rng (v17-v9)).bind fun v18=>
   (rng (v18-1)).bind fun v19=>
   ja v19) (
   (ixO x1 x2).bind fun v20=>
   (rng (v20-1)).bind fun v21=>
   ja v21)) (
  (ixO x1 x2).bind fun v2=>
  (rng (v2-1)).bind fun v3=>
  ja v3)
def zUu(x0:xR)(x3:Int)(r1:Int)(r9:zK)(s1:(List zK)×Int):Option (((List zK)×Int)⊕(List zK)):=
 cond (decide (s1.2<(r9.Rows.length:Int))) (
  (ixO r9.Rows s1.2).bind fun v10=>
  (ixO s1.1 r1).bind fun v11=>
  (ixO v11.Rows s1.2).bind fun v12=>
  (f_s v12 v10 x3 x0.m.Prime).bind fun r13=>
  (rng (s1.2+1)).bind fun v14=>
  ja (.inl (s1.1.set r1.toNat (zK.mk v11.Prime v11.yI (v11.Rows.set s1.2.toNat r13)),v14))) (
  ja (.inr s1.1))
def zUv(x0:xR)(x3:Int)(r1:Int)(r12:zK)(s3:(List zK)×Int):Option (((List zK)×Int)⊕(List zK)):=
 cond (decide (s3.2<(r12.Rows.length:Int))) (
  (ixO r12.Rows s3.2).bind fun v13=>
  (ixO s3.1 r1).bind fun v14=>
  (ixO v14.Rows s3.2).bind fun v15=>
  (f_s v15 v13 x3 x0.m.Prime).bind fun r16=>
  (rng (s3.2+1)).bind fun v17=>
  ja (.inl (s3.1.set r1.toNat (zK.mk v14.Prime v14.yI (v14.Rows.set s3.2.toNat r16)),v17))) (
  ja (.inr s3.1))
def zUw(x0:xR)(x3:Int)(r1:Int)(r21:zK)(s5:(List zK)×Int):Option (((List zK)×Int)⊕(List zK)):=
 cond (decide (s5.2<(r21.Rows.length:Int))) (
  (ixO r21.Rows s5.2).bind fun v22=>
  (ixO s5.1 r1).bind fun v23=>
  (ixO v23.Rows s5.2).bind fun v24=>
  (f_s v24 v22 x3 x0.m.Prime).bind fun r25=>
  (rng (s5.2+1)).bind fun v26=>
  ja (.inl (s5.1.set r1.toNat (zK.mk v23.Prime v23.yI (v23.Rows.set s5.2.toNat r25)),v26))) (
  ja (.inr s5.1))
def f_k(x0:xR)(x1:jg)(x2:Int)(x3:Int):Option (jg×xR):=
 (zVZ x0 x1 x2).bind fun r1=>
 (zOi x0.p x1 x2).bind fun r2=>
 (rng (x2+1)).bind fun v3=>
 cond (decide (v3≥(x1.length:Int))) (
  (ixO x1 x2).bind fun v4=>
  (rng (v4-1)).bind fun v5=>
  (ixO x0.p.zA v5).bind fun v6=>
  (rng (x2+v6)).bind fun v7=>
  (yA x1 v7 x1.length).bind fun v8=>
  (f_N x0.m v8).bind fun r9=>
  (zH (zUu x0 x3 r1 r9) (x0.sums,0)).bind fun r15=>
  ja (r2,(xR.mk x0.p x0.m r15))) (
  (ixO x1 x2).bind fun v4=>
  (rng (x2+1)).bind fun v5=>
  (ixO x1 v5).bind fun v6=>
  cond (decide (v4≤v6)) (
   (ixO x1 x2).bind fun v7=>
   (rng (v7-1)).bind fun v8=>
   (ixO x0.p.zA v8).bind fun v9=>
   (rng (x2+v9)).bind fun v10=>
   (yA x1 v10 x1.length).bind fun v11=>
   (f_N x0.m v11).bind fun r12=>
   (zH (zUv x0 x3 r1 r12) (x0.sums,0)).bind fun r18=>
   ja (r2,(xR.mk x0.p x0.m r18))) (
   (rng (x2+2)).bind fun v19=>
   (yA x1 v19 x1.length).bind fun v20=>
   (f_N x0.m v20).bind fun r21=>
   (zH (zUw x0 x3 r1 r21) (x0.sums,0)).bind fun r27=>
   ja (r2,(xR.mk x0.p x0.m r27))))
def zOj(x1:jg)(x2:Int)(v10:jg)(s1:Int):Option (Int⊕(Unit⊕Bool)):=
 cond (decide (s1<(v10.length:Int))) (
  (ixO v10 s1).bind fun v11=>
  (ixO x1 x2).bind fun v12=>
  cond (v11 != v12) (
   ja (.inr (.inr jd))) (
   (rng (s1+1)).bind fun v13=>
   ja (.inl v13))) (
  ja (.inr (.inl ())))
def zOl(x1:jg)(x2:Int)(v7:jg)(s3:Int):Option (Int⊕(Unit⊕Bool)):=
 cond (decide (s3<(v7.length:Int))) (
  (ixO v7 s3).bind fun v8=>
  (ixO x1 x2).bind fun v9=>
  cond (v8 != v9) (
   ja (.inr (.inr jd))) (
   (rng (s3+1)).bind fun v10=>
   ja (.inl v10))) (
  ja (.inr (.inl ())))
def f_C(x0:SPr)(x1:jg)(x2:Int):Option Bool:=
 (rng (x2+1)).bind fun v1=>
 cond (decide (v1<(x1.length:Int))) (
  (ixO x1 x2).bind fun v2=>
  (rng (x2+1)).bind fun v3=>
  (ixO x1 v3).bind fun v4=>
  cond (decide (v2> v4)) (
   ja jc) (
   (ixO x1 x2).bind fun v5=>
   (rng (v5-1)).bind fun v6=>
   (ixO x0.zA v6).bind fun v7=>
   (rng (x2+v7)).bind fun v8=>
   cond (decide (v8> (x1.length:Int))) (
    ja jd) (
    (rng (x2+v7)).bind fun v9=>
    (yA x1 x2 v9).bind fun v10=>
    (zH (zOj x1 x2 v10) 0).bind fun r14=>
    match r14 with
    |(.inl r14)=>
     ja jc
    |(.inr r14)=>
     ja r14))) (
  (ixO x1 x2).bind fun v2=>
  (rng (v2-1)).bind fun v3=>
  (ixO x0.zA v3).bind fun v4=>
  (rng (x2+v4)).bind fun v5=>
  cond (decide (v5> (x1.length:Int))) (
   ja jd) (
   (rng (x2+v4)).bind fun v6=>
   (yA x1 x2 v6).bind fun v7=>
   (zH (zOl x1 x2 v7) 0).bind fun r11=>
   match r11 with
   |(.inl r11)=>
    ja jc
   |(.inr r11)=>
    ja r11))
def zUx(x0:SPr)(x1:jg)(s1:Int):Option (Int⊕(Unit⊕Int)):=
 cond (decide (s1<(x1.length:Int))) (
  (f_C x0 x1 s1).bind fun r1=>
  cond r1 (
   ja (.inr (.inr s1))) (
   (rng (s1+1)).bind fun v2=>
   ja (.inl v2))) (
  ja (.inr (.inl ())))
def f_P(x0:SPr)(x1:jg):Option Int:=
 (zH (zUx x0 x1) 0).bind fun r3=>
 match r3 with
 |(.inl r3)=>
  ja (-1)
 |(.inr r3)=>
  ja r3
def zRa(x2:Int)(s1:SPr×zG×(List zK)×jg×Int):Option ((SPr×zG×(List zK)×jg×Int)⊕(SPr×zG×(List zK))):=
 cond (decide (s1.2.2.2.2≥0)) (
  (f_k (xR.mk s1.1 s1.2.1 s1.2.2.1) s1.2.2.2.1 s1.2.2.2.2 x2).bind fun r2=>
  (f_P r2.2.p r2.1).bind fun r3=>
  ja (.inl (r2.2.p,r2.2.m,r2.2.sums,r2.1,r3))) (
  ja (.inr (s1.1,s1.2.1,s1.2.2.1)))
def f_r(x0:xR)(x1:jg)(x2:Int):Option xR:=
 (f_P x0.p x1).bind fun r1=>
 (zH (zRa x2) (x0.p,x0.m,x0.sums,x1,r1)).bind fun r4=>
 ja (xR.mk r4.1 r4.2.1 r4.2.2)
def zRb(r6:zK)(s71:(jh)×Int):Option ((jh×Int)⊕jh):=
 cond (decide (s71.2<(r6.Rows.length:Int))) (
  (ixO s71.1 s71.2).bind fun v7=>
  (ixO v7 s71.2).bind fun _=>
  (rng (s71.2+1)).bind fun v9=>
  ja (.inl (s71.1.set s71.2.toNat (v7.set s71.2.toNat 0),v9))) (
  ja (.inr s71.1))
def zRc(x1:zG)(r1:Int)(s70:(List zK)×Int):Option (((List zK)×Int)⊕(List zK)):=
 cond (decide (s70.2<r1)) (
  (f_M x1.Prime x1.Dim).bind fun r6=>
  (zH (zRb r6) (r6.Rows,0)).bind fun r10=>
  (xK s70.1 [(zK.mk r6.Prime r6.yI r10)]).bind fun v11=>
  (rng (s70.2+1)).bind fun v12=>
  ja (.inl (v11,v12))) (
  ja (.inr s70.1))
def zRd(x1:zG)(s78:(jh)×Int)(v23:zK)(s79:(jh)×Int):Option ((jh×Int)⊕jh):=
 cond (decide (s79.2<(v23.Rows.length:Int))) (
  (ixO v23.Rows s79.2).bind fun v24=>
  (rng (s78.2*x1.Dim)).bind fun v25=>
  (rng (v25+s79.2)).bind fun v26=>
  (ixO s79.1 v26).bind fun v27=>
  (xK v27 v24).bind fun v28=>
  (rng (s79.2+1)).bind fun v29=>
  ja (.inl (s79.1.set v26.toNat v28,v29))) (
  ja (.inr s79.1))
def zMO(x1:zG)(r22:xR)(s78:(jh)×Int):Option ((jh×Int)⊕jh):=
 cond (decide (s78.2<(r22.sums.length:Int))) (
  (ixO r22.sums s78.2).bind fun v23=>
  (zH (zRd x1 s78 v23) (s78.1,0)).bind fun r30=>
  (rng (s78.2+1)).bind fun v31=>
  ja (.inl (r30,v31))) (
  ja (.inr s78.1))
def yA9(x1:zG)(s86:(jh)×Int)(v38:zK)(s87:(jh)×Int):Option ((jh×Int)⊕jh):=
 cond (decide (s87.2<(v38.Rows.length:Int))) (
  (ixO v38.Rows s87.2).bind fun v39=>
  (rng (s86.2*x1.Dim)).bind fun v40=>
  (rng (v40+s87.2)).bind fun v41=>
  (ixO s87.1 v41).bind fun v42=>
  (xK v42 v39).bind fun v43=>
  (rng (s87.2+1)).bind fun v44=>
  ja (.inl (s87.1.set v41.toNat v43,v44))) (
  ja (.inr s87.1))
def zYB(x1:zG)(r37:xR)(s86:(jh)×Int):Option ((jh×Int)⊕jh):=
 cond (decide (s86.2<(r37.sums.length:Int))) (
  (ixO r37.sums s86.2).bind fun v38=>
  (zH (yA9 x1 s86 v38) (s86.1,0)).bind fun r45=>
  (rng (s86.2+1)).bind fun v46=>
  ja (.inl (r45,v46))) (
  ja (.inr s86.1))
def yAA(x1:zG)(s94:(jh)×Int)(v20:zK)(s95:(jh)×Int):Option ((jh×Int)⊕jh):=
 cond (decide (s95.2<(v20.Rows.length:Int))) (
  (ixO v20.Rows s95.2).bind fun v21=>
  (rng (s94.2*x1.Dim)).bind fun v22=>
  (rng (v22+s95.2)).bind fun v23=>
  (ixO s95.1 v23).bind fun v24=>
  (xK v24 v21).bind fun v25=>
  (rng (s95.2+1)).bind fun v26=>
  ja (.inl (s95.1.set v23.toNat v25,v26))) (
  ja (.inr s95.1))
def zYC(x1:zG)(r19:xR)(s94:(jh)×Int):Option ((jh×Int)⊕jh):=
 cond (decide (s94.2<(r19.sums.length:Int))) (
  (ixO r19.sums s94.2).bind fun v20=>
  (zH (yAA x1 s94 v20) (s94.1,0)).bind fun r27=>
  (rng (s94.2+1)).bind fun v28=>
  ja (.inl (r27,v28))) (
  ja (.inr s94.1))
def zRe(x0:SPr)(x1:zG)(r1:Int)(r4:(List zL))(s65:(jh)×Int):Option ((jh×Int)⊕jh):=
 cond (decide (s65.2<(r4.length:Int))) (
  (ixO r4 s65.2).bind fun v5=>
  (zH (zRc x1 r1) ([],0)).bind fun r13=>
  (ixO v5.Word 0).bind fun v14=>
  (ixO v5.Word 1).bind fun v15=>
  cond (v14==v15) (
   (rng ((v5.Word.length:Int)-1)).bind fun v16=>
   (ixO v5.Word v16).bind fun v17=>
   cond (v17 != v14) (
    (rng ((v5.Word.length:Int)-2)).bind fun v18=>
    (f_k (xR.mk x0 x1 r13) v5.Word 0 1).bind fun r19=>
    (f_r r19.2 r19.1 1).bind fun r20=>
    (f_k r20 v5.Word v18 (-1)).bind fun r21=>
    (f_r r21.2 r21.1 (-1)).bind fun r22=>
    (zH (zMO x1 r22) (s65.1,0)).bind fun r32=>
    (rng (s65.2+1)).bind fun v33=>
    ja (.inl (r32,v33))) (
    (f_k (xR.mk x0 x1 r13) v5.Word 0 1).bind fun r34=>
    (f_r r34.2 r34.1 1).bind fun r35=>
    (f_k r35 v5.Word 1 (-1)).bind fun r36=>
    (f_r r36.2 r36.1 (-1)).bind fun r37=>
    (zH (zYB x1 r37) (s65.1,0)).bind fun r47=>
    (rng (s65.2+1)).bind fun v48=>
    ja (.inl (r47,v48)))) (
   (f_k (xR.mk x0 x1 r13) v5.Word 0 1).bind fun r16=>
   (f_r r16.2 r16.1 1).bind fun r17=>
   (f_k r17 v5.Word 1 (-1)).bind fun r18=>
   (f_r r18.2 r18.1 (-1)).bind fun r19=>
   (zH (zYC x1 r19) (s65.1,0)).bind fun r29=>
   (rng (s65.2+1)).bind fun v30=>
   ja (.inl (r29,v30)))) (
  ja (.inr s65.1))
def f_f(x0:SPr)(x1:zG):Option jh:=
 (zUf x0).bind fun r1=>
 (rng (r1*x1.Dim)).bind fun v2=>
 (yY v2).bind fun m3=>
 (f_e x0).bind fun r4=>
 (zH (zRe x0 x1 r1 r4) (J1 m3 ([]:jg),0)).bind fun r31=>
 cond (decide ((r31.length:Int)> 0)) (
  (ixO r31 0).bind fun v32=>
  (f_G x1.Prime r31 (v32.length:Int)).bind fun r33=>
  ja r33) (
  (f_G x1.Prime r31 0).bind fun r34=>
  ja r34)
def zWW(x0:SPr)(s1:Int):Option (Int⊕(Unit⊕Bool)):=
 cond (decide (s1<(x0.zA.length:Int))) (
  (ixO x0.zA s1).bind fun v2=>
  (ixO x0.zA 0).bind fun v3=>
  cond (v2 != v3) (
   ja (.inr (.inr jd))) (
   (rng (s1+1)).bind fun v4=>
   ja (.inl v4))) (
  ja (.inr (.inl ())))
def zWa(x0:SPr):Option Bool:=
 (zTz x0).bind fun r1=>
 cond (!r1) (
  ja jd) (
  cond ((x0.zA.length:Int)==0) (
   ja jd) (
   (zH (zWW x0) 0).bind fun r5=>
   match r5 with
   |(.inl r5)=>
    ja jc
   |(.inr r5)=>
    ja r5))
def zUy(x0:SPr)(s1:Int×Int):Option ((Int×Int)⊕Int):=
 cond (decide (s1.2<(x0.zA.length:Int))) (
  (ixO x0.zA s1.2).bind fun v1=>
  (rng (s1.1*v1)).bind fun v2=>
  (rng (s1.2+1)).bind fun v3=>
  ja (.inl (v2,v3))) (
  ja (.inr s1.1))
def zYD(x0:SPr):Option Int:=
 (zH (zUy x0) (1,0)).bind fun r4=>
 ja r4
def zUz(x0:SPr)(x2:Int)(s1:(List jh)×Int):Option (((List jh)×Int)⊕(List jh)):=
 cond (decide (s1.2<(x0.zA.length:Int))) (
  (f_J x2).bind fun r1=>
  (xK s1.1 [r1]).bind fun v2=>
  (rng (s1.2+1)).bind fun v3=>
  ja (.inl (v2,v3))) (
  ja (.inr s1.1))
def f_U(x0:SPr)(x1:Int)(x2:Int):Option zG:=
 (zH (zUz x0 x2) ([],0)).bind fun r4=>
 ja (zG.mk x1 x2 r4)
def zYE(x0:SPr):Option zG:=
 (ixO x0.zA 0).bind fun v1=>
 (f_U x0 v1 1).bind fun r2=>
 ja r2
def zMP(x1:zG)(r1:(jh))(r2:(jh))(s1:(jh)×Int):Option ((jh×Int)⊕jh):=
 cond (decide (s1.2<(r2.length:Int))) (
  (ixO r2 s1.2).bind fun v3=>
  (f_X x1.Prime r1 v3).bind fun r4=>
  (xK s1.1 [r4]).bind fun v5=>
  (rng (s1.2+1)).bind fun v6=>
  ja (.inl (v5,v6))) (
  ja (.inr s1.1))
def zWb(x0:SPr)(x1:zG):Option jh:=
 (zUp x0 x1).bind fun r1=>
 (f_m x0 x1).bind fun r2=>
 (zH (zMP x1 r1 r2) ([],0)).bind fun r7=>
 (f_p x1.Prime r7).bind fun r8=>
 ja r8
def zWc(x0:SPr):Option jh:=
 (zYE x0).bind fun r1=>
 (zWb x0 r1).bind fun r2=>
 ja r2
def zWX(x0:SPr)(s1:Int):Option (Int⊕(Unit⊕Bool)):=
 cond (decide (s1<(x0.zA.length:Int))) (
  (ixO x0.zA s1).bind fun v2=>
  (ixO x0.zA 0).bind fun v3=>
  cond (v2 != v3) (
   ja (.inr (.inr jd))) (
   (rng (s1+1)).bind fun v4=>
   ja (.inl v4))) (
  ja (.inr (.inl ())))
def zWd(x0:SPr):Option Bool:=
 (zTI x0).bind fun r1=>
 cond (!r1) (
  ja jd) (
  cond ((x0.zA.length:Int)==0) (
   ja jd) (
   (zH (zWX x0) 0).bind fun r5=>
   match r5 with
   |(.inl r5)=>
    ja jc
   |(.inr r5)=>
    ja r5))
def zU0(x0:SPr)(s1:Int×Int):Option ((Int×Int)⊕Int):=
 cond (decide (s1.2<(x0.zA.length:Int))) (
  (ixO x0.zA s1.2).bind fun v1=>
  (rng (s1.1*v1)).bind fun v2=>
  (rng (s1.2+1)).bind fun v3=>
  ja (.inl (v2,v3))) (
  ja (.inr s1.1))
def zYF(x0:SPr):Option Int:=
 (zH (zU0 x0) (1,0)).bind fun r4=>
 ja r4
def zMQ(x0:SPr)(x1:Int)(x2:Int)(s1:(List jh)×Int):Option (((List jh)×Int)⊕(List jh)):=
 cond (decide (s1.2<(x0.zA.length:Int))) (
  (f_M x1 x2).bind fun r1=>
  (xK s1.1 [r1.Rows]).bind fun v2=>
  (rng (s1.2+1)).bind fun v3=>
  ja (.inl (v2,v3))) (
  ja (.inr s1.1))
def zWe(x0:SPr)(x1:Int)(x2:Int):Option zG:=
 (zH (zMQ x0 x1 x2) ([],0)).bind fun r4=>
 ja (zG.mk x1 x2 r4)
def zU1(x0:SPr)(r2:zG)(r3:(jh))(s1:(jh)×Int):Option ((jh×Int)⊕jh):=
 cond (decide (s1.2<(r3.length:Int))) (
  (ixO r3 s1.2).bind fun v4=>
  (zUr x0 r2 v4).bind fun r5=>
  (f_v r5).bind fun r6=>
  (xK s1.1 [r6]).bind fun v7=>
  (rng (s1.2+1)).bind fun v8=>
  ja (.inl (v7,v8))) (
  ja (.inr s1.1))
def zWf(x0:SPr):Option jh:=
 (ixO x0.zA 0).bind fun v1=>
 (zWe x0 v1 1).bind fun r2=>
 (f_f x0 r2).bind fun r3=>
 (zH (zU1 x0 r2 r3) ([],0)).bind fun r9=>
 (f_j r2.Prime r9).bind fun r10=>
 ja r10
def zMR(x0:SPr)(x1:zG)(r2:(jh))(s1:(jh)×Int):Option ((jh×Int)⊕jh):=
 cond (decide (s1.2<(r2.length:Int))) (
  (ixO r2 s1.2).bind fun v3=>
  (zUr x0 x1 v3).bind fun r4=>
  (f_v r4).bind fun r5=>
  (xK s1.1 [r5]).bind fun v6=>
  (rng (s1.2+1)).bind fun v7=>
  ja (.inl (v6,v7))) (
  ja (.inr s1.1))
def zU2(x1:jh)(s5:(jh)×Int)(s6:(jg)×Int):Option ((jg×Int)⊕jg):=
 cond (decide (s6.2<(x1.length:Int))) (
  (ixO x1 s6.2).bind fun v2=>
  (ixO v2 s5.2).bind fun v3=>
  (xK s6.1 [v3]).bind fun v4=>
  (rng (s6.2+1)).bind fun v5=>
  ja (.inl (v4,v5))) (
  ja (.inr s6.1))
def zU3(x0:SPr)(x1:jh)(s5:(jh)×Int):Option ((jh×Int)⊕jh):=
 (zUe x0).bind fun r1=>
 cond (decide (s5.2<r1)) (
  (zH (zU2 x1 s5) ([],0)).bind fun r6=>
  (xK s5.1 [r6]).bind fun v7=>
  (rng (s5.2+1)).bind fun v8=>
  ja (.inl (v7,v8))) (
  ja (.inr s5.1))
def f_E(x0:SPr)(x1:jh):Option jh:=
 (zH (zU3 x0 x1) ([],0)).bind fun r9=>
 ja r9
def zU4(x0:SPr)(x1:zK):Option (jh×Int):=
 (zTz x0).bind fun r1=>
 cond (!r1) (
  ja ([],1)) (
  (zVQ x1).bind fun r2=>
  cond (!r2) (
   ja ([],1)) (
   (zWa x0).bind fun r3=>
   cond (!r3) (
    ja ([],5)) (
    (ixO x0.zA 0).bind fun v4=>
    cond (x1.Prime != v4) (
     ja ([],2)) (
     (zQ8 x1.yI 1 3).bind fun r5=>
     cond (!r5) (
      ja ([],2)) (
      (zYD x0).bind fun r6=>
      cond (decide (r6> 81)) (
       ja ([],3)) (
       (zWc x0).bind fun r7=>
       cond ((x1.Rows.length:Int) != (r7.length:Int)) (
        ja ([],2)) (
        (f_E x0 r7).bind fun r8=>
        (zV6 x1.Prime r8 x1.Rows x1.yI).bind fun r9=>
        ja (r9,0))))))))
def zU5(x1:zK)(r7:(jh))(s5:(jh)×Int)(s6:(jg)×Int):Option ((jg×Int)⊕jg):=
 cond (decide (s6.2<(r7.length:Int))) (
  (ixO r7 s6.2).bind fun v10=>
  (ixO x1.Rows s6.2).bind fun v11=>
  (ixO v10 s5.2).bind fun v12=>
  (f_s s6.1 v11 v12 x1.Prime).bind fun r13=>
  (rng (s6.2+1)).bind fun v14=>
  ja (.inl (r13,v14))) (
  ja (.inr s6.1))
def zRf(x1:zK)(r7:(jh))(r8:Int)(s5:(jh)×Int):Option ((jh×Int)⊕jh):=
 cond (decide (s5.2<r8)) (
  (yY x1.yI).bind fun m9=>
  (zH (zU5 x1 r7 s5) (J1 m9 (0:Int),0)).bind fun r15=>
  (xK s5.1 [r15]).bind fun v16=>
  (rng (s5.2+1)).bind fun v17=>
  ja (.inl (v16,v17))) (
  ja (.inr s5.1))
def f_F(x0:SPr)(x1:zK):Option (jh×Int):=
 (zTI x0).bind fun r1=>
 cond (!r1) (
  ja ([],1)) (
  (zVA x1).bind fun r2=>
  cond (!r2) (
   ja ([],1)) (
   (zWd x0).bind fun r3=>
   cond (!r3) (
    ja ([],5)) (
    (ixO x0.zA 0).bind fun v4=>
    cond (x1.Prime != v4) (
     ja ([],2)) (
     (zNY x1.yI 1 3).bind fun r5=>
     cond (!r5) (
      ja ([],2)) (
      (zYF x0).bind fun r6=>
      cond (decide (r6> 81)) (
       ja ([],3)) (
       (zWf x0).bind fun r7=>
       cond ((x1.Rows.length:Int) != (r7.length:Int)) (
        ja ([],2)) (
        (zUf x0).bind fun r8=>
        (zH (zRf x1 r7 r8) ([],0)).bind fun r18=>
        ja (r18,0))))))))
def zWg(x0:SPr)(x1:zK):Option Bool:=
 (zVz x0 1048576).bind fun r1=>
 cond (decide (r1<0)) (
  ja jc) (
  (zVP x1 r1).bind fun r2=>
  cond (decide (r2<0)) (
   ja jc) (
   (zNU x0).bind fun r3=>
   (zOh x1).bind fun r4=>
   (zU4 r3 r4).bind fun r5=>
   (zNU x0).bind fun r6=>
   (zOh x1).bind fun r7=>
   (f_F r6 r7).bind fun r8=>
   (f_R r8.1 r5.1).bind fun r9=>
   cond (!r9) (
    ja jd) (
    cond (r8.2 != r5.2) (
     ja jd) (
     (zNU x0).bind fun r10=>
     (zVD r6 r10).bind fun r11=>
     cond (!r11) (
      ja jd) (
      (zOh x1).bind fun r12=>
      (zVV r7 r12).bind fun r13=>
      cond (!r13) (
       ja jd) (
       (zVF r6 1).bind fun r14=>
       (zVX r7 r14.1).bind fun r15=>
       cond (decide (r15.1<0)) (
        ja jd) (
        (f_R r8.1 r5.1).bind fun r16=>
        cond (!r16) (
         ja jd) (
         cond (r8.2 != r5.2) (
          ja jd) (
          (f_V r8.1 1).bind fun r17=>
          (zVG r17.2 1).bind fun r18=>
          cond (decide (r18<0)) (
           ja jd) (
           cond (r18 != r17.1) (
            ja jd) (
            (zNU x0).bind fun r19=>
            (zOh x1).bind fun r20=>
            (f_F r19 r20).bind fun r21=>
            (f_R r21.1 r5.1).bind fun r22=>
            cond (!r22) (
             ja jd) (
             cond (r21.2 != r5.2) (
              ja jd) (
              (zVG r17.2 1).bind fun r23=>
              cond (decide (r23<0)) (
               ja jd) (
               cond (r23 != r17.1) (
                ja jd) (
                ja jc)))))))))))))))
end Go.Wk
