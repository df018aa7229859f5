/- The program's MultiplicatorRank returns what the reference's returns,for all arguments;no conditions. -/
import Derived.Test.YtnggaddopliclaaGreatAbC
open List renaming replicate→J1
open Int renaming fdiv→Gy
noncomputable section
namespace Go.Wk
open Go Go.Ab
structure SPr where
 zA:List Int
 zU:List (List Int)
 zF:List (List (List Int))
abbrev yN(x:SPr):T:=.agg [(L 1 I) x.zA,(L 1 (L 1 I)) x.zU,(L 1 (L 1 (L 1 I))) x.zF]
instance:Enc yN:=.of fun _=>zM8 ⟨Enc.t (f:=(L 1 I)) inferInstance _,Enc.t (f:=(L 1 (L 1 I))) inferInstance _,Enc.t (f:=(L 1 (L 1 (L 1 I)))) inferInstance _,trivial⟩
structure zG where
 Prime:Int
 Dim:Int
 zQ:List (List (List Int))
abbrev zV(x:zG):T:=.agg [I x.Prime,I x.Dim,(L 1 (L 1 (L 1 I))) x.zQ]
instance:Enc zV:=.of fun _=>zM8 ⟨Enc.t (f:=I) inferInstance _,Enc.t (f:=I) inferInstance _,Enc.t (f:=(L 1 (L 1 (L 1 I)))) inferInstance _,trivial⟩
structure xI where
 Kind:Int
 zVN:Int
 zVO:Int
 zT7:Int
abbrev zG0(x:xI):T:=.agg [I x.Kind,I x.zVN,I x.zVO,I x.zT7]
instance:Enc zG0:=.of fun _=>zM8 ⟨Enc.t (f:=I) inferInstance _,Enc.t (f:=I) inferInstance _,Enc.t (f:=I) inferInstance _,Enc.t (f:=I) inferInstance _,trivial⟩
structure zS where
 Prime:Int
 xN:Int
 Rows:List (List Int)
abbrev zO(x:zS):T:=.agg [I x.Prime,I x.xN,(L 1 (L 1 I)) x.Rows]
instance:Enc zO:=.of fun _=>zM8 ⟨Enc.t (f:=I) inferInstance _,Enc.t (f:=I) inferInstance _,Enc.t (f:=(L 1 (L 1 I))) inferInstance _,trivial⟩
structure zY where
 p:SPr
 m:zG
 zMt:List (List Int)
structure zH where
 x:List Int
 v:List Int
abbrev yZ(x:zH):T:=.agg [(L 1 I) x.x,(L 1 I) x.v]
instance:Enc yZ:=.of fun _=>zM8 ⟨Enc.t (f:=(L 1 I)) inferInstance _,Enc.t (f:=(L 1 I)) inferInstance _,trivial⟩
def zSq(x0:List Int)(x1:Int):Option Int:=
 (rng (x1-(x0.length:Int))).bind fun v1=>
 cond (decide (v1<0)) (
  some (-1)) (
  some v1)
def zVH(x0:List (List Int))(s1:Int×Int):Option ((Int×Int)⊕(Int⊕Int)):=
 cond (decide (s1.2<(x0.length:Int))) (
  (ixO x0 s1.2).bind fun v2=>
  (zSq v2 s1.1).bind fun r3=>
  cond (decide (r3<0)) (
   some (.inr (.inr (-1)))) (
   (rng (s1.2+1)).bind fun v4=>
   some (.inl (r3,v4)))) (
  some (.inr (.inl s1.1)))
def zUw(x0:List (List Int))(x1:Int):Option Int:=
 (rng (x1-(x0.length:Int))).bind fun v1=>
 cond (decide (v1<0)) (
  some (-1)) (
  (zI (zVH x0) (v1,0)).bind fun r5=>
  match r5 with
  |(.inl r5)=>
   some r5
  |(.inr r5)=>
   some r5)
def zVI(x0:List (List (List Int)))(s1:Int×Int):Option ((Int×Int)⊕(Int⊕Int)):=
 cond (decide (s1.2<(x0.length:Int))) (
  (ixO x0 s1.2).bind fun v2=>
  (zUw v2 s1.1).bind fun r3=>
  cond (decide (r3<0)) (
   some (.inr (.inr (-1)))) (
   (rng (s1.2+1)).bind fun v4=>
   some (.inl (r3,v4)))) (
  some (.inr (.inl s1.1)))
def zXj(x0:List (List (List Int)))(x1:Int):Option Int:=
 (rng (x1-(x0.length:Int))).bind fun v1=>
 cond (decide (v1<0)) (
  some (-1)) (
  (zI (zVI x0) (v1,0)).bind fun r5=>
  match r5 with
  |(.inl r5)=>
   some r5
  |(.inr r5)=>
   some r5)
def zUx(x0:SPr)(x1:Int):Option Int:=
 (zSq x0.zA x1).bind fun r1=>
 cond (decide (r1<0)) (
  some (-1)) (
  (zUw x0.zU r1).bind fun r2=>
  cond (decide (r2<0)) (
   some (-1)) (
   (zXj x0.zF r2).bind fun r3=>
   cond (decide (r3<0)) (
    some (-1)) (
    some r3)))
def zSr(x0:List Int)(s1:(List Int)×Int):Option (((List Int)×Int)⊕(List Int)):=
 cond (decide (s1.2<(x0.length:Int))) (
  (ixO x0 s1.2).bind fun v2=>
  (ixO s1.1 s1.2).bind fun _=>
  (rng (s1.2+1)).bind fun v4=>
  some (.inl (s1.1.set s1.2.toNat v2,v4))) (
  some (.inr s1.1))
def zPJ(x0:List Int):Option (List Int):=
 (xF (x0.length:Int)).bind fun m1=>
 (zI (zSr x0) (J1 m1 (0:Int),0)).bind fun r5=>
 some r5
def zSs(x0:List (List Int))(s1:(List (List Int))×Int):Option (((List (List Int))×Int)⊕(List (List Int))):=
 cond (decide (s1.2<(x0.length:Int))) (
  (ixO x0 s1.2).bind fun v2=>
  (zPJ v2).bind fun r3=>
  (ixO s1.1 s1.2).bind fun _=>
  (rng (s1.2+1)).bind fun v5=>
  some (.inl (s1.1.set s1.2.toNat r3,v5))) (
  some (.inr s1.1))
def zPK(x0:List (List Int)):Option (List (List Int)):=
 (xF (x0.length:Int)).bind fun m1=>
 (zI (zSs x0) (J1 m1 ([]:List Int),0)).bind fun r6=>
 some r6
def zSt(x0:List (List (List Int)))(s1:(List (List (List Int)))×Int):Option (((List (List (List Int)))×Int)⊕(List (List (List Int)))):=
 cond (decide (s1.2<(x0.length:Int))) (
  (ixO x0 s1.2).bind fun v2=>
  (zPK v2).bind fun r3=>
  (ixO s1.1 s1.2).bind fun _=>
  (rng (s1.2+1)).bind fun v5=>
  some (.inl (s1.1.set s1.2.toNat r3,v5))) (
  some (.inr s1.1))
def zUy(x0:List (List (List Int))):Option (List (List (List Int))):=
 (xF (x0.length:Int)).bind fun m1=>
 (zI (zSt x0) (J1 m1 ([]:List (List Int)),0)).bind fun r6=>
 some r6
def zPL(x0:SPr):Option SPr:=
 (zPJ x0.zA).bind fun r1=>
 (zPK x0.zU).bind fun r2=>
 (zUy x0.zF).bind fun r3=>
 some (SPr.mk r1 r2 r3)
def zXk(x0:Int):Option Bool:=
 cond (x0==2) (
  some true) (
  cond (x0==3) (
   some true) (
   cond (x0==5) (
    some true) (
    some (x0==7))))
def zLT(x0:List Int)(s1:Int×Int):Option ((Int×Int)⊕Int):=
 cond (decide (s1.2<(x0.length:Int))) (
  cond (decide (s1.1≤729)) (
   (ixO x0 s1.2).bind fun v1=>
   (rng (s1.1*v1)).bind fun v2=>
   (rng (s1.2+1)).bind fun v3=>
   some (.inl (v2,v3))) (
   (rng (s1.2+1)).bind fun v4=>
   some (.inl (s1.1,v4)))) (
  some (.inr s1.1))
def zUz(x0:List Int):Option Int:=
 (zI (zLT x0) (1,0)).bind fun r5=>
 some r5
def zXl(x0:Int)(x1:Int)(x2:Int):Option Bool:=
 cond (decide (x0≥x1)) (
  some (decide (x0≤x2))) (
  some false)
def zOU(x0:List Int)(x1:List Int)(x2:Int)(s1:Int):Option (Int⊕(Unit⊕Bool)):=
 cond (decide (s1<(x1.length:Int))) (
  (ixO x1 s1).bind fun v1=>
  (ixO x0 s1).bind fun v2=>
  (rng (v2-1)).bind fun v3=>
  (zXl v1 0 v3).bind fun r4=>
  cond (!r4) (
   some (.inr (.inr false))) (
   cond (decide (s1≤x2)) (
    (ixO x1 s1).bind fun v5=>
    cond (v5 != 0) (
     some (.inr (.inr false))) (
     (rng (s1+1)).bind fun v6=>
     some (.inl v6))) (
    (rng (s1+1)).bind fun v5=>
    some (.inl v5)))) (
  some (.inr (.inl ())))
def zSu(x0:List Int)(x1:List Int)(x2:Int):Option Bool:=
 cond ((x1.length:Int) != (x0.length:Int)) (
  some false) (
  (zI (zOU x0 x1 x2) 0).bind fun r6=>
  match r6 with
  |(.inl r6)=>
   some true
  |(.inr r6)=>
   some r6)
def zSv(x0:SPr)(s1:Int):Option (Int⊕(Unit⊕Bool)):=
 cond (decide (s1<(x0.zA.length:Int))) (
  (ixO x0.zA s1).bind fun v1=>
  (zXk v1).bind fun r2=>
  cond (!r2) (
   some (.inr (.inr false))) (
   (rng (s1+1)).bind fun v3=>
   some (.inl v3))) (
  some (.inr (.inl ())))
def zSw(x0:SPr)(s7:Int)(s8:Int):Option (Int⊕(Unit⊕Bool)):=
 (ixO x0.zF s7).bind fun v11=>
 cond (decide (s8<(v11.length:Int))) (
  (ixO x0.zF s7).bind fun v12=>
  (ixO v12 s8).bind fun v13=>
  (zSu x0.zA v13 s7).bind fun r14=>
  cond (!r14) (
   some (.inr (.inr false))) (
   (rng (s8+1)).bind fun v15=>
   some (.inl v15))) (
  some (.inr (.inl ())))
def zNv(x0:SPr)(s7:Int):Option (Int⊕(Unit⊕Bool)):=
 cond (decide (s7<(x0.zA.length:Int))) (
  (ixO x0.zU s7).bind fun v6=>
  (zSu x0.zA v6 s7).bind fun r7=>
  cond (!r7) (
   some (.inr (.inr false))) (
   (ixO x0.zF s7).bind fun v8=>
   (rng ((x0.zA.length:Int)-1)).bind fun v9=>
   (rng (v9-s7)).bind fun v10=>
   cond ((v8.length:Int) != v10) (
    some (.inr (.inr false))) (
    (zI (zSw x0 s7) 0).bind fun r16=>
    match r16 with
    |(.inl r16)=>
     (rng (s7+1)).bind fun v17=>
     some (.inl v17)
    |(.inr r16)=>
     some (.inr (.inr r16))))) (
  some (.inr (.inl ())))
def f_x(x0:SPr):Option Bool:=
 cond (decide ((x0.zA.length:Int)> 6)) (
  some false) (
  cond ((x0.zU.length:Int) != (x0.zA.length:Int)) (
   some false) (
   cond ((x0.zF.length:Int) != (x0.zA.length:Int)) (
    some false) (
    (zI (zSv x0) 0).bind fun r4=>
    match r4 with
    |(.inl r4)=>
     (zUz x0.zA).bind fun r5=>
     cond (decide (r5> 729)) (
      some false) (
      (zI (zNv x0) 0).bind fun r18=>
      match r18 with
      |(.inl r18)=>
       some true
      |(.inr r18)=>
       some r18)
    |(.inr r4)=>
     some r4)))
def f_y(x0:List Int):Option (List Int):=
 (xU [] x0).bind fun v1=>
 some v1
def zSx(g_a:SPr→Int→(List Int)→(List Int)→Option (List Int))(x0:SPr)(x1:Int)(x2:List Int)(s5:(List Int)×Int)(s6:(List Int)×Int):Option (((List Int)×Int)⊕(List Int)):=
 (ixO x2 s5.2).bind fun v3=>
 cond (decide (s6.2<v3)) (
  (rng (x1+1)).bind fun v4=>
  (ixO x0.zF x1).bind fun v5=>
  (rng (s5.2-x1)).bind fun v6=>
  (rng (v6-1)).bind fun v7=>
  (ixO v5 v7).bind fun v8=>
  (g_a x0 v4 s6.1 v8).bind fun r9=>
  (rng (s6.2+1)).bind fun v10=>
  some (.inl (r9,v10))) (
  some (.inr s6.1))
def zSy(g_a:SPr→Int→(List Int)→(List Int)→Option (List Int))(x0:SPr)(x1:Int)(x2:List Int)(s5:(List Int)×Int):Option (((List Int)×Int)⊕(List Int)):=
 cond (decide (s5.2<(x0.zA.length:Int))) (
  (zI (zSx g_a x0 x1 x2 s5) (s5.1,0)).bind fun r11=>
  (rng (s5.2+1)).bind fun v12=>
  some (.inl (r11,v12))) (
  some (.inr s5.1))
def b_g(g_a:SPr→Int→(List Int)→(List Int)→Option (List Int))(x0:SPr)(x1:Int)(x2:List Int):Option (List Int):=
 (xF (x0.zA.length:Int)).bind fun m1=>
 (rng (x1+1)).bind fun v2=>
 (zI (zSy g_a x0 x1 x2) (J1 m1 (0:Int),v2)).bind fun r13=>
 some r13
def zU0(g_g:SPr→Int→(List Int)→Option (List Int))(x0:SPr)(x1:Int)(x3:List Int)(s1:(List Int)×Int):Option (((List Int)×Int)⊕(List Int)):=
 (ixO x3 x1).bind fun v6=>
 cond (decide (s1.2<v6)) (
  (g_g x0 x1 s1.1).bind fun r7=>
  (rng (s1.2+1)).bind fun v8=>
  some (.inl (r7,v8))) (
  some (.inr s1.1))
def b_a(g_g:SPr→Int→(List Int)→Option (List Int))(g_a:SPr→Int→(List Int)→(List Int)→Option (List Int))(x0:SPr)(x1:Int)(x2:List Int)(x3:List Int):Option (List Int):=
 cond (decide (x1≥(x0.zA.length:Int))) (
  (xF (x0.zA.length:Int)).bind fun m1=>
  some (J1 m1 (0:Int))) (
  (f_y x2).bind fun r2=>
  (f_y x3).bind fun r3=>
  (ixO r2 x1).bind fun _=>
  (ixO r3 x1).bind fun _=>
  (zI (zU0 g_g x0 x1 x3) (r2.set x1.toNat 0,0)).bind fun r9=>
  (rng (x1+1)).bind fun v10=>
  (g_a x0 v10 r9 (r3.set x1.toNat 0)).bind fun r11=>
  (ixO x2 x1).bind fun v12=>
  (ixO x3 x1).bind fun v13=>
  (rng (v12+v13)).bind fun v14=>
  (ixO x0.zA x1).bind fun v15=>
  cond (decide (v14≥v15)) (
   (ixO x0.zA x1).bind fun v16=>
   (rng (v14-v16)).bind fun v17=>
   (rng (x1+1)).bind fun v18=>
   (ixO x0.zU x1).bind fun v19=>
   (g_a x0 v18 v19 r11).bind fun r20=>
   (f_y r20).bind fun r21=>
   (ixO r21 x1).bind fun _=>
   some (r21.set x1.toNat v17)) (
   (f_y r11).bind fun r23=>
   (ixO r23 x1).bind fun _=>
   some (r23.set x1.toNat v14)))
mutual
def zNw:Nat→SPr→Int→(List Int)→Option (List Int)
 |0=>fun _ _ _=>none
 |n+1=>b_g (zNx n)
def zNx:Nat→SPr→Int→(List Int)→(List Int)→Option (List Int)
 |0=>fun _ _ _ _=>none
 |n+1=>b_a (zNw n) (zNx n)
end
def f_g(x0:SPr)(x1:Int)(x2:List Int):Option (List Int):=zDu fun n=>zNw n x0 x1 x2
def f_a(x0:SPr)(x1:Int)(x2:List Int)(x3:List Int):Option (List Int):=zDu fun n=>zNx n x0 x1 x2 x3
def zOV(x0:SPr)(x1:Int)(s1:Int×(List Int)×(List Int)):Option ((Int×(List Int)×(List Int))⊕(List Int)):=
 cond (decide (s1.1> 0)) (
  (uJ s1.1 2).bind fun v2=>
  cond (v2==1) (
   (f_a x0 x1 s1.2.1 s1.2.2).bind fun r3=>
   (f_a x0 x1 s1.2.2 s1.2.2).bind fun r4=>
   (uZ s1.1 2).bind fun v5=>
   some (.inl (v5,r3,r4))) (
   (f_a x0 x1 s1.2.2 s1.2.2).bind fun r6=>
   (uZ s1.1 2).bind fun v7=>
   some (.inl (v7,s1.2.1,r6)))) (
  some (.inr s1.2.1))
def zU1(x0:SPr)(x1:Int)(x2:List Int)(x3:Int):Option (List Int):=
 (xF (x0.zA.length:Int)).bind fun m1=>
 (zI (zOV x0 x1) (x3,J1 m1 (0:Int),x2)).bind fun r8=>
 some r8
def zVJ(x0:List Int)(x1:List Int)(s1:Int):Option (Int⊕(Unit⊕Bool)):=
 cond (decide (s1<(x0.length:Int))) (
  (ixO x0 s1).bind fun v1=>
  (ixO x1 s1).bind fun v2=>
  cond (v1 != v2) (
   some (.inr (.inr false))) (
   (rng (s1+1)).bind fun v3=>
   some (.inl v3))) (
  some (.inr (.inl ())))
def zPM(x0:List Int)(x1:List Int):Option Bool:=
 cond ((x0.length:Int) != (x1.length:Int)) (
  some false) (
  (zI (zVJ x0 x1) 0).bind fun r4=>
  match r4 with
  |(.inl r4)=>
   some true
  |(.inr r4)=>
   some r4)
def zXm(x0:Int)(x1:Int):Option (List Int):=
 (xF x0).bind fun m1=>
 (ixO (J1 m1 (0:Int)) x1).bind fun _=>
 some ((J1 m1 (0:Int)).set x1.toNat 1)
def zSz(x0:SPr)(x1:Int)(s1:Int):Option (Int⊕(Unit⊕xI)):=
 cond (decide (s1<(x0.zA.length:Int))) (
  (rng (x1+1)).bind fun v2=>
  (ixO x0.zF x1).bind fun v3=>
  (rng (s1-x1)).bind fun v4=>
  (rng (v4-1)).bind fun v5=>
  (ixO v3 v5).bind fun v6=>
  (ixO x0.zA s1).bind fun v7=>
  (zU1 x0 v2 v6 v7).bind fun r8=>
  (ixO x0.zU s1).bind fun v9=>
  (f_g x0 x1 v9).bind fun r10=>
  (zPM r8 r10).bind fun r11=>
  cond (!r11) (
   some (.inr (.inr (xI.mk 1 x1 s1 0)))) (
   (rng (s1+1)).bind fun v12=>
   some (.inl v12))) (
  some (.inr (.inl ())))
def zS0(x0:SPr)(x1:Int)(s7:Int)(s8:Int):Option (Int⊕(Unit⊕xI)):=
 cond (decide (s8<(x0.zA.length:Int))) (
  (ixO x0.zF x1).bind fun v16=>
  (rng (s7-x1)).bind fun v17=>
  (rng (v17-1)).bind fun v18=>
  (ixO v16 v18).bind fun v19=>
  (ixO x0.zF x1).bind fun v20=>
  (rng (s8-x1)).bind fun v21=>
  (rng (v21-1)).bind fun v22=>
  (ixO v20 v22).bind fun v23=>
  (ixO x0.zF s7).bind fun v24=>
  (rng (s8-s7)).bind fun v25=>
  (rng (v25-1)).bind fun v26=>
  (ixO v24 v26).bind fun v27=>
  (f_g x0 x1 v27).bind fun r28=>
  (rng (x1+1)).bind fun v29=>
  (f_a x0 v29 v23 v19).bind fun r30=>
  (rng (x1+1)).bind fun v31=>
  (f_a x0 v31 v19 r28).bind fun r32=>
  (zPM r30 r32).bind fun r33=>
  cond (!r33) (
   some (.inr (.inr (xI.mk 2 x1 s7 s8)))) (
   (rng (s8+1)).bind fun v34=>
   some (.inl v34))) (
  some (.inr (.inl ())))
def zS1(x0:SPr)(x1:Int)(s7:Int):Option (Int⊕(Unit⊕xI)):=
 cond (decide (s7<(x0.zA.length:Int))) (
  (rng (s7+1)).bind fun v15=>
  (zI (zS0 x0 x1 s7) v15).bind fun r35=>
  match r35 with
  |(.inl r35)=>
   (rng (s7+1)).bind fun v36=>
   some (.inl v36)
  |(.inr r35)=>
   some (.inr (.inr r35))) (
  some (.inr (.inl ())))
def zS2(x0:SPr)(x1:Int)(s16:(List Int)×Int):Option (((List Int)×Int)⊕(List Int)):=
 (ixO x0.zA x1).bind fun v43=>
 cond (decide (s16.2<v43)) (
  (f_g x0 x1 s16.1).bind fun r44=>
  (rng (s16.2+1)).bind fun v45=>
  some (.inl (r44,v45))) (
  some (.inr s16.1))
def zS3(x0:SPr)(x1:Int)(v38:List Int)(s15:Int):Option (Int⊕(Unit⊕xI)):=
 cond (decide (s15<(x0.zA.length:Int))) (
  (zXm (x0.zA.length:Int) s15).bind fun r42=>
  (zI (zS2 x0 x1) (r42,0)).bind fun r46=>
  (rng (x1+1)).bind fun v47=>
  (f_a x0 v47 v38 r46).bind fun r48=>
  (rng (x1+1)).bind fun v49=>
  (f_a x0 v49 r42 v38).bind fun r50=>
  (zPM r48 r50).bind fun r51=>
  cond (!r51) (
   some (.inr (.inr (xI.mk 4 x1 s15 0)))) (
   (rng (s15+1)).bind fun v52=>
   some (.inl v52))) (
  some (.inr (.inl ())))
def f_o(x0:SPr)(x1:Int):Option xI:=
 (rng (x1+1)).bind fun v1=>
 (zI (zSz x0 x1) v1).bind fun r13=>
 match r13 with
 |(.inl r13)=>
  (rng (x1+1)).bind fun v14=>
  (zI (zS1 x0 x1) v14).bind fun r37=>
  match r37 with
  |(.inl r37)=>
   (ixO x0.zU x1).bind fun v38=>
   (f_g x0 x1 v38).bind fun r39=>
   (zPM r39 v38).bind fun r40=>
   cond (!r40) (
    some (xI.mk 3 x1 0 0)) (
    (rng (x1+1)).bind fun v41=>
    (zI (zS3 x0 x1 v38) v41).bind fun r53=>
    match r53 with
    |(.inl r53)=>
     some (xI.mk 0 0 0 0)
    |(.inr r53)=>
     some r53)
  |(.inr r37)=>
   some r37
 |(.inr r13)=>
  some r13
def zLU(x0:SPr)(s1:Int):Option (Int⊕(Unit⊕xI)):=
 cond (decide (s1≥0)) (
  (f_o x0 s1).bind fun r2=>
  cond (r2.Kind != 0) (
   some (.inr (.inr r2))) (
   (rng (s1-1)).bind fun v3=>
   some (.inl v3))) (
  some (.inr (.inl ())))
def zXn(x0:SPr):Option xI:=
 (rng ((x0.zA.length:Int)-1)).bind fun v1=>
 (zI (zLU x0) v1).bind fun r4=>
 match r4 with
 |(.inl r4)=>
  some (xI.mk 0 0 0 0)
 |(.inr r4)=>
  some r4
def zXo(x0:SPr):Option Bool:=
 (zXn x0).bind fun r1=>
 some (r1.Kind==0)
def zS4(x0:SPr):Option Bool:=
 (f_x x0).bind fun r1=>
 cond r1 (
  (zXo x0).bind fun r2=>
  some r2) (
  some false)
def zLV(x0:Int)(s1:(List (List Int))×Int):Option (((List (List Int))×Int)⊕(List (List Int))):=
 cond (decide (s1.2<x0)) (
  (xF x0).bind fun m1=>
  (ixO (J1 m1 (0:Int)) s1.2).bind fun _=>
  (xU s1.1 [(J1 m1 (0:Int)).set s1.2.toNat 1]).bind fun v3=>
  (rng (s1.2+1)).bind fun v4=>
  some (.inl (v3,v4))) (
  some (.inr s1.1))
def f_H(x0:Int):Option (List (List Int)):=
 (zI (zLV x0) ([],0)).bind fun r5=>
 some r5
def zS5(x0:Int)(x1:List Int)(x2:List (List Int))(s5:(List Int)×Int)(s6:(List Int)×Int):Option (((List Int)×Int)⊕(List Int)):=
 cond (decide (s6.2<(s6.1.length:Int))) (
  (ixO x2 s5.2).bind fun v2=>
  cond (decide (s6.2<(v2.length:Int))) (
   (ixO s6.1 s6.2).bind fun v3=>
   (ixO x1 s5.2).bind fun v4=>
   (ixO x2 s5.2).bind fun v5=>
   (ixO v5 s6.2).bind fun v6=>
   (rng (v4*v6)).bind fun v7=>
   (rng (v3+v7)).bind fun v8=>
   (uJ v8 x0).bind fun v9=>
   (ixO s6.1 s6.2).bind fun _=>
   (rng (s6.2+1)).bind fun v11=>
   some (.inl (s6.1.set s6.2.toNat v9,v11))) (
   some (.inr s6.1))) (
  some (.inr s6.1))
def zS6(x0:Int)(x1:List Int)(x2:List (List Int))(s5:(List Int)×Int):Option (((List Int)×Int)⊕(List Int)):=
 cond (decide (s5.2<(x1.length:Int))) (
  cond (decide (s5.2<(x2.length:Int))) (
   (zI (zS5 x0 x1 x2 s5) (s5.1,0)).bind fun r12=>
   (rng (s5.2+1)).bind fun v13=>
   some (.inl (r12,v13))) (
   some (.inr s5.1))) (
  some (.inr s5.1))
def f_G(x0:Int)(x1:List Int)(x2:List (List Int))(x3:Int):Option (List Int):=
 (xF x3).bind fun m1=>
 (zI (zS6 x0 x1 x2) (J1 m1 (0:Int),0)).bind fun r14=>
 some r14
def zU2(x0:Int):Option Bool:=
 cond (x0==2) (
  some true) (
  cond (x0==3) (
   some true) (
   cond (x0==5) (
    some true) (
    some (x0==7))))
def zU3(x0:Int)(x1:Int)(x2:Int):Option Bool:=
 cond (decide (x0≥x1)) (
  some (decide (x0≤x2))) (
  some false)
def zOW(x0:SPr)(x1:List Int)(s1:Int):Option (Int⊕(Unit⊕Bool)):=
 cond (decide (s1<(x1.length:Int))) (
  (ixO x1 s1).bind fun v1=>
  (ixO x0.zA s1).bind fun v2=>
  (rng (v2-1)).bind fun v3=>
  (zU3 v1 0 v3).bind fun r4=>
  cond (!r4) (
   some (.inr (.inr false))) (
   (rng (s1+1)).bind fun v5=>
   some (.inl v5))) (
  some (.inr (.inl ())))
def zU4(x0:SPr)(x1:List Int):Option Bool:=
 cond ((x1.length:Int) != (x0.zA.length:Int)) (
  some false) (
  (zI (zOW x0 x1) 0).bind fun r6=>
  match r6 with
  |(.inl r6)=>
   some true
  |(.inr r6)=>
   some r6)
def zPN(x0:List Int)(s1:Int):Option (Int⊕(Unit⊕Bool)):=
 cond (decide (s1<(x0.length:Int))) (
  (ixO x0 s1).bind fun v1=>
  cond (v1 != 0) (
   some (.inr (.inr false))) (
   (rng (s1+1)).bind fun v2=>
   some (.inl v2))) (
  some (.inr (.inl ())))
def f_S(x0:List Int):Option Bool:=
 (zI (zPN x0) 0).bind fun r3=>
 match r3 with
 |(.inl r3)=>
  some true
 |(.inr r3)=>
  some r3
def zS7(x0:SPr)(x1:Int)(x2:List Int):Option Bool:=
 (zU4 x0 x2).bind fun r1=>
 cond r1 (
  (rng (x1+1)).bind fun v2=>
  (yB x2 0 v2).bind fun v3=>
  (f_S v3).bind fun r4=>
  some r4) (
  some false)
def zNy(x0:SPr)(s1:Int×Int):Option ((Int×Int)⊕(Unit⊕Bool)):=
 cond (decide (s1.2<(x0.zA.length:Int))) (
  (ixO x0.zA s1.2).bind fun v1=>
  (zU2 v1).bind fun r2=>
  cond (!r2) (
   some (.inr (.inr false))) (
   (rng (s1.1*v1)).bind fun v3=>
   cond (decide (v3> 729)) (
    some (.inr (.inr false))) (
    (rng (s1.1*v1)).bind fun v4=>
    (rng (s1.2+1)).bind fun v5=>
    some (.inl (v4,v5))))) (
  some (.inr (.inl ())))
def zS8(x0:SPr)(s7:Int)(v12:List (List Int))(s8:Int):Option (Int⊕(Unit⊕Bool)):=
 cond (decide (s8<(v12.length:Int))) (
  (ixO v12 s8).bind fun v13=>
  (zS7 x0 s7 v13).bind fun r14=>
  cond (!r14) (
   some (.inr (.inr false))) (
   (rng (s8+1)).bind fun v15=>
   some (.inl v15))) (
  some (.inr (.inl ())))
def zNz(x0:SPr)(s7:Int):Option (Int⊕(Unit⊕Bool)):=
 cond (decide (s7<(x0.zA.length:Int))) (
  (ixO x0.zU s7).bind fun v7=>
  (zS7 x0 s7 v7).bind fun r8=>
  cond (!r8) (
   some (.inr (.inr false))) (
   (ixO x0.zF s7).bind fun v9=>
   (rng ((x0.zA.length:Int)-1)).bind fun v10=>
   (rng (v10-s7)).bind fun v11=>
   cond ((v9.length:Int) != v11) (
    some (.inr (.inr false))) (
    (ixO x0.zF s7).bind fun v12=>
    (zI (zS8 x0 s7 v12) 0).bind fun r16=>
    match r16 with
    |(.inl r16)=>
     (rng (s7+1)).bind fun v17=>
     some (.inl v17)
    |(.inr r16)=>
     some (.inr (.inr r16))))) (
  some (.inr (.inl ())))
def f_t(x0:SPr):Option Bool:=
 cond (decide ((x0.zA.length:Int)> 6)) (
  some false) (
  cond ((x0.zU.length:Int) != (x0.zA.length:Int)) (
   some false) (
   cond ((x0.zF.length:Int) != (x0.zA.length:Int)) (
    some false) (
    (zI (zNy x0) (1,0)).bind fun r6=>
    match r6 with
    |(.inl r6)=>
     (zI (zNz x0) 0).bind fun r18=>
     match r18 with
     |(.inl r18)=>
      some true
     |(.inr r18)=>
      some r18
    |(.inr r6)=>
     some r6)))
def f_E(x0:List Int):Option (List Int):=
 (xU [] x0).bind fun v2=>
 some v2
def zS9(x2:Int)(r3:(List Int))(s1:(List Int)×Int):Option (((List Int)×Int)⊕(List Int)):=
 cond (decide (s1.2<(r3.length:Int))) (
  (rng (x2+1)).bind fun v4=>
  (rng (v4+s1.2)).bind fun v5=>
  (ixO s1.1 v5).bind fun _=>
  (rng (s1.2+1)).bind fun v7=>
  some (.inl (s1.1.set v5.toNat 0,v7))) (
  some (.inr s1.1))
def zXp(g_c:SPr→(List Int)→(List Int)→Option (List Int))(x0:SPr)(x2:Int)(s7:(List Int)×Int)(v17:Int)(s8:(List Int)×Int):Option (((List Int)×Int)⊕(List Int)):=
 cond (decide (s8.2<v17)) (
  (ixO x0.zF x2).bind fun v18=>
  (ixO v18 s7.2).bind fun v19=>
  (g_c x0 s8.1 v19).bind fun r20=>
  (rng (s8.2+1)).bind fun v21=>
  some (.inl (r20,v21))) (
  some (.inr s8.1))
def zXq(g_c:SPr→(List Int)→(List Int)→Option (List Int))(x0:SPr)(x2:Int)(r3:(List Int))(s7:(List Int)×Int):Option (((List Int)×Int)⊕(List Int)):=
 cond (decide (s7.2<(r3.length:Int))) (
  (ixO r3 s7.2).bind fun v17=>
  (zI (zXp g_c x0 x2 s7 v17) (s7.1,0)).bind fun r22=>
  (rng (s7.2+1)).bind fun v23=>
  some (.inl (r22,v23))) (
  some (.inr s7.1))
def zXr(g_c:SPr→(List Int)→(List Int)→Option (List Int))(x0:SPr)(x2:Int)(s15:(List Int)×Int)(v25:Int)(s16:(List Int)×Int):Option (((List Int)×Int)⊕(List Int)):=
 cond (decide (s16.2<v25)) (
  (ixO x0.zF x2).bind fun v26=>
  (ixO v26 s15.2).bind fun v27=>
  (g_c x0 s16.1 v27).bind fun r28=>
  (rng (s16.2+1)).bind fun v29=>
  some (.inl (r28,v29))) (
  some (.inr s16.1))
def zXs(g_c:SPr→(List Int)→(List Int)→Option (List Int))(x0:SPr)(x2:Int)(r3:(List Int))(s15:(List Int)×Int):Option (((List Int)×Int)⊕(List Int)):=
 cond (decide (s15.2<(r3.length:Int))) (
  (ixO r3 s15.2).bind fun v25=>
  (zI (zXr g_c x0 x2 s15 v25) (s15.1,0)).bind fun r30=>
  (rng (s15.2+1)).bind fun v31=>
  some (.inl (r30,v31))) (
  some (.inr s15.1))
def b_b(g_c:SPr→(List Int)→(List Int)→Option (List Int))(x0:SPr)(x1:List Int)(x2:Int):Option (List Int):=
 (rng (x2+1)).bind fun v1=>
 (yB x1 v1 x1.length).bind fun v2=>
 (f_E v2).bind fun r3=>
 (zI (zS9 x2 r3) (x1,0)).bind fun r8=>
 (ixO r8 x2).bind fun v9=>
 (rng (v9+1)).bind fun v10=>
 (ixO r8 x2).bind fun _=>
 (ixO (r8.set x2.toNat v10) x2).bind fun v12=>
 (ixO x0.zA x2).bind fun v13=>
 cond (v12==v13) (
  (ixO (r8.set x2.toNat v10) x2).bind fun _=>
  (ixO x0.zU x2).bind fun v15=>
  (g_c x0 ((r8.set x2.toNat v10).set x2.toNat 0) v15).bind fun r16=>
  (zI (zXq g_c x0 x2 r3) (r16,0)).bind fun r24=>
  some r24) (
  (zI (zXs g_c x0 x2 r3) (r8.set x2.toNat v10,0)).bind fun r32=>
  some r32)
def zSA(g_b:SPr→(List Int)→Int→Option (List Int))(x0:SPr)(s5:(List Int)×Int)(v1:Int)(s6:(List Int)×Int):Option (((List Int)×Int)⊕(List Int)):=
 cond (decide (s6.2<v1)) (
  (g_b x0 s6.1 s5.2).bind fun r2=>
  (rng (s6.2+1)).bind fun v3=>
  some (.inl (r2,v3))) (
  some (.inr s6.1))
def zSB(g_b:SPr→(List Int)→Int→Option (List Int))(x0:SPr)(x2:List Int)(s5:(List Int)×Int):Option (((List Int)×Int)⊕(List Int)):=
 cond (decide (s5.2<(x2.length:Int))) (
  (ixO x2 s5.2).bind fun v1=>
  (zI (zSA g_b x0 s5 v1) (s5.1,0)).bind fun r4=>
  (rng (s5.2+1)).bind fun v5=>
  some (.inl (r4,v5))) (
  some (.inr s5.1))
def b_c(g_b:SPr→(List Int)→Int→Option (List Int))(x0:SPr)(x1:List Int)(x2:List Int):Option (List Int):=
 (zI (zSB g_b x0 x2) (x1,0)).bind fun r6=>
 some r6
mutual
def zSC:Nat→SPr→(List Int)→Int→Option (List Int)
 |0=>fun _ _ _=>none
 |n+1=>b_b (zPO n)
def zPO:Nat→SPr→(List Int)→(List Int)→Option (List Int)
 |0=>fun _ _ _=>none
 |n+1=>b_c (zSC n)
end
def f_b(x0:SPr)(x1:List Int)(x2:Int):Option (List Int):=zDu fun n=>zSC n x0 x1 x2
def f_c(x0:SPr)(x1:List Int)(x2:List Int):Option (List Int):=zDu fun n=>zPO n x0 x1 x2
def zLW(x0:SPr)(x1:List Int)(x2:Int)(s1:(List Int)×Int):Option (((List Int)×Int)⊕(List Int)):=
 cond (decide (s1.2<x2)) (
  (f_c x0 s1.1 x1).bind fun r2=>
  (rng (s1.2+1)).bind fun v3=>
  some (.inl (r2,v3))) (
  some (.inr s1.1))
def zU5(x0:SPr)(x1:List Int)(x2:Int):Option (List Int):=
 (xF (x1.length:Int)).bind fun m1=>
 (zI (zLW x0 x1 x2) (J1 m1 (0:Int),0)).bind fun r4=>
 some r4
def zSD(x0:SPr)(v3:List Int)(v6:Int)(s6:(List Int)×Int):Option (((List Int)×Int)⊕(List Int)):=
 cond (decide (s6.2<v6)) (
  (f_c x0 s6.1 v3).bind fun r7=>
  (rng (s6.2+1)).bind fun v8=>
  some (.inl (r7,v8))) (
  some (.inr s6.1))
def zSE(x0:SPr)(x1:Int)(x2:List Int)(v2:List (List Int))(s5:(List Int)×Int):Option (((List Int)×Int)⊕(List Int)):=
 cond (decide (s5.2<(v2.length:Int))) (
  (ixO v2 s5.2).bind fun v3=>
  (rng (x1+1)).bind fun v4=>
  (rng (v4+s5.2)).bind fun v5=>
  (ixO x2 v5).bind fun v6=>
  (zI (zSD x0 v3 v6) (s5.1,0)).bind fun r9=>
  (rng (s5.2+1)).bind fun v10=>
  some (.inl (r9,v10))) (
  some (.inr s5.1))
def f_C(x0:SPr)(x1:Int)(x2:List Int):Option (List Int):=
 (xF (x2.length:Int)).bind fun m1=>
 (ixO x0.zF x1).bind fun v2=>
 (zI (zSE x0 x1 x2 v2) (J1 m1 (0:Int),0)).bind fun r11=>
 some r11
def zXt(x0:List Int)(x1:List Int)(s1:Int):Option (Int⊕(Unit⊕Bool)):=
 cond (decide (s1<(x0.length:Int))) (
  (ixO x0 s1).bind fun v1=>
  (ixO x1 s1).bind fun v2=>
  cond (v1 != v2) (
   some (.inr (.inr false))) (
   (rng (s1+1)).bind fun v3=>
   some (.inl v3))) (
  some (.inr (.inl ())))
def f_Y(x0:List Int)(x1:List Int):Option Bool:=
 cond ((x0.length:Int) != (x1.length:Int)) (
  some false) (
  (zI (zXt x0 x1) 0).bind fun r4=>
  match r4 with
  |(.inl r4)=>
   some true
  |(.inr r4)=>
   some r4)
def zPP(x0:SPr)(s5:(List Int)×(List Int)×Int)(s6:(List Int)×(List Int)):Option (((List Int)×(List Int))⊕((List Int)×(List Int))):=
 (ixO s6.1 s5.2.2).bind fun v3=>
 cond (v3 != 0) (
  (f_b x0 s6.1 s5.2.2).bind fun r4=>
  (f_b x0 s6.2 s5.2.2).bind fun r5=>
  some (.inl (r4,r5))) (
  some (.inr (s6.1,s6.2)))
def zSF(x0:SPr)(r1:(List Int))(s5:(List Int)×(List Int)×Int):Option (((List Int)×(List Int)×Int)⊕(List Int)):=
 cond (decide (s5.2.2<(r1.length:Int))) (
  (zI (zPP x0 s5) (s5.1,s5.2.1)).bind fun r6=>
  (rng (s5.2.2+1)).bind fun v7=>
  some (.inl (r6.1,r6.2,v7))) (
  some (.inr s5.2.1))
def f_F(x0:SPr)(x1:List Int):Option (List Int):=
 (f_E x1).bind fun r1=>
 (xF (x1.length:Int)).bind fun m2=>
 (zI (zSF x0 r1) (r1,J1 m2 (0:Int),0)).bind fun r8=>
 some r8
def zSG(x0:SPr)(x1:List Int)(x2:List Int):Option (List Int):=
 (f_E x1).bind fun r1=>
 (f_c x0 r1 x2).bind fun r2=>
 some r2
def zSH(x0:SPr)(x1:List Int)(x2:List Int):Option (List Int):=
 (f_F x0 x2).bind fun r1=>
 (zSG x0 x1 x2).bind fun r2=>
 (zSG x0 r1 r2).bind fun r3=>
 some r3
def zLX(x0:Int)(x1:Int):Option (List Int):=
 (xF x0).bind fun m1=>
 (ixO (J1 m1 (0:Int)) x1).bind fun _=>
 some ((J1 m1 (0:Int)).set x1.toNat 1)
def zSI(x0:SPr)(x1:Int)(s1:Int):Option (Int⊕(Unit⊕xI)):=
 cond (decide (s1<(x0.zA.length:Int))) (
  (ixO x0.zF x1).bind fun v2=>
  (rng (s1-x1)).bind fun v3=>
  (rng (v3-1)).bind fun v4=>
  (ixO v2 v4).bind fun v5=>
  (ixO x0.zA s1).bind fun v6=>
  (zU5 x0 v5 v6).bind fun r7=>
  (ixO x0.zU s1).bind fun v8=>
  (f_C x0 x1 v8).bind fun r9=>
  (f_Y r7 r9).bind fun r10=>
  cond (!r10) (
   some (.inr (.inr (xI.mk 1 x1 s1 0)))) (
   (rng (s1+1)).bind fun v11=>
   some (.inl v11))) (
  some (.inr (.inl ())))
def zSJ(x0:SPr)(x1:Int)(s7:Int)(s8:Int):Option (Int⊕(Unit⊕xI)):=
 cond (decide (s8<(x0.zA.length:Int))) (
  (ixO x0.zF x1).bind fun v15=>
  (rng (s8-x1)).bind fun v16=>
  (rng (v16-1)).bind fun v17=>
  (ixO v15 v17).bind fun v18=>
  (ixO x0.zF x1).bind fun v19=>
  (rng (s7-x1)).bind fun v20=>
  (rng (v20-1)).bind fun v21=>
  (ixO v19 v21).bind fun v22=>
  (zSH x0 v18 v22).bind fun r23=>
  (ixO x0.zF s7).bind fun v24=>
  (rng (s8-s7)).bind fun v25=>
  (rng (v25-1)).bind fun v26=>
  (ixO v24 v26).bind fun v27=>
  (f_C x0 x1 v27).bind fun r28=>
  (f_Y r23 r28).bind fun r29=>
  cond (!r29) (
   some (.inr (.inr (xI.mk 2 x1 s7 s8)))) (
   (rng (s8+1)).bind fun v30=>
   some (.inl v30))) (
  some (.inr (.inl ())))
def zSK(x0:SPr)(x1:Int)(s7:Int):Option (Int⊕(Unit⊕xI)):=
 cond (decide (s7<(x0.zA.length:Int))) (
  (rng (s7+1)).bind fun v14=>
  (zI (zSJ x0 x1 s7) v14).bind fun r31=>
  match r31 with
  |(.inl r31)=>
   (rng (s7+1)).bind fun v32=>
   some (.inl v32)
  |(.inr r31)=>
   some (.inr (.inr r31))) (
  some (.inr (.inl ())))
def zSL(x0:SPr)(x1:Int)(v39:Int)(s16:(List Int)×Int):Option (((List Int)×Int)⊕(List Int)):=
 cond (decide (s16.2<v39)) (
  (f_C x0 x1 s16.1).bind fun r40=>
  (rng (s16.2+1)).bind fun v41=>
  some (.inl (r40,v41))) (
  some (.inr s16.1))
def zSM(x0:SPr)(x1:Int)(v34:List Int)(s15:Int):Option (Int⊕(Unit⊕xI)):=
 cond (decide (s15<(x0.zA.length:Int))) (
  (zLX (x0.zA.length:Int) s15).bind fun r38=>
  (ixO x0.zA x1).bind fun v39=>
  (zI (zSL x0 x1 v39) (r38,0)).bind fun r42=>
  (zLX (x0.zA.length:Int) s15).bind fun r43=>
  (zSH x0 r43 v34).bind fun r44=>
  (f_Y r42 r44).bind fun r45=>
  cond (!r45) (
   some (.inr (.inr (xI.mk 4 x1 s15 0)))) (
   (rng (s15+1)).bind fun v46=>
   some (.inl v46))) (
  some (.inr (.inl ())))
def f_n(x0:SPr)(x1:Int):Option xI:=
 (rng (x1+1)).bind fun v1=>
 (zI (zSI x0 x1) v1).bind fun r12=>
 match r12 with
 |(.inl r12)=>
  (rng (x1+1)).bind fun v13=>
  (zI (zSK x0 x1) v13).bind fun r33=>
  match r33 with
  |(.inl r33)=>
   (ixO x0.zU x1).bind fun v34=>
   (f_C x0 x1 v34).bind fun r35=>
   (f_Y r35 v34).bind fun r36=>
   cond (!r36) (
    some (xI.mk 3 x1 0 0)) (
    (rng (x1+1)).bind fun v37=>
    (zI (zSM x0 x1 v34) v37).bind fun r47=>
    match r47 with
    |(.inl r47)=>
     some (xI.mk 0 0 0 0)
    |(.inr r47)=>
     some r47)
  |(.inr r33)=>
   some r33
 |(.inr r12)=>
  some r12
def zLY(x0:SPr)(s1:Int):Option (Int⊕Int):=
 cond (decide (s1> 0)) (
  (rng (s1-1)).bind fun v1=>
  (f_n x0 v1).bind fun r2=>
  cond (r2.Kind==0&&(r2.zVN==0&&(r2.zVO==0&&r2.zT7==0))) (
   (rng (s1-1)).bind fun v3=>
   some (.inl v3)) (
   some (.inr s1))) (
  some (.inr s1))
def zXu(x0:SPr):Option Int:=
 (zI (zLY x0) (x0.zA.length:Int)).bind fun r4=>
 some r4
def zSN(x0:SPr):Option Bool:=
 (f_t x0).bind fun r1=>
 cond r1 (
  (zXu x0).bind fun r2=>
  some (r2==0)) (
  some false)
def zSO(x0:zG)(x1:Int):Option zS:=
 (ixO x0.zQ x1).bind fun v1=>
 some (zS.mk x0.Prime x0.Dim v1)
def zZu(x0:Int)(x1:Int):Option (Int×Int):=
 some ((IntKind.wrap .u64 ((IntKind.wrap .u64 ((IntKind.wrap .u64 ((Gy x0 (2 ^ (min (32:Int).toNat (IntKind.bits .u64))))*(Gy x1 (2 ^ (min (32:Int).toNat (IntKind.bits .u64))))))+(Gy (IntKind.wrap .u64 ((IntKind.wrap .u64 ((Gy x0 (2 ^ (min (32:Int).toNat (IntKind.bits .u64))))*(zGc .u64 x1 4294967295)))+(Gy (IntKind.wrap .u64 ((zGc .u64 x0 4294967295)*(zGc .u64 x1 4294967295))) (2 ^ (min (32:Int).toNat (IntKind.bits .u64)))))) (2 ^ (min (32:Int).toNat (IntKind.bits .u64))))))+(Gy (IntKind.wrap .u64 ((zGc .u64 (IntKind.wrap .u64 ((IntKind.wrap .u64 ((Gy x0 (2 ^ (min (32:Int).toNat (IntKind.bits .u64))))*(zGc .u64 x1 4294967295)))+(Gy (IntKind.wrap .u64 ((zGc .u64 x0 4294967295)*(zGc .u64 x1 4294967295))) (2 ^ (min (32:Int).toNat (IntKind.bits .u64)))))) 4294967295)+(IntKind.wrap .u64 ((zGc .u64 x0 4294967295)*(Gy x1 (2 ^ (min (32:Int).toNat (IntKind.bits .u64)))))))) (2 ^ (min (32:Int).toNat (IntKind.bits .u64)))))),(IntKind.wrap .u64 (x0*x1)))
def zU6(x0:Int)(x1:Int):Option (Int×Int):=
 (zZu x0 x1).bind fun r1=>
 some (r1.1,r1.2)
def tJ(s1:(List Int)×Int):Option (((List Int)×Int)⊕(List Int)):=
 cond (decide (s1.2<(s1.1.length:Int))) (
  (yB s1.1 s1.2 s1.1.length).bind fun _=>
  (yB s1.1 0 s1.2).bind fun v4=>
  (rng (s1.2+((min v4.length (((s1.1.length:Int).toNat)-((s1.2:Int).toNat)):Nat):Int))).bind fun v5=>
  some (.inl (xQ s1.1 ((s1.2:Int).toNat) (v4.take (((s1.1.length:Int).toNat)-((s1.2:Int).toNat))),v5))) (
  some (.inr s1.1))
def f_i(x0:List Int)(x1:Int):Option (List Int):=
 cond (decide (x1<0)) (
  none) (
  (zU6 (IntKind.wrap .u64 (x0.length:Int)) (IntKind.wrap .u64 x1)).bind fun r1=>
  cond (decide (r1.1> 0)) (
   none) (
   cond (decide (r1.2> 9223372036854775807)) (
    none) (
    (xF (IntKind.wrap .i64 r1.2)).bind fun m2=>
    (zI tJ (xQ (J1 m2 (0:Int)) 0 (x0.take (((J1 m2 (0:Int)).length)-0)),((min x0.length (((J1 m2 (0:Int)).length)-0):Nat):Int))).bind fun r6=>
    some r6)))
def zSP(s5:(List Int)×Int)(v1:Int)(s6:(List Int)×Int):Option (((List Int)×Int)⊕(List Int)):=
 cond (decide (s6.2<v1)) (
  (rng (s5.2+1)).bind fun v2=>
  (xU s6.1 [v2]).bind fun v3=>
  (rng (s6.2+1)).bind fun v4=>
  some (.inl (v3,v4))) (
  some (.inr s6.1))
def zSQ(x0:List Int)(s5:(List Int)×Int):Option (((List Int)×Int)⊕(List Int)):=
 cond (decide (s5.2<(x0.length:Int))) (
  (ixO x0 s5.2).bind fun v1=>
  (zI (zSP s5 v1) (s5.1,0)).bind fun r5=>
  (rng (s5.2+1)).bind fun v6=>
  some (.inl (r5,v6))) (
  some (.inr s5.1))
def f_v(x0:List Int):Option (List Int):=
 (zI (zSQ x0) ([],0)).bind fun r7=>
 some r7
def zSR(x0:SPr)(s1:(List ((List Int)×(List Int)))×Int):Option (((List ((List Int)×(List Int)))×Int)⊕(List ((List Int)×(List Int)))):=
 cond (decide (s1.2<(x0.zA.length:Int))) (
  (ixO x0.zA s1.2).bind fun v1=>
  (rng (s1.2+1)).bind fun v2=>
  (f_i [v2] v1).bind fun r3=>
  (ixO x0.zU s1.2).bind fun v4=>
  (f_v v4).bind fun r5=>
  (xU s1.1 [(r3,r5)]).bind fun v6=>
  (rng (s1.2+1)).bind fun v7=>
  some (.inl (v6,v7))) (
  some (.inr s1.1))
def zSS(s7:(List ((List Int)×(List Int)))×Int)(v9:List (List Int))(s8:(List ((List Int)×(List Int)))×Int):Option (((List ((List Int)×(List Int)))×Int)⊕(List ((List Int)×(List Int)))):=
 cond (decide (s8.2<(v9.length:Int))) (
  (ixO v9 s8.2).bind fun v10=>
  (rng (s7.2+1)).bind fun v11=>
  (rng (s7.2+s8.2)).bind fun v12=>
  (rng (v12+2)).bind fun v13=>
  (f_v v10).bind fun r14=>
  (xU [v11] r14).bind fun v15=>
  (xU s8.1 [([v13,v11],v15)]).bind fun v16=>
  (rng (s8.2+1)).bind fun v17=>
  some (.inl (v16,v17))) (
  some (.inr s8.1))
def zST(x0:SPr)(s7:(List ((List Int)×(List Int)))×Int):Option (((List ((List Int)×(List Int)))×Int)⊕(List ((List Int)×(List Int)))):=
 cond (decide (s7.2<(x0.zA.length:Int))) (
  (ixO x0.zF s7.2).bind fun v9=>
  (zI (zSS s7 v9) (s7.1,0)).bind fun r18=>
  (rng (s7.2+1)).bind fun v19=>
  some (.inl (r18,v19))) (
  some (.inr s7.1))
def f_z(x0:SPr):Option (List ((List Int)×(List Int))):=
 (zI (zSR x0) ([],0)).bind fun r8=>
 (zI (zST x0) (r8,0)).bind fun r20=>
 some r20
def zSU(x1:Int)(s1:(List (List Int))×Int):Option (((List (List Int))×Int)⊕(List (List Int))):=
 cond (decide (s1.2<x1)) (
  (xF x1).bind fun m1=>
  (ixO (J1 m1 (0:Int)) s1.2).bind fun _=>
  (xU s1.1 [(J1 m1 (0:Int)).set s1.2.toNat 1]).bind fun v3=>
  (rng (s1.2+1)).bind fun v4=>
  some (.inl (v3,v4))) (
  some (.inr s1.1))
def f_K(x0:Int)(x1:Int):Option zS:=
 (zI (zSU x1) ([],0)).bind fun r5=>
 some (zS.mk x0 x1 r5)
def zKk(x0:Int)(x1:Int):Option Int:=
 (uJ x0 x1).bind fun v1=>
 (rng (v1+x1)).bind fun v2=>
 (uJ v2 x1).bind fun v3=>
 some v3
def zLZ(x0:List Int)(x1:List Int)(x2:Int)(x3:Int)(s1:(List Int)×Int):Option (((List Int)×Int)⊕(List Int)):=
 cond (decide (s1.2<(x0.length:Int))) (
  (ixO s1.1 s1.2).bind fun v1=>
  (ixO x1 s1.2).bind fun v2=>
  (rng (x2*v2)).bind fun v3=>
  (rng (v1+v3)).bind fun v4=>
  (zKk v4 x3).bind fun r5=>
  (ixO s1.1 s1.2).bind fun _=>
  (rng (s1.2+1)).bind fun v7=>
  some (.inl (s1.1.set s1.2.toNat r5,v7))) (
  some (.inr s1.1))
def f_s(x0:List Int)(x1:List Int)(x2:Int)(x3:Int):Option (List Int):=
 (zI (zLZ x0 x1 x2 x3) (x0,0)).bind fun r8=>
 some r8
def zSV(x0:List Int)(x1:zS)(s1:(List Int)×Int):Option (((List Int)×Int)⊕(List Int)):=
 cond (decide (s1.2<(x0.length:Int))) (
  (ixO x0 s1.2).bind fun v2=>
  (ixO x1.Rows s1.2).bind fun v3=>
  (f_s s1.1 v3 v2 x1.Prime).bind fun r4=>
  (rng (s1.2+1)).bind fun v5=>
  some (.inl (r4,v5))) (
  some (.inr s1.1))
def f_Z(x0:List Int)(x1:zS):Option (List Int):=
 (xF x1.xN).bind fun m1=>
 (zI (zSV x0 x1) (J1 m1 (0:Int),0)).bind fun r6=>
 some r6
def zMa(x0:zS)(x1:zS)(s1:(List (List Int))×Int):Option (((List (List Int))×Int)⊕(List (List Int))):=
 cond (decide (s1.2<(x0.Rows.length:Int))) (
  (ixO x0.Rows s1.2).bind fun v1=>
  (f_Z v1 x1).bind fun r2=>
  (xU s1.1 [r2]).bind fun v3=>
  (rng (s1.2+1)).bind fun v4=>
  some (.inl (v3,v4))) (
  some (.inr s1.1))
def zU7(x0:zS)(x1:zS):Option zS:=
 (zI (zMa x0 x1) ([],0)).bind fun r5=>
 some (zS.mk x0.Prime x1.xN r5)
def zSW(x0:zG)(x1:List Int)(s1:Int×Int×(List (List Int))×Int):Option ((Int×Int×(List (List Int))×Int)⊕(Int×Int×(List (List Int)))):=
 cond (decide (s1.2.2.2<(x1.length:Int))) (
  (ixO x1 s1.2.2.2).bind fun v2=>
  (rng (v2-1)).bind fun v3=>
  (zSO x0 v3).bind fun r4=>
  (zU7 (zS.mk s1.1 s1.2.1 s1.2.2.1) r4).bind fun r5=>
  (rng (s1.2.2.2+1)).bind fun v6=>
  some (.inl (r5.Prime,r5.xN,r5.Rows,v6))) (
  some (.inr (s1.1,s1.2.1,s1.2.2.1)))
def f_L(x0:zG)(x1:List Int):Option zS:=
 (f_K x0.Prime x0.Dim).bind fun r1=>
 (zI (zSW x0 x1) (r1.Prime,r1.xN,r1.Rows,0)).bind fun r7=>
 some (zS.mk r7.1 r7.2.1 r7.2.2)
def zSX(x1:Int):Option (List Int):=
 cond (decide (x1<0)) (
  none) (
  (rng (0-0)).bind fun v1=>
  (rng (x1-v1)).bind fun v2=>
  cond (decide (v2> 0)) (
   (uA [] v2 (0:Int)).bind fun v3=>
   (yB v3 0 0).bind fun v4=>
   some v4) (
   some []))
def zSY(x0:List (List Int))(s1:Int×Int):Option ((Int×Int)⊕Int):=
 cond (decide (s1.2<(x0.length:Int))) (
  (ixO x0 s1.2).bind fun v1=>
  (rng (s1.1+(v1.length:Int))).bind fun v2=>
  cond (decide (v2<0)) (
   none) (
   (rng (s1.2+1)).bind fun v3=>
   some (.inl (v2,v3)))) (
  some (.inr s1.1))
def zSZ(x0:List (List Int))(s3:(List Int)×Int):Option (((List Int)×Int)⊕(List Int)):=
 cond (decide (s3.2<(x0.length:Int))) (
  (ixO x0 s3.2).bind fun v6=>
  (xU s3.1 v6).bind fun v7=>
  (rng (s3.2+1)).bind fun v8=>
  some (.inl (v7,v8))) (
  some (.inr s3.1))
def f_u(x0:List (List Int)):Option (List Int):=
 (zI (zSY x0) (0,0)).bind fun r4=>
 (zSX r4).bind fun r5=>
 (zI (zSZ x0) (r5,0)).bind fun r9=>
 some r9
def zTa(x0:List Int)(x1:List Int)(s1:Int):Option (Int⊕(Unit⊕Bool)):=
 cond (decide (s1<(x0.length:Int))) (
  (ixO x0 s1).bind fun v1=>
  (ixO x1 s1).bind fun v2=>
  cond (v1 != v2) (
   some (.inr (.inr false))) (
   (rng (s1+1)).bind fun v3=>
   some (.inl v3))) (
  some (.inr (.inl ())))
def zTb(x0:List Int)(x1:List Int):Option Bool:=
 cond ((x0.length:Int) != (x1.length:Int)) (
  some false) (
  (zI (zTa x0 x1) 0).bind fun r4=>
  match r4 with
  |(.inl r4)=>
   some true
  |(.inr r4)=>
   some r4)
def zTc(x0:List (List Int))(x1:List (List Int))(s1:Int):Option (Int⊕(Unit⊕Bool)):=
 cond (decide (s1<(x0.length:Int))) (
  (ixO x0 s1).bind fun v1=>
  (ixO x1 s1).bind fun v2=>
  (zTb v1 v2).bind fun r3=>
  cond (!r3) (
   some (.inr (.inr false))) (
   (rng (s1+1)).bind fun v4=>
   some (.inl v4))) (
  some (.inr (.inl ())))
def zTd(x0:List (List Int))(x1:List (List Int)):Option Bool:=
 cond ((x0.length:Int) != (x1.length:Int)) (
  some false) (
  (zI (zTc x0 x1) 0).bind fun r5=>
  match r5 with
  |(.inl r5)=>
   some true
  |(.inr r5)=>
   some r5)
def zTe(x0:List (List (List Int)))(x1:List (List (List Int)))(s1:Int):Option (Int⊕(Unit⊕Bool)):=
 cond (decide (s1<(x0.length:Int))) (
  (ixO x0 s1).bind fun v1=>
  (ixO x1 s1).bind fun v2=>
  (zTd v1 v2).bind fun r3=>
  cond (!r3) (
   some (.inr (.inr false))) (
   (rng (s1+1)).bind fun v4=>
   some (.inl v4))) (
  some (.inr (.inl ())))
def zXv(x0:List (List (List Int)))(x1:List (List (List Int))):Option Bool:=
 cond ((x0.length:Int) != (x1.length:Int)) (
  some false) (
  (zI (zTe x0 x1) 0).bind fun r5=>
  match r5 with
  |(.inl r5)=>
   some true
  |(.inr r5)=>
   some r5)
def zU8(x0:SPr)(x1:SPr):Option Bool:=
 (zTb x0.zA x1.zA).bind fun r1=>
 cond (!r1) (
  some false) (
  (zTd x0.zU x1.zU).bind fun r2=>
  cond (!r2) (
   some false) (
   (zXv x0.zF x1.zF).bind fun r3=>
   cond (!r3) (
    some false) (
    some true)))
def zMb(x0:List (List Int))(s1:(List (List Int))×Int):Option (((List (List Int))×Int)⊕(List (List Int))):=
 cond (decide (s1.2<(x0.length:Int))) (
  (ixO x0 s1.2).bind fun v1=>
  (rng ((v1.length:Int)+(x0.length:Int))).bind fun v2=>
  (xF v2).bind fun m3=>
  (rng ((v1.length:Int)+s1.2)).bind fun v4=>
  (ixO (xQ (J1 m3 (0:Int)) 0 (v1.take (((J1 m3 (0:Int)).length)-0))) v4).bind fun _=>
  (xU s1.1 [(xQ (J1 m3 (0:Int)) 0 (v1.take (((J1 m3 (0:Int)).length)-0))).set v4.toNat 1]).bind fun v6=>
  (rng (s1.2+1)).bind fun v7=>
  some (.inl (v6,v7))) (
  some (.inr s1.1))
def zU9(x0:List (List Int)):Option (List (List Int)):=
 (zI (zMb x0) ([],0)).bind fun r8=>
 some r8
def zMc(x0:List (List Int))(s1:(List (List Int))×Int):Option (((List (List Int))×Int)⊕(List (List Int))):=
 cond (decide (s1.2<(x0.length:Int))) (
  (ixO x0 s1.2).bind fun v1=>
  (f_E v1).bind fun r2=>
  (xU s1.1 [r2]).bind fun v3=>
  (rng (s1.2+1)).bind fun v4=>
  some (.inl (v3,v4))) (
  some (.inr s1.1))
def zUA(x0:List (List Int)):Option (List (List Int)):=
 (zI (zMc x0) ([],0)).bind fun r5=>
 some r5
def zPQ(s1:Int×Int×Int×Int):Option ((Int×Int×Int×Int)⊕(Int×Int)):=
 cond (s1.2.1 != 0) (
  (uZ s1.1 s1.2.1).bind fun v1=>
  (rng (v1*s1.2.1)).bind fun v2=>
  (rng (s1.1-v2)).bind fun v3=>
  (rng (v1*s1.2.2.2)).bind fun v4=>
  (rng (s1.2.2.1-v4)).bind fun v5=>
  some (.inl (s1.2.1,v3,s1.2.2.2,v5))) (
  some (.inr (s1.1,s1.2.2.1)))
def f_M(x0:Int)(x1:Int):Option (Int×Bool):=
 (zI zPQ (x1,x0,0,1)).bind fun r6=>
 (zKk r6.2 x1).bind fun r7=>
 some (r7,(r6.1==1))
def zIn(s13:(List (List Int))×Int×Int)(s14:Int):Option (Int⊕Int):=
 cond (decide (s14<(s13.1.length:Int))) (
  (ixO s13.1 s14).bind fun v3=>
  (ixO v3 s13.2.2).bind fun v4=>
  cond (v4==0) (
   (rng (s14+1)).bind fun v5=>
   some (.inl v5)) (
   some (.inr s14))) (
  some (.inr s14))
def zMd(x0:Int)(s13:(List (List Int))×Int×Int)(r12:Int×Bool)(v13:List Int)(s16:(List (List Int))×Int):Option (((List (List Int))×Int)⊕(List (List Int))):=
 cond (decide (s16.2<(v13.length:Int))) (
  (ixO s16.1 s13.2.1).bind fun v14=>
  (ixO s16.1 s13.2.1).bind fun v15=>
  (ixO v15 s16.2).bind fun v16=>
  (rng (v16*r12.1)).bind fun v17=>
  (uJ v17 x0).bind fun v18=>
  (ixO v14 s16.2).bind fun _=>
  (rng (s16.2+1)).bind fun v20=>
  some (.inl (s16.1.set s13.2.1.toNat (v14.set s16.2.toNat v18),v20))) (
  some (.inr s16.1))
def zN0(x0:Int)(s13:(List (List Int))×Int×Int)(r21:(List (List Int)))(s18:(List (List Int))×Int):Option (((List (List Int))×Int)⊕(List (List Int))):=
 cond (decide (s18.2<(r21.length:Int))) (
  cond (s18.2 != s13.2.1) (
   (ixO s18.1 s18.2).bind fun v22=>
   (ixO s18.1 s13.2.1).bind fun v23=>
   (ixO s18.1 s18.2).bind fun v24=>
   (ixO v24 s13.2.2).bind fun v25=>
   (rng (0-v25)).bind fun v26=>
   (f_s v22 v23 v26 x0).bind fun r27=>
   (rng (s18.2+1)).bind fun v28=>
   some (.inl (s18.1.set s18.2.toNat r27,v28))) (
   (rng (s18.2+1)).bind fun v29=>
   some (.inl (s18.1,v29)))) (
  some (.inr s18.1))
def zN1(x0:Int)(s13:(List (List Int))×Int×Int):Option (((List (List Int))×Int×Int)⊕((List (List Int))×Int)):=
 cond (decide ((s13.1.length:Int)> 0)) (
  (ixO s13.1 0).bind fun v2=>
  cond (decide (s13.2.2<(v2.length:Int))) (
   cond (decide (s13.2.1<(s13.1.length:Int))) (
    (zI (zIn s13) s13.2.1).bind fun r6=>
    cond (r6==(s13.1.length:Int)) (
     (rng (s13.2.2+1)).bind fun v7=>
     some (.inl (s13.1,s13.2.1,v7))) (
     (ixO s13.1 r6).bind fun v8=>
     (ixO s13.1 s13.2.1).bind fun v9=>
     (ixO (jH s13.1 s13.2.1 r6 v8 v9) s13.2.1).bind fun v10=>
     (ixO v10 s13.2.2).bind fun v11=>
     (f_M v11 x0).bind fun r12=>
     (ixO (jH s13.1 s13.2.1 r6 v8 v9) s13.2.1).bind fun v13=>
     (zI (zMd x0 s13 r12 v13) (jH s13.1 s13.2.1 r6 v8 v9,0)).bind fun r21=>
     (zI (zN0 x0 s13 r21) (r21,0)).bind fun r30=>
     (rng (s13.2.1+1)).bind fun v31=>
     (rng (s13.2.2+1)).bind fun v32=>
     some (.inl (r30,v31,v32)))) (
    some (.inr (s13.1,s13.2.1)))) (
   some (.inr (s13.1,s13.2.1)))) (
  some (.inr (s13.1,s13.2.1)))
def f_j(x0:Int)(x1:List (List Int)):Option (List (List Int)):=
 (zUA x1).bind fun r1=>
 (zI (zN1 x0) (r1,0,0)).bind fun r33=>
 (yB r33.1 0 r33.2).bind fun v34=>
 some v34
def zTf(x0:Int)(x1:Int):Option Int:=
 (uJ x0 x1).bind fun v1=>
 cond (decide (v1<0)) (
  (rng (v1+x1)).bind fun v2=>
  some v2) (
  some v1)
def zIo(x0:List Int)(s1:Int):Option (Int⊕(Unit⊕Int)):=
 cond (decide (s1<(x0.length:Int))) (
  (ixO x0 s1).bind fun v1=>
  cond (v1 != 0) (
   some (.inr (.inr s1))) (
   (rng (s1+1)).bind fun v2=>
   some (.inl v2))) (
  some (.inr (.inl ())))
def f_A(x0:List Int):Option Int:=
 (zI (zIo x0) 0).bind fun r3=>
 match r3 with
 |(.inl r3)=>
  some (x0.length:Int)
 |(.inr r3)=>
  some r3
def zTg(x0:Int)(x2:Int)(x3:List Int)(s1:(List Int)×Int):Option (((List Int)×Int)⊕(List Int)):=
 cond (decide (s1.2<(s1.1.length:Int))) (
  cond (decide (s1.2<(x3.length:Int))) (
   (ixO s1.1 s1.2).bind fun v2=>
   (ixO x3 s1.2).bind fun v3=>
   (rng (x2*v3)).bind fun v4=>
   (rng (v2+v4)).bind fun v5=>
   (zTf v5 x0).bind fun r6=>
   (ixO s1.1 s1.2).bind fun _=>
   (rng (s1.2+1)).bind fun v8=>
   some (.inl (s1.1.set s1.2.toNat r6,v8))) (
   some (.inr s1.1))) (
  some (.inr s1.1))
def f_w(x0:Int)(x1:List Int)(x2:Int)(x3:List Int):Option (List Int):=
 (f_y x1).bind fun r1=>
 (zI (zTg x0 x2 x3) (r1,0)).bind fun r9=>
 some r9
def zTh(x0:Int)(x1:List (List Int))(s1:(List Int)×Int):Option (((List Int)×Int)⊕(List Int)):=
 cond (decide (s1.2<(x1.length:Int))) (
  (ixO x1 s1.2).bind fun v2=>
  (f_A v2).bind fun r3=>
  cond (decide (r3<(s1.1.length:Int))) (
   (ixO s1.1 r3).bind fun v4=>
   cond (v4 != 0) (
    (ixO s1.1 r3).bind fun v5=>
    (rng (x0-v5)).bind fun v6=>
    (ixO x1 s1.2).bind fun v7=>
    (f_w x0 s1.1 v6 v7).bind fun r8=>
    (rng (s1.2+1)).bind fun v9=>
    some (.inl (r8,v9))) (
    (rng (s1.2+1)).bind fun v10=>
    some (.inl (s1.1,v10)))) (
   (rng (s1.2+1)).bind fun v11=>
   some (.inl (s1.1,v11)))) (
  some (.inr s1.1))
def f_T(x0:Int)(x1:List (List Int))(x2:List Int):Option (List Int):=
 (f_y x2).bind fun r1=>
 (zI (zTh x0 x1) (r1,0)).bind fun r12=>
 some r12
def zMe(x0:Int)(x1:Int)(s1:Int):Option (Int⊕(Unit⊕Int)):=
 cond (decide (s1<x1)) (
  (zTf x0 x1).bind fun r1=>
  (rng (r1*s1)).bind fun v2=>
  (uJ v2 x1).bind fun v3=>
  cond (v3==1) (
   some (.inr (.inr s1))) (
   (rng (s1+1)).bind fun v4=>
   some (.inl v4))) (
  some (.inr (.inl ())))
def zUB(x0:Int)(x1:Int):Option Int:=
 (zI (zMe x0 x1) 1).bind fun r5=>
 match r5 with
 |(.inl r5)=>
  some 0
 |(.inr r5)=>
  some r5
def zUC(x0:Int)(x1:Int)(x2:List Int):Option (List Int):=
 (xF (x2.length:Int)).bind fun m1=>
 (f_w x0 (J1 m1 (0:Int)) x1 x2).bind fun r2=>
 some r2
def zIp(x0:Int)(s5:(List (List Int))×Int)(r3:Int)(r7:(List Int))(s6:(List (List Int))×Bool×Int):Option (((List (List Int))×Bool×Int)⊕((List (List Int))×Bool)):=
 cond (decide (s6.2.2<(s5.1.length:Int))) (
  cond (!s6.2.1) (
   (ixO s5.1 s6.2.2).bind fun v8=>
   (f_A v8).bind fun r9=>
   cond (decide (r9> r3)) (
    (xU s6.1 [r7]).bind fun v10=>
    (ixO s5.1 s6.2.2).bind fun v11=>
    (ixO s5.1 s6.2.2).bind fun v12=>
    (ixO v12 r3).bind fun v13=>
    (rng (x0-v13)).bind fun v14=>
    (f_w x0 v11 v14 r7).bind fun r15=>
    (xU v10 [r15]).bind fun v16=>
    (rng (s6.2.2+1)).bind fun v17=>
    some (.inl (v16,true,v17))) (
    (ixO s5.1 s6.2.2).bind fun v18=>
    (ixO s5.1 s6.2.2).bind fun v19=>
    (ixO v19 r3).bind fun v20=>
    (rng (x0-v20)).bind fun v21=>
    (f_w x0 v18 v21 r7).bind fun r22=>
    (xU s6.1 [r22]).bind fun v23=>
    (rng (s6.2.2+1)).bind fun v24=>
    some (.inl (v23,s6.2.1,v24)))) (
   (ixO s5.1 s6.2.2).bind fun v25=>
   (ixO s5.1 s6.2.2).bind fun v26=>
   (ixO v26 r3).bind fun v27=>
   (rng (x0-v27)).bind fun v28=>
   (f_w x0 v25 v28 r7).bind fun r29=>
   (xU s6.1 [r29]).bind fun v30=>
   (rng (s6.2.2+1)).bind fun v31=>
   some (.inl (v30,s6.2.1,v31)))) (
  some (.inr (s6.1,s6.2.1)))
def zPR(x0:Int)(x1:List (List Int))(s5:(List (List Int))×Int):Option (((List (List Int))×Int)⊕(List (List Int))):=
 cond (decide (s5.2<(x1.length:Int))) (
  (ixO x1 s5.2).bind fun v1=>
  (f_T x0 s5.1 v1).bind fun r2=>
  (f_A r2).bind fun r3=>
  cond (r3==(r2.length:Int)) (
   (rng (s5.2+1)).bind fun v4=>
   some (.inl (s5.1,v4))) (
   (ixO r2 r3).bind fun v5=>
   (zUB v5 x0).bind fun r6=>
   (zUC x0 r6 r2).bind fun r7=>
   (zI (zIp x0 s5 r3 r7) ([],false,0)).bind fun r32=>
   cond (!r32.2) (
    (xU r32.1 [r7]).bind fun v33=>
    (rng (s5.2+1)).bind fun v34=>
    some (.inl (v33,v34))) (
    (rng (s5.2+1)).bind fun v35=>
    some (.inl (r32.1,v35))))) (
  some (.inr s5.1))
def f_p(x0:Int)(x1:List (List Int)):Option (List (List Int)):=
 (zI (zPR x0 x1) ([],0)).bind fun r36=>
 some r36
def zMf(x1:List (List Int))(r1:(List (List Int)))(s1:(List (List Int))×Int):Option (((List (List Int))×Int)⊕(List (List Int))):=
 cond (decide (s1.2<(x1.length:Int))) (
  (ixO x1 s1.2).bind fun v2=>
  (f_y v2).bind fun r3=>
  (ixO r1 s1.2).bind fun v4=>
  (xU r3 v4).bind fun v5=>
  (xU s1.1 [v5]).bind fun v6=>
  (rng (s1.2+1)).bind fun v7=>
  some (.inl (v6,v7))) (
  some (.inr s1.1))
def zUD(x0:Int)(x1:List (List Int)):Option (List (List Int)):=
 (f_H (x1.length:Int)).bind fun r1=>
 (zI (zMf x1 r1) ([],0)).bind fun r8=>
 (f_p x0 r8).bind fun r9=>
 some r9
def zPS(x2:Int)(r1:(List (List Int)))(s1:(List (List Int))×Int):Option (((List (List Int))×Int)⊕(List (List Int))):=
 cond (decide (s1.2<(r1.length:Int))) (
  (ixO r1 s1.2).bind fun v2=>
  (f_A v2).bind fun r3=>
  cond (decide (r3≥x2)) (
   (ixO r1 s1.2).bind fun v4=>
   (yB v4 x2 v4.length).bind fun v5=>
   (f_y v5).bind fun r6=>
   (xU s1.1 [r6]).bind fun v7=>
   (rng (s1.2+1)).bind fun v8=>
   some (.inl (v7,v8))) (
   (rng (s1.2+1)).bind fun v9=>
   some (.inl (s1.1,v9)))) (
  some (.inr s1.1))
def f_U(x0:Int)(x1:List (List Int))(x2:Int):Option (List (List Int)):=
 (zUD x0 x1).bind fun r1=>
 (zI (zPS x2 r1) ([],0)).bind fun r10=>
 some r10
def zUE(x0:SPr):Option Int:=
 (rng ((x0.zA.length:Int)-1)).bind fun v1=>
 (rng ((x0.zA.length:Int)*v1)).bind fun v2=>
 (uZ v2 2).bind fun v3=>
 (rng ((x0.zA.length:Int)+v3)).bind fun v4=>
 some v4
def zXw(x0:Int)(x1:Int)(x2:Int):Option Int:=
 (rng (x1*x0)).bind fun v1=>
 (rng (x0+v1)).bind fun v2=>
 (rng (x1+1)).bind fun v3=>
 (rng (x1*v3)).bind fun v4=>
 (uZ v4 2).bind fun v5=>
 (rng (v2-v5)).bind fun v6=>
 (rng (v6+x2)).bind fun v7=>
 (rng (v7-x1)).bind fun v8=>
 (rng (v8-1)).bind fun v9=>
 some v9
def zUF(x0:SPr):Option Int:=
 (rng ((x0.zA.length:Int)+1)).bind fun v1=>
 (rng ((x0.zA.length:Int)*v1)).bind fun v2=>
 (uZ v2 2).bind fun v3=>
 some v3
def zPT(x0:List Int)(x1:Int)(s1:(List (List Int))×Int):Option (((List (List Int))×Int)⊕(List (List Int))):=
 cond (decide (s1.2<(x0.length:Int))) (
  (rng (s1.2+x1)).bind fun v1=>
  (yB x0 s1.2 v1).bind fun v2=>
  (f_E v2).bind fun r3=>
  (xU s1.1 [r3]).bind fun v4=>
  (rng (s1.2+x1)).bind fun v5=>
  some (.inl (v4,v5))) (
  some (.inr s1.1))
def f_P(x0:List Int)(x1:Int):Option (List (List Int)):=
 (zI (zPT x0 x1) ([],0)).bind fun r6=>
 some r6
def zMg(x0:zG)(x1:List (List Int))(x2:List Int)(x3:Int):Option (List Int):=
 (ixO x0.zQ x3).bind fun v1=>
 (f_G x0.Prime x2 v1 x0.Dim).bind fun r2=>
 (ixO x1 x3).bind fun v3=>
 (f_w x0.Prime r2 1 v3).bind fun r4=>
 some r4
def zTi(x0:zG)(x1:List (List Int))(x3:List Int)(s5:(List Int)×Int)(s6:(List Int)×Int):Option (((List Int)×Int)⊕(List Int)):=
 (ixO x3 s5.2).bind fun v1=>
 cond (decide (s6.2<v1)) (
  (zMg x0 x1 s6.1 s5.2).bind fun r2=>
  (rng (s6.2+1)).bind fun v3=>
  some (.inl (r2,v3))) (
  some (.inr s6.1))
def zTj(x0:zG)(x1:List (List Int))(x3:List Int)(s5:(List Int)×Int):Option (((List Int)×Int)⊕(List Int)):=
 cond (decide (s5.2<(x3.length:Int))) (
  (zI (zTi x0 x1 x3 s5) (s5.1,0)).bind fun r4=>
  (rng (s5.2+1)).bind fun v5=>
  some (.inl (r4,v5))) (
  some (.inr s5.1))
def f_I(x0:zG)(x1:List (List Int))(x2:List Int)(x3:List Int):Option (List Int):=
 (zI (zTj x0 x1 x3) (x2,0)).bind fun r6=>
 some r6
def zMh(x0:zG)(x1:List (List Int))(x2:List Int)(s1:(List Int)×Int):Option (((List Int)×Int)⊕(List Int)):=
 cond (decide (s1.2<(x2.length:Int))) (
  (ixO x2 s1.2).bind fun v2=>
  (rng (v2-1)).bind fun v3=>
  (zSO x0 v3).bind fun r4=>
  (f_Z s1.1 r4).bind fun r5=>
  (rng (v2-1)).bind fun v6=>
  (ixO x1 v6).bind fun v7=>
  (f_s r5 v7 1 x0.Prime).bind fun r8=>
  (rng (s1.2+1)).bind fun v9=>
  some (.inl (r8,v9))) (
  some (.inr s1.1))
def zTk(x0:zG)(x1:List (List Int))(x2:List Int):Option (List Int):=
 (xF x0.Dim).bind fun m1=>
 (zI (zMh x0 x1 x2) (J1 m1 (0:Int),0)).bind fun r10=>
 some r10
def zMi(x1:zG)(x2:List (List Int))(r1:(List ((List Int)×(List Int))))(s1:(List (List Int))×Int):Option (((List (List Int))×Int)⊕(List (List Int))):=
 cond (decide (s1.2<(r1.length:Int))) (
  (ixO r1 s1.2).bind fun v2=>
  (zTk x1 x2 v2.1).bind fun r3=>
  (zTk x1 x2 v2.2).bind fun r4=>
  (f_s r3 r4 (-1) x1.Prime).bind fun r5=>
  (xU s1.1 [r5]).bind fun v6=>
  (rng (s1.2+1)).bind fun v7=>
  some (.inl (v6,v7))) (
  some (.inr s1.1))
def zUG(x0:SPr)(x1:zG)(x2:List (List Int)):Option (List (List Int)):=
 (f_z x0).bind fun r1=>
 (zI (zMi x1 x2 r1) ([],0)).bind fun r8=>
 some r8
def zMj(x0:zY):Option zH:=
 cond (decide ((x0.zMt.length:Int)> 0)) (
  (ixO x0.zMt 0).bind fun v1=>
  (xF (x0.p.zA.length:Int)).bind fun m2=>
  (xF (v1.length:Int)).bind fun m3=>
  some (zH.mk (J1 m2 (0:Int)) (J1 m3 (0:Int)))) (
  (xF (x0.p.zA.length:Int)).bind fun m4=>
  (xF 0).bind fun m5=>
  some (zH.mk (J1 m4 (0:Int)) (J1 m5 (0:Int))))
def f_Q(x0:zY)(x1:Int)(x2:Int):Option zH:=
 (ixO x0.p.zF x1).bind fun v1=>
 (rng (x2-x1)).bind fun v2=>
 (rng (v2-1)).bind fun v3=>
 (ixO v1 v3).bind fun v4=>
 (zXw (x0.p.zA.length:Int) x1 x2).bind fun r5=>
 (ixO x0.zMt r5).bind fun v6=>
 some (zH.mk v4 v6)
def zMk(x0:zG)(x1:List Int)(x2:Int)(s1:(List Int)×Int):Option (((List Int)×Int)⊕(List Int)):=
 cond (decide (s1.2<(x1.length:Int))) (
  (rng (s1.2+x0.Dim)).bind fun v1=>
  (yB x1 s1.2 v1).bind fun v2=>
  (ixO x0.zQ x2).bind fun v3=>
  (f_G x0.Prime v2 v3 x0.Dim).bind fun r4=>
  (xU s1.1 r4).bind fun v5=>
  (rng (s1.2+x0.Dim)).bind fun v6=>
  some (.inl (v5,v6))) (
  some (.inr s1.1))
def zUH(x0:zG)(x1:List Int)(x2:Int):Option (List Int):=
 (zI (zMk x0 x1 x2) ([],0)).bind fun r7=>
 some r7
def zN2(x0:zY)(x1:Int):Option zH:=
 (ixO x0.p.zU x1).bind fun v1=>
 (ixO x0.zMt x1).bind fun v2=>
 some (zH.mk v1 v2)
def zUI(g_d:zY→Int→zH→zH→Option zH)(x0:zY)(x1:Int)(x2:zH)(s5:(List Int)×(List Int)×Int)(s6:(List Int)×(List Int)×Int):Option (((List Int)×(List Int)×Int)⊕((List Int)×(List Int))):=
 (ixO x2.x s5.2.2).bind fun v3=>
 cond (decide (s6.2.2<v3)) (
  (rng (x1+1)).bind fun v4=>
  (f_Q x0 x1 s5.2.2).bind fun r5=>
  (g_d x0 v4 (zH.mk s6.1 s6.2.1) r5).bind fun r6=>
  (rng (s6.2.2+1)).bind fun v7=>
  some (.inl (r6.x,r6.v,v7))) (
  some (.inr (s6.1,s6.2.1)))
def zTl(g_d:zY→Int→zH→zH→Option zH)(x0:zY)(x1:Int)(x2:zH)(s5:(List Int)×(List Int)×Int):Option (((List Int)×(List Int)×Int)⊕((List Int)×(List Int))):=
 cond (decide (s5.2.2<(x2.x.length:Int))) (
  (zI (zUI g_d x0 x1 x2 s5) (s5.1,s5.2.1,0)).bind fun r8=>
  (rng (s5.2.2+1)).bind fun v9=>
  some (.inl (r8.1,r8.2,v9))) (
  some (.inr (s5.1,s5.2.1)))
def b_h(g_d:zY→Int→zH→zH→Option zH)(x0:zY)(x1:Int)(x2:zH):Option zH:=
 (zMj x0).bind fun r1=>
 (rng (x1+1)).bind fun v2=>
 (zI (zTl g_d x0 x1 x2) (r1.x,r1.v,v2)).bind fun r10=>
 (zUH x0.m x2.v x1).bind fun r11=>
 (f_w x0.m.Prime r10.2 1 r11).bind fun r12=>
 some (zH.mk r10.1 r12)
def zPU(g_h:zY→Int→zH→Option zH)(x0:zY)(x1:Int)(x3:zH)(s1:(List Int)×(List Int)×Int):Option (((List Int)×(List Int)×Int)⊕((List Int)×(List Int))):=
 (ixO x3.x x1).bind fun v7=>
 cond (decide (s1.2.2<v7)) (
  (g_h x0 x1 (zH.mk s1.1 s1.2.1)).bind fun r8=>
  (rng (s1.2.2+1)).bind fun v9=>
  some (.inl (r8.x,r8.v,v9))) (
  some (.inr (s1.1,s1.2.1)))
def b_d(g_h:zY→Int→zH→Option zH)(g_d:zY→Int→zH→zH→Option zH)(x0:zY)(x1:Int)(x2:zH)(x3:zH):Option zH:=
 cond (decide (x1≥(x0.p.zA.length:Int))) (
  (xF (x0.p.zA.length:Int)).bind fun m1=>
  (f_w x0.m.Prime x2.v 1 x3.v).bind fun r2=>
  some (zH.mk (J1 m1 (0:Int)) r2)) (
  (f_y x2.x).bind fun r3=>
  (f_y x3.x).bind fun r4=>
  (ixO r3 x1).bind fun _=>
  (ixO r4 x1).bind fun _=>
  (zI (zPU g_h x0 x1 x3) (r3.set x1.toNat 0,x2.v,0)).bind fun r10=>
  (rng (x1+1)).bind fun v11=>
  (g_d x0 v11 (zH.mk r10.1 r10.2) (zH.mk (r4.set x1.toNat 0) x3.v)).bind fun r12=>
  (ixO x2.x x1).bind fun v13=>
  (ixO x3.x x1).bind fun v14=>
  (rng (v13+v14)).bind fun v15=>
  (ixO x0.p.zA x1).bind fun v16=>
  cond (decide (v15≥v16)) (
   (ixO x0.p.zA x1).bind fun v17=>
   (rng (v15-v17)).bind fun v18=>
   (rng (x1+1)).bind fun v19=>
   (zN2 x0 x1).bind fun r20=>
   (g_d x0 v19 r20 r12).bind fun r21=>
   (f_y r21.x).bind fun r22=>
   (ixO r22 x1).bind fun _=>
   some (zH.mk (r22.set x1.toNat v18) r21.v)) (
   (f_y r12.x).bind fun r24=>
   (ixO r24 x1).bind fun _=>
   some (zH.mk (r24.set x1.toNat v15) r12.v)))
mutual
def zN3:Nat→zY→Int→zH→Option zH
 |0=>fun _ _ _=>none
 |n+1=>b_h (zN4 n)
def zN4:Nat→zY→Int→zH→zH→Option zH
 |0=>fun _ _ _ _=>none
 |n+1=>b_d (zN3 n) (zN4 n)
end
def f_h(x0:zY)(x1:Int)(x2:zH):Option zH:=zDu fun n=>zN3 n x0 x1 x2
def f_d(x0:zY)(x1:Int)(x2:zH)(x3:zH):Option zH:=zDu fun n=>zN4 n x0 x1 x2 x3
def f_W(x0:zY)(x1:zH)(x2:zH):Option (List Int):=
 (rng (x0.m.Prime-1)).bind fun v1=>
 (f_w x0.m.Prime x1.v v1 x2.v).bind fun r2=>
 some r2
def zPV(x0:zY)(x1:Int)(s9:(List (List Int))×Int)(s10:(List Int)×(List Int)×Int):Option (((List Int)×(List Int)×Int)⊕((List Int)×(List Int))):=
 (ixO x0.p.zA s9.2).bind fun v3=>
 cond (decide (s10.2.2<v3)) (
  (rng (x1+1)).bind fun v4=>
  (f_Q x0 x1 s9.2).bind fun r5=>
  (f_d x0 v4 (zH.mk s10.1 s10.2.1) r5).bind fun r6=>
  (rng (s10.2.2+1)).bind fun v7=>
  some (.inl (r6.x,r6.v,v7))) (
  some (.inr (s10.1,s10.2.1)))
def zPW(x0:zY)(x1:Int)(s9:(List (List Int))×Int)(s12:(List (List Int))×Int):Option (((List (List Int))×Int)⊕(List (List Int))):=
 cond (decide (s12.2<(x0.p.zA.length:Int))) (
  (f_Q x0 x1 s9.2).bind fun r14=>
  (f_Q x0 x1 s12.2).bind fun r15=>
  (f_Q x0 s9.2 s12.2).bind fun r16=>
  (f_h x0 x1 r16).bind fun r17=>
  (rng (x1+1)).bind fun v18=>
  (f_d x0 v18 r15 r14).bind fun r19=>
  (rng (x1+1)).bind fun v20=>
  (f_d x0 v20 r14 r17).bind fun r21=>
  (f_W x0 r19 r21).bind fun r22=>
  (xU s12.1 [r22]).bind fun v23=>
  (rng (s12.2+1)).bind fun v24=>
  some (.inl (v23,v24))) (
  some (.inr s12.1))
def zTm(x0:zY)(x1:Int)(s9:(List (List Int))×Int):Option (((List (List Int))×Int)⊕(List (List Int))):=
 cond (decide (s9.2<(x0.p.zA.length:Int))) (
  (zMj x0).bind fun r2=>
  (zI (zPV x0 x1 s9) (r2.x,r2.v,0)).bind fun r8=>
  (zN2 x0 s9.2).bind fun r9=>
  (f_h x0 x1 r9).bind fun r10=>
  (f_W x0 (zH.mk r8.1 r8.2) r10).bind fun r11=>
  (xU s9.1 [r11]).bind fun v12=>
  (rng (s9.2+1)).bind fun v13=>
  (zI (zPW x0 x1 s9) (v12,v13)).bind fun r25=>
  (rng (s9.2+1)).bind fun v26=>
  some (.inl (r25,v26))) (
  some (.inr s9.1))
def zTn(x0:zY)(x1:Int)(s20:(List Int)×(List Int)×Int):Option (((List Int)×(List Int)×Int)⊕((List Int)×(List Int))):=
 (ixO x0.p.zA x1).bind fun v35=>
 cond (decide (s20.2.2<v35)) (
  (f_h x0 x1 (zH.mk s20.1 s20.2.1)).bind fun r36=>
  (rng (s20.2.2+1)).bind fun v37=>
  some (.inl (r36.x,r36.v,v37))) (
  some (.inr (s20.1,s20.2.1)))
def zPX(x0:zY)(x1:Int)(r28:zH)(s19:(List (List Int))×Int):Option (((List (List Int))×Int)⊕(List (List Int))):=
 cond (decide (s19.2<(x0.p.zA.length:Int))) (
  (zMj x0).bind fun r33=>
  (ixO r33.x s19.2).bind fun _=>
  (zI (zTn x0 x1) (r33.x.set s19.2.toNat 1,r33.v,0)).bind fun r38=>
  (rng (x1+1)).bind fun v39=>
  (f_d x0 v39 r28 (zH.mk r38.1 r38.2)).bind fun r40=>
  (rng (x1+1)).bind fun v41=>
  (f_d x0 v41 (zH.mk (r33.x.set s19.2.toNat 1) r33.v) r28).bind fun r42=>
  (f_W x0 r40 r42).bind fun r43=>
  (xU s19.1 [r43]).bind fun v44=>
  (rng (s19.2+1)).bind fun v45=>
  some (.inl (v44,v45))) (
  some (.inr s19.1))
def f_l(x0:zY)(x1:Int):Option (List (List Int)):=
 (rng (x1+1)).bind fun v1=>
 (zI (zTm x0 x1) ([],v1)).bind fun r27=>
 (zN2 x0 x1).bind fun r28=>
 (f_h x0 x1 r28).bind fun r29=>
 (f_W x0 r29 r28).bind fun r30=>
 (xU r27 [r30]).bind fun v31=>
 (rng (x1+1)).bind fun v32=>
 (zI (zPX x0 x1 r28) (v31,v32)).bind fun r46=>
 some r46
def zPY(x0:zY)(s1:(List (List Int))×Int):Option (((List (List Int))×Int)⊕(List (List Int))):=
 cond (decide (s1.2<(x0.p.zA.length:Int))) (
  (f_l x0 s1.2).bind fun r1=>
  (xU s1.1 r1).bind fun v2=>
  (rng (s1.2+1)).bind fun v3=>
  some (.inl (v2,v3))) (
  some (.inr s1.1))
def f_J(x0:zY):Option (List (List Int)):=
 (zI (zPY x0) ([],0)).bind fun r4=>
 some r4
def zXx(x0:Int)(x1:Int)(x2:List (List Int)):Option zS:=
 (f_j x0 x2).bind fun r1=>
 some (zS.mk x0 x1 r1)
def zUJ(x0:Int):Option Bool:=
 some (x0 != 0)
def zIY(x0:List Int)(s1:Int):Option (Int⊕(Unit⊕Int)):=
 cond (decide (s1<(x0.length:Int))) (
  (ixO x0 s1).bind fun v1=>
  (zUJ v1).bind fun r2=>
  cond r2 (
   some (.inr (.inr s1))) (
   (rng (s1+1)).bind fun v3=>
   some (.inl v3))) (
  some (.inr (.inl ())))
def zUK(x0:List Int):Option Int:=
 (zI (zIY x0) 0).bind fun r4=>
 match r4 with
 |(.inl r4)=>
  some (-1)
 |(.inr r4)=>
  some r4
def zMl(x0:List (List Int))(s1:(List Int)×Int):Option (((List Int)×Int)⊕(List Int)):=
 cond (decide (s1.2<(x0.length:Int))) (
  (ixO x0 s1.2).bind fun v1=>
  (zUK v1).bind fun r2=>
  (xU s1.1 [r2]).bind fun v3=>
  (rng (s1.2+1)).bind fun v4=>
  some (.inl (v3,v4))) (
  some (.inr s1.1))
def zUL(x0:List (List Int)):Option (List Int):=
 (zI (zMl x0) ([],0)).bind fun r5=>
 some r5
def zIZ(x0:zS)(r2:(List Int))(s1:(List Int)×Int):Option (((List Int)×Int)⊕(List Int)):=
 cond (decide (s1.2<(r2.length:Int))) (
  (ixO r2 s1.2).bind fun v3=>
  (ixO x0.Rows s1.2).bind fun v4=>
  (ixO s1.1 v3).bind fun v5=>
  (rng (0-v5)).bind fun v6=>
  (f_s s1.1 v4 v6 x0.Prime).bind fun r7=>
  (rng (s1.2+1)).bind fun v8=>
  some (.inl (r7,v8))) (
  some (.inr s1.1))
def zUM(x0:zS)(x1:List Int):Option (List Int):=
 (f_E x1).bind fun r1=>
 (zUL x0.Rows).bind fun r2=>
 (zI (zIZ x0 r2) (r1,0)).bind fun r9=>
 some r9
def zMm(x0:List (List Int))(s1:(List Int)×Int):Option (((List Int)×Int)⊕(List Int)):=
 cond (decide (s1.2<(x0.length:Int))) (
  (ixO x0 s1.2).bind fun v1=>
  (xU s1.1 v1).bind fun v2=>
  (rng (s1.2+1)).bind fun v3=>
  some (.inl (v2,v3))) (
  some (.inr s1.1))
def zUN(x0:List (List Int)):Option (List Int):=
 (zI (zMm x0) ([],0)).bind fun r4=>
 some r4
def zPZ(x2:Int)(r2:(List (List Int)))(s1:(List (List Int))×Int):Option (((List (List Int))×Int)⊕(List (List Int))):=
 cond (decide (s1.2<(r2.length:Int))) (
  (ixO r2 s1.2).bind fun v3=>
  (yB v3 0 x2).bind fun v4=>
  (f_S v4).bind fun r5=>
  cond r5 (
   (yB v3 x2 v3.length).bind fun v6=>
   (xU s1.1 [v6]).bind fun v7=>
   (rng (s1.2+1)).bind fun v8=>
   some (.inl (v7,v8))) (
   (rng (s1.2+1)).bind fun v9=>
   some (.inl (s1.1,v9)))) (
  some (.inr s1.1))
def f_D(x0:Int)(x1:List (List Int))(x2:Int):Option (List (List Int)):=
 (zU9 x1).bind fun r1=>
 (f_j x0 r1).bind fun r2=>
 (zI (zPZ x2 r2) ([],0)).bind fun r10=>
 (f_j x0 r10).bind fun r11=>
 some r11
def zQa(x0:List Int)(x1:Int)(s1:(List (List Int))×Int):Option (((List (List Int))×Int)⊕(List (List Int))):=
 (rng (s1.2+x1)).bind fun v1=>
 cond (decide (v1≤(x0.length:Int))) (
  (rng (s1.2+x1)).bind fun v2=>
  (yB x0 s1.2 v2).bind fun v3=>
  (f_y v3).bind fun r4=>
  (xU s1.1 [r4]).bind fun v5=>
  (rng (s1.2+x1)).bind fun v6=>
  some (.inl (v5,v6))) (
  some (.inr s1.1))
def f_V(x0:List Int)(x1:Int):Option (List (List Int)):=
 (zI (zQa x0 x1) ([],0)).bind fun r7=>
 some r7
def zTo(x0:SPr)(x1:zG)(x2:List (List Int))(s5:(List (List Int))×Int)(s6:(List Int)×Int):Option (((List Int)×Int)⊕(List Int)):=
 (ixO x0.zA s5.2).bind fun v2=>
 cond (decide (s6.2<v2)) (
  (zMg x1 x2 s6.1 s5.2).bind fun r3=>
  (rng (s6.2+1)).bind fun v4=>
  some (.inl (r3,v4))) (
  some (.inr s6.1))
def zTp(x0:SPr)(x1:zG)(x2:List (List Int))(m1:Nat)(s5:(List (List Int))×Int):Option (((List (List Int))×Int)⊕(List (List Int))):=
 cond (decide (s5.2<(x0.zA.length:Int))) (
  (zI (zTo x0 x1 x2 s5) (J1 m1 (0:Int),0)).bind fun r5=>
  (rng (x1.Prime-1)).bind fun v6=>
  (ixO x0.zU s5.2).bind fun v7=>
  (f_I x1 x2 (J1 m1 (0:Int)) v7).bind fun r8=>
  (f_w x1.Prime r5 v6 r8).bind fun r9=>
  (xU s5.1 [r9]).bind fun v10=>
  (rng (s5.2+1)).bind fun v11=>
  some (.inl (v10,v11))) (
  some (.inr s5.1))
def zTq(x0:SPr)(x1:zG)(x2:List (List Int))(m1:Nat)(s13:(List (List Int))×Int)(s14:(List (List Int))×Int):Option (((List (List Int))×Int)⊕(List (List Int))):=
 cond (decide (s14.2<(x0.zA.length:Int))) (
  (zMg x1 x2 (J1 m1 (0:Int)) s14.2).bind fun r14=>
  (zMg x1 x2 r14 s13.2).bind fun r15=>
  (zMg x1 x2 (J1 m1 (0:Int)) s13.2).bind fun r16=>
  (ixO x0.zF s13.2).bind fun v17=>
  (rng (s14.2-s13.2)).bind fun v18=>
  (rng (v18-1)).bind fun v19=>
  (ixO v17 v19).bind fun v20=>
  (f_I x1 x2 r16 v20).bind fun r21=>
  (rng (x1.Prime-1)).bind fun v22=>
  (f_w x1.Prime r15 v22 r21).bind fun r23=>
  (xU s14.1 [r23]).bind fun v24=>
  (rng (s14.2+1)).bind fun v25=>
  some (.inl (v24,v25))) (
  some (.inr s14.1))
def zQb(x0:SPr)(x1:zG)(x2:List (List Int))(m1:Nat)(s13:(List (List Int))×Int):Option (((List (List Int))×Int)⊕(List (List Int))):=
 cond (decide (s13.2<(x0.zA.length:Int))) (
  (rng (s13.2+1)).bind fun v13=>
  (zI (zTq x0 x1 x2 m1 s13) (s13.1,v13)).bind fun r26=>
  (rng (s13.2+1)).bind fun v27=>
  some (.inl (r26,v27))) (
  some (.inr s13.1))
def f_q(x0:SPr)(x1:zG)(x2:List (List Int)):Option (List (List Int)):=
 (xF x1.Dim).bind fun m1=>
 (zI (zTp x0 x1 x2 m1) ([],0)).bind fun r12=>
 (zI (zQb x0 x1 x2 m1) (r12,0)).bind fun r28=>
 some r28
def zMn(x0:SPr)(x1:zG)(v1:Int)(s1:(List (List Int))×Int):Option (((List (List Int))×Int)⊕(List (List Int))):=
 cond (decide (s1.2<v1)) (
  (xF v1).bind fun m2=>
  (ixO (J1 m2 (0:Int)) s1.2).bind fun _=>
  (f_V ((J1 m2 (0:Int)).set s1.2.toNat 1) x1.Dim).bind fun r4=>
  (f_q x0 x1 r4).bind fun r5=>
  (zUN r5).bind fun r6=>
  (xU s1.1 [r6]).bind fun v7=>
  (rng (s1.2+1)).bind fun v8=>
  some (.inl (v7,v8))) (
  some (.inr s1.1))
def zUO(x0:SPr)(x1:zG):Option (List (List Int)):=
 (rng ((x0.zA.length:Int)*x1.Dim)).bind fun v1=>
 (zI (zMn x0 x1 v1) ([],0)).bind fun r9=>
 some r9
def zTr(x0:SPr)(x1:zG):Option (List (List Int)):=
 (zUO x0 x1).bind fun r1=>
 (f_p x1.Prime r1).bind fun r2=>
 some r2
def zMo(x0:SPr)(x1:zG)(v1:Int)(s1:(List (List Int))×Int):Option (((List (List Int))×Int)⊕(List (List Int))):=
 cond (decide (s1.2<v1)) (
  (zLX v1 s1.2).bind fun r2=>
  (f_P r2 x1.Dim).bind fun r3=>
  (zUG x0 x1 r3).bind fun r4=>
  (f_u r4).bind fun r5=>
  (xU s1.1 [r5]).bind fun v6=>
  (rng (s1.2+1)).bind fun v7=>
  some (.inl (v6,v7))) (
  some (.inr s1.1))
def zTs(x0:SPr)(x1:zG):Option (List (List Int)):=
 (rng ((x0.zA.length:Int)*x1.Dim)).bind fun v1=>
 (zI (zMo x0 x1 v1) ([],0)).bind fun r8=>
 some r8
def zTt(x0:SPr)(x1:zG)(x2:List Int):Option (List (List Int)):=
 (zTs x0 x1).bind fun r1=>
 (zXx x1.Prime x1.Dim r1).bind fun r2=>
 (zUM r2 x2).bind fun r3=>
 (f_P r3 x1.Dim).bind fun r4=>
 some r4
structure zJ where
 Word:List Int
 Left:List Int
 zVM:List Int
abbrev zE(x:zJ):T:=.agg [(L 1 I) x.Word,(L 1 I) x.Left,(L 1 I) x.zVM]
instance:Enc zE:=.of fun _=>zM8 ⟨Enc.t (f:=(L 1 I)) inferInstance _,Enc.t (f:=(L 1 I)) inferInstance _,Enc.t (f:=(L 1 I)) inferInstance _,trivial⟩
structure xM where
 p:SPr
 m:zG
 sums:List zS
abbrev zJa(x:xM):T:=.agg [(Pt yN) x.p,(Pt zV) x.m,(L 3 zO) x.sums]
instance:Enc zJa:=.of fun _=>zM8 ⟨Enc.t (f:=(Pt yN)) inferInstance _,Enc.t (f:=(Pt zV)) inferInstance _,Enc.t (f:=(L 3 zO)) inferInstance _,trivial⟩
def zQc(x1:zG)(s5:(List (List Int))×Int)(s6:(List Int)×Int):Option (((List Int)×Int)⊕(List Int)):=
 cond (decide (s6.2<x1.Dim)) (
  (rng (s5.2*x1.Dim)).bind fun v5=>
  (rng (v5+s6.2)).bind fun v6=>
  (rng (v6*x1.Dim)).bind fun v7=>
  (rng (v7+s6.2)).bind fun v8=>
  (ixO s6.1 v8).bind fun _=>
  (rng (s6.2+1)).bind fun v10=>
  some (.inl (s6.1.set v8.toNat 1,v10))) (
  some (.inr s6.1))
def zTu(x1:zG)(r1:Int)(v2:Int)(s5:(List (List Int))×Int):Option (((List (List Int))×Int)⊕(List (List Int))):=
 cond (decide (s5.2<r1)) (
  (rng (v2*x1.Dim)).bind fun v3=>
  (xF v3).bind fun m4=>
  (zI (zQc x1 s5) (J1 m4 (0:Int),0)).bind fun r11=>
  (xU s5.1 [r11]).bind fun v12=>
  (rng (s5.2+1)).bind fun v13=>
  some (.inl (v12,v13))) (
  some (.inr s5.1))
def zQd(x1:zG)(r15:(List (List Int)))(s13:(List (List Int))×Int)(s14:(List Int)×Int):Option (((List Int)×Int)⊕(List Int)):=
 cond (decide (s14.2<(r15.length:Int))) (
  (ixO r15 s14.2).bind fun v16=>
  (rng (s13.2*x1.Dim)).bind fun v17=>
  (rng (s13.2+1)).bind fun v18=>
  (rng (v18*x1.Dim)).bind fun v19=>
  (yB v16 v17 v19).bind fun v20=>
  (xU s14.1 v20).bind fun v21=>
  (rng (s14.2+1)).bind fun v22=>
  some (.inl (v21,v22))) (
  some (.inr s14.1))
def zTv(x1:zG)(v2:Int)(r15:(List (List Int)))(s13:(List (List Int))×Int):Option (((List (List Int))×Int)⊕(List (List Int))):=
 cond (decide (s13.2<v2)) (
  (zI (zQd x1 r15 s13) ([],0)).bind fun r23=>
  (xU s13.1 [r23]).bind fun v24=>
  (rng (s13.2+1)).bind fun v25=>
  some (.inl (v24,v25))) (
  some (.inr s13.1))
def f_m(x0:SPr)(x1:zG):Option (List (List Int)):=
 (zUE x0).bind fun r1=>
 (rng (r1*x1.Dim)).bind fun v2=>
 (zI (zTu x1 r1 v2) ([],0)).bind fun r14=>
 (f_J (zY.mk x0 x1 r14)).bind fun r15=>
 (zI (zTv x1 v2 r15) ([],0)).bind fun r26=>
 (rng ((r15.length:Int)*x1.Dim)).bind fun v27=>
 (f_U x1.Prime r26 v27).bind fun r28=>
 some r28
def f_X(x0:SPr)(x1:List Int)(x2:Int):Option (List Int):=
 (rng (x2+1)).bind fun v1=>
 cond (decide (v1<(x1.length:Int))) (
  (ixO x1 x2).bind fun v2=>
  (rng (x2+1)).bind fun v3=>
  (ixO x1 v3).bind fun v4=>
  cond (decide (v2> v4)) (
   (ixO x1 x2).bind fun v5=>
   (rng (v5-1)).bind fun v6=>
   (rng (x2+1)).bind fun v7=>
   (ixO x1 v7).bind fun v8=>
   (rng (v8-1)).bind fun v9=>
   (yB x1 0 x2).bind fun v10=>
   (rng (v9+1)).bind fun v11=>
   (ixO x0.zF v9).bind fun v12=>
   (rng (v6-v9)).bind fun v13=>
   (rng (v13-1)).bind fun v14=>
   (ixO v12 v14).bind fun v15=>
   (f_v v15).bind fun r16=>
   (rng (x2+2)).bind fun v17=>
   (yB x1 v17 x1.length).bind fun v18=>
   (f_u [v10,[v11],r16,v18]).bind fun r19=>
   some r19) (
   (ixO x1 x2).bind fun v20=>
   (rng (v20-1)).bind fun v21=>
   (yB x1 0 x2).bind fun v22=>
   (ixO x0.zU v21).bind fun v23=>
   (f_v v23).bind fun r24=>
   (ixO x0.zA v21).bind fun v25=>
   (rng (x2+v25)).bind fun v26=>
   (yB x1 v26 x1.length).bind fun v27=>
   (f_u [v22,r24,v27]).bind fun r28=>
   some r28)) (
  (ixO x1 x2).bind fun v2=>
  (rng (v2-1)).bind fun v3=>
  (yB x1 0 x2).bind fun v4=>
  (ixO x0.zU v3).bind fun v5=>
  (f_v v5).bind fun r6=>
  (ixO x0.zA v3).bind fun v7=>
  (rng (x2+v7)).bind fun v8=>
  (yB x1 v8 x1.length).bind fun v9=>
  (f_u [v4,r6,v9]).bind fun r10=>
  some r10)
def f_O(x0:List Int)(x1:Int)(x2:List zJ)(x3:SPr):Option (List zJ):=
 (f_X x3 x0 0).bind fun r1=>
 (f_X x3 x0 x1).bind fun r2=>
 (xU x2 [(zJ.mk x0 r1 r2)]).bind fun v3=>
 some v3
def zMp(x0:Int)(x1:Int):Option (List Int):=
 (f_i [x0] x1).bind fun r1=>
 some r1
def zQe(x0:SPr)(s17:(List zJ)×Int)(s22:(List zJ)×Int)(s23:(List zJ)×Int):Option (((List zJ)×Int)⊕(List zJ)):=
 cond (decide (s23.2≤(x0.zA.length:Int))) (
  (f_O [s23.2,s22.2,s17.2] 1 s23.1 x0).bind fun r3=>
  (rng (s23.2+1)).bind fun v4=>
  some (.inl (r3,v4))) (
  some (.inr s23.1))
def zQf(x0:SPr)(s17:(List zJ)×Int)(s22:(List zJ)×Int):Option (((List zJ)×Int)⊕(List zJ)):=
 cond (decide (s22.2≤(x0.zA.length:Int))) (
  (rng (s22.2+1)).bind fun v2=>
  (zI (zQe x0 s17 s22) (s22.1,v2)).bind fun r5=>
  (rng (s22.2+1)).bind fun v6=>
  some (.inl (r5,v6))) (
  some (.inr s22.1))
def zQg(x0:SPr)(s17:(List zJ)×Int):Option (((List zJ)×Int)⊕(List zJ)):=
 cond (decide (s17.2≤(x0.zA.length:Int))) (
  (rng (s17.2+1)).bind fun v1=>
  (zI (zQf x0 s17) (s17.1,v1)).bind fun r7=>
  (rng (s17.2+1)).bind fun v8=>
  some (.inl (r7,v8))) (
  some (.inr s17.1))
def zQh(x0:SPr)(s31:(List zJ)×Int)(s32:(List zJ)×Int):Option (((List zJ)×Int)⊕(List zJ)):=
 cond (decide (s32.2≤(x0.zA.length:Int))) (
  (rng (s32.2-1)).bind fun v11=>
  (ixO x0.zA v11).bind fun v12=>
  (zMp s32.2 v12).bind fun r13=>
  (xU r13 [s31.2]).bind fun v14=>
  (rng (s32.2-1)).bind fun v15=>
  (ixO x0.zA v15).bind fun v16=>
  (rng (v16-1)).bind fun v17=>
  (f_O v14 v17 s32.1 x0).bind fun r18=>
  (rng (s32.2+1)).bind fun v19=>
  some (.inl (r18,v19))) (
  some (.inr s32.1))
def zQi(x0:SPr)(s31:(List zJ)×Int):Option (((List zJ)×Int)⊕(List zJ)):=
 cond (decide (s31.2≤(x0.zA.length:Int))) (
  (rng (s31.2+1)).bind fun v10=>
  (zI (zQh x0 s31) (s31.1,v10)).bind fun r20=>
  (rng (s31.2+1)).bind fun v21=>
  some (.inl (r20,v21))) (
  some (.inr s31.1))
def zQj(x0:SPr)(s39:(List zJ)×Int)(s40:(List zJ)×Int):Option (((List zJ)×Int)⊕(List zJ)):=
 cond (decide (s40.2≤(x0.zA.length:Int))) (
  (rng (s39.2-1)).bind fun v24=>
  (ixO x0.zA v24).bind fun v25=>
  (zMp s39.2 v25).bind fun r26=>
  (xU [s40.2] r26).bind fun v27=>
  (f_O v27 1 s40.1 x0).bind fun r28=>
  (rng (s40.2+1)).bind fun v29=>
  some (.inl (r28,v29))) (
  some (.inr s40.1))
def zQk(x0:SPr)(s39:(List zJ)×Int):Option (((List zJ)×Int)⊕(List zJ)):=
 cond (decide (s39.2≤(x0.zA.length:Int))) (
  (rng (s39.2+1)).bind fun v23=>
  (zI (zQj x0 s39) (s39.1,v23)).bind fun r30=>
  (rng (s39.2+1)).bind fun v31=>
  some (.inl (r30,v31))) (
  some (.inr s39.1))
def zQl(x0:SPr)(s43:(List zJ)×Int):Option (((List zJ)×Int)⊕(List zJ)):=
 cond (decide (s43.2≤(x0.zA.length:Int))) (
  (rng (s43.2-1)).bind fun v33=>
  (ixO x0.zA v33).bind fun v34=>
  (rng (v34+1)).bind fun v35=>
  (zMp s43.2 v35).bind fun r36=>
  (f_O r36 1 s43.1 x0).bind fun r37=>
  (rng (s43.2+1)).bind fun v38=>
  some (.inl (r37,v38))) (
  some (.inr s43.1))
def f_e(x0:SPr):Option (List zJ):=
 (zI (zQg x0) ([],1)).bind fun r9=>
 (zI (zQi x0) (r9,1)).bind fun r22=>
 (zI (zQk x0) (r22,1)).bind fun r32=>
 (zI (zQl x0) (r32,1)).bind fun r39=>
 some r39
def zUP(x0:xM)(x1:List Int)(x2:Int):Option Int:=
 (rng (x2+1)).bind fun v1=>
 cond (decide (v1<(x1.length:Int))) (
  (ixO x1 x2).bind fun v2=>
  (rng (x2+1)).bind fun v3=>
  (ixO x1 v3).bind fun v4=>
  cond (decide (v2> v4)) (
   (ixO x1 x2).bind fun v5=>
   (rng (v5-1)).bind fun v6=>
   (rng (x2+1)).bind fun v7=>
   (ixO x1 v7).bind fun v8=>
   (rng (v8-1)).bind fun v9=>
   (rng ((x0.p.zA.length:Int)-1)).bind fun v10=>
   (rng (v9*v10)).bind fun v11=>
   (rng ((x0.p.zA.length:Int)+v11)).bind fun v12=>
   (rng (v9-1)).bind fun v13=>
   (rng (v9*v13)).bind fun v14=>
   (uZ v14 2).bind fun v15=>
   (rng (v12-v15)).bind fun v16=>
   (rng (v16+v6)).bind fun v17=>
   (rng (v17-v9)).bind fun v18=>
   (rng (v18-1)).bind fun v19=>
   some v19) (
   (ixO x1 x2).bind fun v20=>
   (rng (v20-1)).bind fun v21=>
   some v21)) (
  (ixO x1 x2).bind fun v2=>
  (rng (v2-1)).bind fun v3=>
  some v3)
def zTw(x0:xM)(x3:Int)(r1:Int)(r9:zS)(s1:(List zS)×Int):Option (((List zS)×Int)⊕(List zS)):=
 cond (decide (s1.2<(r9.Rows.length:Int))) (
  (ixO r9.Rows s1.2).bind fun v10=>
  (ixO s1.1 r1).bind fun v11=>
  (ixO v11.Rows s1.2).bind fun v12=>
  (f_s v12 v10 x3 x0.m.Prime).bind fun r13=>
  (rng (s1.2+1)).bind fun v14=>
  some (.inl (s1.1.set r1.toNat (zS.mk v11.Prime v11.xN (v11.Rows.set s1.2.toNat r13)),v14))) (
  some (.inr s1.1))
def zTx(x0:xM)(x3:Int)(r1:Int)(r12:zS)(s3:(List zS)×Int):Option (((List zS)×Int)⊕(List zS)):=
 cond (decide (s3.2<(r12.Rows.length:Int))) (
  (ixO r12.Rows s3.2).bind fun v13=>
  (ixO s3.1 r1).bind fun v14=>
  (ixO v14.Rows s3.2).bind fun v15=>
  (f_s v15 v13 x3 x0.m.Prime).bind fun r16=>
  (rng (s3.2+1)).bind fun v17=>
  some (.inl (s3.1.set r1.toNat (zS.mk v14.Prime v14.xN (v14.Rows.set s3.2.toNat r16)),v17))) (
  some (.inr s3.1))
def zTy(x0:xM)(x3:Int)(r1:Int)(r21:zS)(s5:(List zS)×Int):Option (((List zS)×Int)⊕(List zS)):=
 cond (decide (s5.2<(r21.Rows.length:Int))) (
  (ixO r21.Rows s5.2).bind fun v22=>
  (ixO s5.1 r1).bind fun v23=>
  (ixO v23.Rows s5.2).bind fun v24=>
  (f_s v24 v22 x3 x0.m.Prime).bind fun r25=>
  (rng (s5.2+1)).bind fun v26=>
  some (.inl (s5.1.set r1.toNat (zS.mk v23.Prime v23.xN (v23.Rows.set s5.2.toNat r25)),v26))) (
  some (.inr s5.1))
def f_k(x0:xM)(x1:List Int)(x2:Int)(x3:Int):Option ((List Int)×xM):=
 (zUP x0 x1 x2).bind fun r1=>
 (f_X x0.p x1 x2).bind fun r2=>
 (rng (x2+1)).bind fun v3=>
 cond (decide (v3≥(x1.length:Int))) (
  (ixO x1 x2).bind fun v4=>
  (rng (v4-1)).bind fun v5=>
  (ixO x0.p.zA v5).bind fun v6=>
  (rng (x2+v6)).bind fun v7=>
  (yB x1 v7 x1.length).bind fun v8=>
  (f_L x0.m v8).bind fun r9=>
  (zI (zTw x0 x3 r1 r9) (x0.sums,0)).bind fun r15=>
  some (r2,(xM.mk x0.p x0.m r15))) (
  (ixO x1 x2).bind fun v4=>
  (rng (x2+1)).bind fun v5=>
  (ixO x1 v5).bind fun v6=>
  cond (decide (v4≤v6)) (
   (ixO x1 x2).bind fun v7=>
   (rng (v7-1)).bind fun v8=>
   (ixO x0.p.zA v8).bind fun v9=>
   (rng (x2+v9)).bind fun v10=>
   (yB x1 v10 x1.length).bind fun v11=>
   (f_L x0.m v11).bind fun r12=>
   (zI (zTx x0 x3 r1 r12) (x0.sums,0)).bind fun r18=>
   some (r2,(xM.mk x0.p x0.m r18))) (
   (rng (x2+2)).bind fun v19=>
   (yB x1 v19 x1.length).bind fun v20=>
   (f_L x0.m v20).bind fun r21=>
   (zI (zTy x0 x3 r1 r21) (x0.sums,0)).bind fun r27=>
   some (r2,(xM.mk x0.p x0.m r27))))
def zN5(x1:List Int)(x2:Int)(v10:List Int)(s1:Int):Option (Int⊕(Unit⊕Bool)):=
 cond (decide (s1<(v10.length:Int))) (
  (ixO v10 s1).bind fun v11=>
  (ixO x1 x2).bind fun v12=>
  cond (v11 != v12) (
   some (.inr (.inr false))) (
   (rng (s1+1)).bind fun v13=>
   some (.inl v13))) (
  some (.inr (.inl ())))
def zN6(x1:List Int)(x2:Int)(v7:List Int)(s3:Int):Option (Int⊕(Unit⊕Bool)):=
 cond (decide (s3<(v7.length:Int))) (
  (ixO v7 s3).bind fun v8=>
  (ixO x1 x2).bind fun v9=>
  cond (v8 != v9) (
   some (.inr (.inr false))) (
   (rng (s3+1)).bind fun v10=>
   some (.inl v10))) (
  some (.inr (.inl ())))
def f_B(x0:SPr)(x1:List Int)(x2:Int):Option Bool:=
 (rng (x2+1)).bind fun v1=>
 cond (decide (v1<(x1.length:Int))) (
  (ixO x1 x2).bind fun v2=>
  (rng (x2+1)).bind fun v3=>
  (ixO x1 v3).bind fun v4=>
  cond (decide (v2> v4)) (
   some true) (
   (ixO x1 x2).bind fun v5=>
   (rng (v5-1)).bind fun v6=>
   (ixO x0.zA v6).bind fun v7=>
   (rng (x2+v7)).bind fun v8=>
   cond (decide (v8> (x1.length:Int))) (
    some false) (
    (rng (x2+v7)).bind fun v9=>
    (yB x1 x2 v9).bind fun v10=>
    (zI (zN5 x1 x2 v10) 0).bind fun r14=>
    match r14 with
    |(.inl r14)=>
     some true
    |(.inr r14)=>
     some r14))) (
  (ixO x1 x2).bind fun v2=>
  (rng (v2-1)).bind fun v3=>
  (ixO x0.zA v3).bind fun v4=>
  (rng (x2+v4)).bind fun v5=>
  cond (decide (v5> (x1.length:Int))) (
   some false) (
   (rng (x2+v4)).bind fun v6=>
   (yB x1 x2 v6).bind fun v7=>
   (zI (zN6 x1 x2 v7) 0).bind fun r11=>
   match r11 with
   |(.inl r11)=>
    some true
   |(.inr r11)=>
    some r11))
def zTz(x0:SPr)(x1:List Int)(s1:Int):Option (Int⊕(Unit⊕Int)):=
 cond (decide (s1<(x1.length:Int))) (
  (f_B x0 x1 s1).bind fun r1=>
  cond r1 (
   some (.inr (.inr s1))) (
   (rng (s1+1)).bind fun v2=>
   some (.inl v2))) (
  some (.inr (.inl ())))
def f_N(x0:SPr)(x1:List Int):Option Int:=
 (zI (zTz x0 x1) 0).bind fun r3=>
 match r3 with
 |(.inl r3)=>
  some (-1)
 |(.inr r3)=>
  some r3
def zQm(x2:Int)(s1:SPr×zG×(List zS)×(List Int)×Int):Option ((SPr×zG×(List zS)×(List Int)×Int)⊕(SPr×zG×(List zS))):=
 cond (decide (s1.2.2.2.2≥0)) (
  (f_k (xM.mk s1.1 s1.2.1 s1.2.2.1) s1.2.2.2.1 s1.2.2.2.2 x2).bind fun r2=>
  (f_N r2.2.p r2.1).bind fun r3=>
  some (.inl (r2.2.p,r2.2.m,r2.2.sums,r2.1,r3))) (
  some (.inr (s1.1,s1.2.1,s1.2.2.1)))
def f_r(x0:xM)(x1:List Int)(x2:Int):Option xM:=
 (f_N x0.p x1).bind fun r1=>
 (zI (zQm x2) (x0.p,x0.m,x0.sums,x1,r1)).bind fun r4=>
 some (xM.mk r4.1 r4.2.1 r4.2.2)
def zQn(r6:zS)(s71:(List (List Int))×Int):Option (((List (List Int))×Int)⊕(List (List Int))):=
 cond (decide (s71.2<(r6.Rows.length:Int))) (
  (ixO s71.1 s71.2).bind fun v7=>
  (ixO v7 s71.2).bind fun _=>
  (rng (s71.2+1)).bind fun v9=>
  some (.inl (s71.1.set s71.2.toNat (v7.set s71.2.toNat 0),v9))) (
  some (.inr s71.1))
def zQo(x1:zG)(r1:Int)(s70:(List zS)×Int):Option (((List zS)×Int)⊕(List zS)):=
 cond (decide (s70.2<r1)) (
  (f_K x1.Prime x1.Dim).bind fun r6=>
  (zI (zQn r6) (r6.Rows,0)).bind fun r10=>
  (xU s70.1 [(zS.mk r6.Prime r6.xN r10)]).bind fun v11=>
  (rng (s70.2+1)).bind fun v12=>
  some (.inl (v11,v12))) (
  some (.inr s70.1))
def zQp(x1:zG)(s78:(List (List Int))×Int)(v23:zS)(s79:(List (List Int))×Int):Option (((List (List Int))×Int)⊕(List (List Int))):=
 cond (decide (s79.2<(v23.Rows.length:Int))) (
  (ixO v23.Rows s79.2).bind fun v24=>
  (rng (s78.2*x1.Dim)).bind fun v25=>
  (rng (v25+s79.2)).bind fun v26=>
  (ixO s79.1 v26).bind fun v27=>
  (xU v27 v24).bind fun v28=>
  (rng (s79.2+1)).bind fun v29=>
  some (.inl (s79.1.set v26.toNat v28,v29))) (
  some (.inr s79.1))
def zMq(x1:zG)(r22:xM)(s78:(List (List Int))×Int):Option (((List (List Int))×Int)⊕(List (List Int))):=
 cond (decide (s78.2<(r22.sums.length:Int))) (
  (ixO r22.sums s78.2).bind fun v23=>
  (zI (zQp x1 s78 v23) (s78.1,0)).bind fun r30=>
  (rng (s78.2+1)).bind fun v31=>
  some (.inl (r30,v31))) (
  some (.inr s78.1))
def zZv(x1:zG)(s86:(List (List Int))×Int)(v38:zS)(s87:(List (List Int))×Int):Option (((List (List Int))×Int)⊕(List (List Int))):=
 cond (decide (s87.2<(v38.Rows.length:Int))) (
  (ixO v38.Rows s87.2).bind fun v39=>
  (rng (s86.2*x1.Dim)).bind fun v40=>
  (rng (v40+s87.2)).bind fun v41=>
  (ixO s87.1 v41).bind fun v42=>
  (xU v42 v39).bind fun v43=>
  (rng (s87.2+1)).bind fun v44=>
  some (.inl (s87.1.set v41.toNat v43,v44))) (
  some (.inr s87.1))
def zXy(x1:zG)(r37:xM)(s86:(List (List Int))×Int):Option (((List (List Int))×Int)⊕(List (List Int))):=
 cond (decide (s86.2<(r37.sums.length:Int))) (
  (ixO r37.sums s86.2).bind fun v38=>
  (zI (zZv x1 s86 v38) (s86.1,0)).bind fun r45=>
  (rng (s86.2+1)).bind fun v46=>
  some (.inl (r45,v46))) (
  some (.inr s86.1))
def zZw(x1:zG)(s94:(List (List Int))×Int)(v20:zS)(s95:(List (List Int))×Int):Option (((List (List Int))×Int)⊕(List (List Int))):=
 cond (decide (s95.2<(v20.Rows.length:Int))) (
  (ixO v20.Rows s95.2).bind fun v21=>
  (rng (s94.2*x1.Dim)).bind fun v22=>
  (rng (v22+s95.2)).bind fun v23=>
  (ixO s95.1 v23).bind fun v24=>
  (xU v24 v21).bind fun v25=>
  (rng (s95.2+1)).bind fun v26=>
  some (.inl (s95.1.set v23.toNat v25,v26))) (
  some (.inr s95.1))
def zXz(x1:zG)(r19:xM)(s94:(List (List Int))×Int):Option (((List (List Int))×Int)⊕(List (List Int))):=
 cond (decide (s94.2<(r19.sums.length:Int))) (
  (ixO r19.sums s94.2).bind fun v20=>
  (zI (zZw x1 s94 v20) (s94.1,0)).bind fun r27=>
  (rng (s94.2+1)).bind fun v28=>
  some (.inl (r27,v28))) (
  some (.inr s94.1))
def zQq(x0:SPr)(x1:zG)(r1:Int)(r4:(List zJ))(s65:(List (List Int))×Int):Option (((List (List Int))×Int)⊕(List (List Int))):=
 cond (decide (s65.2<(r4.length:Int))) (
  (ixO r4 s65.2).bind fun v5=>
  (zI (zQo x1 r1) ([],0)).bind fun r13=>
  (ixO v5.Word 0).bind fun v14=>
  (ixO v5.Word 1).bind fun v15=>
  cond (v14==v15) (
   (rng ((v5.Word.length:Int)-1)).bind fun v16=>
   (ixO v5.Word v16).bind fun v17=>
   cond (v17 != v14) (
    (rng ((v5.Word.length:Int)-2)).bind fun v18=>
    (f_k (xM.mk x0 x1 r13) v5.Word 0 1).bind fun r19=>
    (f_r r19.2 r19.1 1).bind fun r20=>
    (f_k r20 v5.Word v18 (-1)).bind fun r21=>
    (f_r r21.2 r21.1 (-1)).bind fun r22=>
    (zI (zMq x1 r22) (s65.1,0)).bind fun r32=>
    (rng (s65.2+1)).bind fun v33=>
    some (.inl (r32,v33))) (
    (f_k (xM.mk x0 x1 r13) v5.Word 0 1).bind fun r34=>
    (f_r r34.2 r34.1 1).bind fun r35=>
    (f_k r35 v5.Word 1 (-1)).bind fun r36=>
    (f_r r36.2 r36.1 (-1)).bind fun r37=>
    (zI (zXy x1 r37) (s65.1,0)).bind fun r47=>
    (rng (s65.2+1)).bind fun v48=>
    some (.inl (r47,v48)))) (
   (f_k (xM.mk x0 x1 r13) v5.Word 0 1).bind fun r16=>
   (f_r r16.2 r16.1 1).bind fun r17=>
   (f_k r17 v5.Word 1 (-1)).bind fun r18=>
   (f_r r18.2 r18.1 (-1)).bind fun r19=>
   (zI (zXz x1 r19) (s65.1,0)).bind fun r29=>
   (rng (s65.2+1)).bind fun v30=>
   some (.inl (r29,v30)))) (
  some (.inr s65.1))
def f_f(x0:SPr)(x1:zG):Option (List (List Int)):=
 (zUF x0).bind fun r1=>
 (rng (r1*x1.Dim)).bind fun v2=>
 (xF v2).bind fun m3=>
 (f_e x0).bind fun r4=>
 (zI (zQq x0 x1 r1 r4) (J1 m3 ([]:List Int),0)).bind fun r31=>
 cond (decide ((r31.length:Int)> 0)) (
  (ixO r31 0).bind fun v32=>
  (f_D x1.Prime r31 (v32.length:Int)).bind fun r33=>
  some r33) (
  (f_D x1.Prime r31 0).bind fun r34=>
  some r34)
def zVK(x0:SPr)(s1:Int):Option (Int⊕(Unit⊕Bool)):=
 cond (decide (s1<(x0.zA.length:Int))) (
  (ixO x0.zA s1).bind fun v2=>
  (ixO x0.zA 0).bind fun v3=>
  cond (v2 != v3) (
   some (.inr (.inr false))) (
   (rng (s1+1)).bind fun v4=>
   some (.inl v4))) (
  some (.inr (.inl ())))
def zUQ(x0:SPr):Option Bool:=
 (zS4 x0).bind fun r1=>
 cond (!r1) (
  some false) (
  cond ((x0.zA.length:Int)==0) (
   some false) (
   (zI (zVK x0) 0).bind fun r5=>
   match r5 with
   |(.inl r5)=>
    some true
   |(.inr r5)=>
    some r5))
def zT0(x0:SPr)(s1:Int×Int):Option ((Int×Int)⊕Int):=
 cond (decide (s1.2<(x0.zA.length:Int))) (
  (ixO x0.zA s1.2).bind fun v1=>
  (rng (s1.1*v1)).bind fun v2=>
  (rng (s1.2+1)).bind fun v3=>
  some (.inl (v2,v3))) (
  some (.inr s1.1))
def zX0(x0:SPr):Option Int:=
 (zI (zT0 x0) (1,0)).bind fun r4=>
 some r4
def zUR(x0:SPr):Option Int:=
 (zS4 x0).bind fun r1=>
 cond (!r1) (
  some 1) (
  (zUQ x0).bind fun r2=>
  cond (!r2) (
   some 5) (
   (zX0 x0).bind fun r3=>
   cond (decide (r3> 81)) (
    some 3) (
    some 0)))
def zT1(x0:SPr)(x2:Int)(s1:(List (List (List Int)))×Int):Option (((List (List (List Int)))×Int)⊕(List (List (List Int)))):=
 cond (decide (s1.2<(x0.zA.length:Int))) (
  (f_H x2).bind fun r1=>
  (xU s1.1 [r1]).bind fun v2=>
  (rng (s1.2+1)).bind fun v3=>
  some (.inl (v2,v3))) (
  some (.inr s1.1))
def f_R(x0:SPr)(x1:Int)(x2:Int):Option zG:=
 (zI (zT1 x0 x2) ([],0)).bind fun r4=>
 some (zG.mk x1 x2 r4)
def zX1(x0:SPr):Option zG:=
 (ixO x0.zA 0).bind fun v1=>
 (f_R x0 v1 1).bind fun r2=>
 some r2
def zMr(x1:zG)(r1:(List (List Int)))(r2:(List (List Int)))(s1:(List (List Int))×Int):Option (((List (List Int))×Int)⊕(List (List Int))):=
 cond (decide (s1.2<(r2.length:Int))) (
  (ixO r2 s1.2).bind fun v3=>
  (f_T x1.Prime r1 v3).bind fun r4=>
  (xU s1.1 [r4]).bind fun v5=>
  (rng (s1.2+1)).bind fun v6=>
  some (.inl (v5,v6))) (
  some (.inr s1.1))
def zUS(x0:SPr)(x1:zG):Option (List (List Int)):=
 (zTr x0 x1).bind fun r1=>
 (f_m x0 x1).bind fun r2=>
 (zI (zMr x1 r1 r2) ([],0)).bind fun r7=>
 (f_p x1.Prime r7).bind fun r8=>
 some r8
def zUT(x0:SPr):Option (List (List Int)):=
 (zX1 x0).bind fun r1=>
 (zUS x0 r1).bind fun r2=>
 some r2
def zT2(x0:SPr):Option (Int×Int):=
 (zUR x0).bind fun r1=>
 cond (r1 != 0) (
  some (0,r1)) (
  (zUT x0).bind fun r2=>
  some ((r2.length:Int),0))
def zVL(x0:SPr)(s1:Int):Option (Int⊕(Unit⊕Bool)):=
 cond (decide (s1<(x0.zA.length:Int))) (
  (ixO x0.zA s1).bind fun v2=>
  (ixO x0.zA 0).bind fun v3=>
  cond (v2 != v3) (
   some (.inr (.inr false))) (
   (rng (s1+1)).bind fun v4=>
   some (.inl v4))) (
  some (.inr (.inl ())))
def zUU(x0:SPr):Option Bool:=
 (zSN x0).bind fun r1=>
 cond (!r1) (
  some false) (
  cond ((x0.zA.length:Int)==0) (
   some false) (
   (zI (zVL x0) 0).bind fun r5=>
   match r5 with
   |(.inl r5)=>
    some true
   |(.inr r5)=>
    some r5))
def zT3(x0:SPr)(s1:Int×Int):Option ((Int×Int)⊕Int):=
 cond (decide (s1.2<(x0.zA.length:Int))) (
  (ixO x0.zA s1.2).bind fun v1=>
  (rng (s1.1*v1)).bind fun v2=>
  (rng (s1.2+1)).bind fun v3=>
  some (.inl (v2,v3))) (
  some (.inr s1.1))
def zX2(x0:SPr):Option Int:=
 (zI (zT3 x0) (1,0)).bind fun r4=>
 some r4
def zUV(x0:SPr):Option Int:=
 (zSN x0).bind fun r1=>
 cond (!r1) (
  some 1) (
  (zUU x0).bind fun r2=>
  cond (!r2) (
   some 5) (
   (zX2 x0).bind fun r3=>
   cond (decide (r3> 81)) (
    some 3) (
    some 0)))
def zMs(x0:SPr)(x1:Int)(x2:Int)(s1:(List (List (List Int)))×Int):Option (((List (List (List Int)))×Int)⊕(List (List (List Int)))):=
 cond (decide (s1.2<(x0.zA.length:Int))) (
  (f_K x1 x2).bind fun r1=>
  (xU s1.1 [r1.Rows]).bind fun v2=>
  (rng (s1.2+1)).bind fun v3=>
  some (.inl (v2,v3))) (
  some (.inr s1.1))
def zUW(x0:SPr)(x1:Int)(x2:Int):Option zG:=
 (zI (zMs x0 x1 x2) ([],0)).bind fun r4=>
 some (zG.mk x1 x2 r4)
def zT4(x0:SPr)(r2:zG)(r3:(List (List Int)))(s1:(List (List Int))×Int):Option (((List (List Int))×Int)⊕(List (List Int))):=
 cond (decide (s1.2<(r3.length:Int))) (
  (ixO r3 s1.2).bind fun v4=>
  (zTt x0 r2 v4).bind fun r5=>
  (f_u r5).bind fun r6=>
  (xU s1.1 [r6]).bind fun v7=>
  (rng (s1.2+1)).bind fun v8=>
  some (.inl (v7,v8))) (
  some (.inr s1.1))
def zUX(x0:SPr):Option (List (List Int)):=
 (ixO x0.zA 0).bind fun v1=>
 (zUW x0 v1 1).bind fun r2=>
 (f_f x0 r2).bind fun r3=>
 (zI (zT4 x0 r2 r3) ([],0)).bind fun r9=>
 (f_j r2.Prime r9).bind fun r10=>
 some r10
def zT5(x0:SPr):Option (Int×Int):=
 (zUV x0).bind fun r1=>
 cond (r1 != 0) (
  some (0,r1)) (
  (zUX x0).bind fun r2=>
  some ((r2.length:Int),0))
def zUY(x0:SPr):Option Bool:=
 (zUx x0 1048576).bind fun r1=>
 cond (decide (r1<0)) (
  some true) (
  (zPL x0).bind fun r2=>
  (zT2 r2).bind fun r3=>
  (zPL x0).bind fun r4=>
  (zT5 r4).bind fun r5=>
  cond (r5.1 != r3.1) (
   some false) (
   cond (r5.2 != r3.2) (
    some false) (
    (zPL x0).bind fun r6=>
    (zU8 r4 r6).bind fun r7=>
    cond (!r7) (
     some false) (
     some true))))
def zJb(x0:SPr)(x1:zG)(r2:(List (List Int)))(s1:(List (List Int))×Int):Option (((List (List Int))×Int)⊕(List (List Int))):=
 cond (decide (s1.2<(r2.length:Int))) (
  (ixO r2 s1.2).bind fun v3=>
  (zTt x0 x1 v3).bind fun r4=>
  (f_u r4).bind fun r5=>
  (xU s1.1 [r5]).bind fun v6=>
  (rng (s1.2+1)).bind fun v7=>
  some (.inl (v6,v7))) (
  some (.inr s1.1))
end Go.Wk
