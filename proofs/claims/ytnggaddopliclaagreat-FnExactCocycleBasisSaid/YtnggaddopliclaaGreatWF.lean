/- The program's CocycleBasis returns what the reference's returns,for all arguments;no conditions. -/
import Derived.Test.YtnggaddopliclaaGreatAbC
open List renaming replicate→J1
open Int renaming fdiv→Gy
noncomputable section
namespace Go.Wk
open Go Go.Ab
structure SPr where
 zA:List Int
 zS:List (List Int)
 zC:List (List (List Int))
abbrev yM(x:SPr):T:=.agg [(L 1 I) x.zA,(L 1 (L 1 I)) x.zS,(L 1 (L 1 (L 1 I))) x.zC]
instance:Enc yM:=.of fun _=>zMy ⟨Enc.t (f:=(L 1 I)) inferInstance _,Enc.t (f:=(L 1 (L 1 I))) inferInstance _,Enc.t (f:=(L 1 (L 1 (L 1 I)))) inferInstance _,trivial⟩
structure zH where
 Prime:Int
 Dim:Int
 zF:List (List (List Int))
abbrev zV(x:zH):T:=.agg [I x.Prime,I x.Dim,(L 1 (L 1 (L 1 I))) x.zF]
instance:Enc zV:=.of fun _=>zMy ⟨Enc.t (f:=I) inferInstance _,Enc.t (f:=I) inferInstance _,Enc.t (f:=(L 1 (L 1 (L 1 I)))) inferInstance _,trivial⟩
structure xG where
 Kind:Int
 zVD:Int
 zVE:Int
 zTv:Int
abbrev zG4(x:xG):T:=.agg [I x.Kind,I x.zVD,I x.zVE,I x.zTv]
instance:Enc zG4:=.of fun _=>zMy ⟨Enc.t (f:=I) inferInstance _,Enc.t (f:=I) inferInstance _,Enc.t (f:=I) inferInstance _,Enc.t (f:=I) inferInstance _,trivial⟩
structure zU where
 Prime:Int
 xF:Int
 Rows:List (List Int)
abbrev zO(x:zU):T:=.agg [I x.Prime,I x.xF,(L 1 (L 1 I)) x.Rows]
instance:Enc zO:=.of fun _=>zMy ⟨Enc.t (f:=I) inferInstance _,Enc.t (f:=I) inferInstance _,Enc.t (f:=(L 1 (L 1 I))) inferInstance _,trivial⟩
structure zX where
 p:SPr
 m:zH
 zMj:List (List Int)
structure zI where
 x:List Int
 v:List Int
abbrev yZ(x:zI):T:=.agg [(L 1 I) x.x,(L 1 I) x.v]
instance:Enc yZ:=.of fun _=>zMy ⟨Enc.t (f:=(L 1 I)) inferInstance _,Enc.t (f:=(L 1 I)) inferInstance _,trivial⟩
def zSh(x0:List Int)(x1:Int):Option Int:=
 (rng (x1-(x0.length:Int))).bind fun v1=>
 cond (decide (v1<0)) (
  some (-1)) (
  some v1)
def zVB(x0:List (List Int))(s1:Int×Int):Option ((Int×Int)⊕(Int⊕Int)):=
 cond (decide (s1.2<(x0.length:Int))) (
  (ixO x0 s1.2).bind fun v2=>
  (zSh v2 s1.1).bind fun r3=>
  cond (decide (r3<0)) (
   some (.inr (.inr (-1)))) (
   (rng (s1.2+1)).bind fun v4=>
   some (.inl (r3,v4)))) (
  some (.inr (.inl s1.1)))
def zUk(x0:List (List Int))(x1:Int):Option Int:=
 (rng (x1-(x0.length:Int))).bind fun v1=>
 cond (decide (v1<0)) (
  some (-1)) (
  (zJ (zVB x0) (v1,0)).bind fun r5=>
  match r5 with
  |(.inl r5)=>
   some r5
  |(.inr r5)=>
   some r5)
def zVC(x0:List (List (List Int)))(s1:Int×Int):Option ((Int×Int)⊕(Int⊕Int)):=
 cond (decide (s1.2<(x0.length:Int))) (
  (ixO x0 s1.2).bind fun v2=>
  (zUk v2 s1.1).bind fun r3=>
  cond (decide (r3<0)) (
   some (.inr (.inr (-1)))) (
   (rng (s1.2+1)).bind fun v4=>
   some (.inl (r3,v4)))) (
  some (.inr (.inl s1.1)))
def zUl(x0:List (List (List Int)))(x1:Int):Option Int:=
 (rng (x1-(x0.length:Int))).bind fun v1=>
 cond (decide (v1<0)) (
  some (-1)) (
  (zJ (zVC x0) (v1,0)).bind fun r5=>
  match r5 with
  |(.inl r5)=>
   some r5
  |(.inr r5)=>
   some r5)
def zUm(x0:SPr)(x1:Int):Option Int:=
 (zSh x0.zA x1).bind fun r1=>
 cond (decide (r1<0)) (
  some (-1)) (
  (zUk x0.zS r1).bind fun r2=>
  cond (decide (r2<0)) (
   some (-1)) (
   (zUl x0.zC r2).bind fun r3=>
   cond (decide (r3<0)) (
    some (-1)) (
    some r3)))
def zUn(x0:zH)(x1:Int):Option Int:=
 (zUl x0.zF x1).bind fun r1=>
 cond (decide (r1<0)) (
  some (-1)) (
  some r1)
def zSi(x0:List Int)(s1:(List Int)×Int):Option (((List Int)×Int)⊕(List Int)):=
 cond (decide (s1.2<(x0.length:Int))) (
  (ixO x0 s1.2).bind fun v2=>
  (ixO s1.1 s1.2).bind fun _=>
  (rng (s1.2+1)).bind fun v4=>
  some (.inl (s1.1.set s1.2.toNat v2,v4))) (
  some (.inr s1.1))
def zPF(x0:List Int):Option (List Int):=
 (xH (x0.length:Int)).bind fun m1=>
 (zJ (zSi x0) (J1 m1 (0:Int),0)).bind fun r5=>
 some r5
def zSj(x0:List (List Int))(s1:(List (List Int))×Int):Option (((List (List Int))×Int)⊕(List (List Int))):=
 cond (decide (s1.2<(x0.length:Int))) (
  (ixO x0 s1.2).bind fun v2=>
  (zPF v2).bind fun r3=>
  (ixO s1.1 s1.2).bind fun _=>
  (rng (s1.2+1)).bind fun v5=>
  some (.inl (s1.1.set s1.2.toNat r3,v5))) (
  some (.inr s1.1))
def zPG(x0:List (List Int)):Option (List (List Int)):=
 (xH (x0.length:Int)).bind fun m1=>
 (zJ (zSj x0) (J1 m1 ([]:List Int),0)).bind fun r6=>
 some r6
def zSk(x0:List (List (List Int)))(s1:(List (List (List Int)))×Int):Option (((List (List (List Int)))×Int)⊕(List (List (List Int)))):=
 cond (decide (s1.2<(x0.length:Int))) (
  (ixO x0 s1.2).bind fun v2=>
  (zPG v2).bind fun r3=>
  (ixO s1.1 s1.2).bind fun _=>
  (rng (s1.2+1)).bind fun v5=>
  some (.inl (s1.1.set s1.2.toNat r3,v5))) (
  some (.inr s1.1))
def zSl(x0:List (List (List Int))):Option (List (List (List Int))):=
 (xH (x0.length:Int)).bind fun m1=>
 (zJ (zSk x0) (J1 m1 ([]:List (List Int)),0)).bind fun r6=>
 some r6
def zNj(x0:SPr):Option SPr:=
 (zPF x0.zA).bind fun r1=>
 (zPG x0.zS).bind fun r2=>
 (zSl x0.zC).bind fun r3=>
 some (SPr.mk r1 r2 r3)
def zNk(x0:zH):Option zH:=
 (zSl x0.zF).bind fun r1=>
 some (zH.mk x0.Prime x0.Dim r1)
def zUo(x0:Int):Option Bool:=
 cond (x0==2) (
  some true) (
  cond (x0==3) (
   some true) (
   cond (x0==5) (
    some true) (
    some (x0==7))))
def zLP(x0:List Int)(s1:Int×Int):Option ((Int×Int)⊕Int):=
 cond (decide (s1.2<(x0.length:Int))) (
  cond (decide (s1.1≤729)) (
   (ixO x0 s1.2).bind fun v1=>
   (rng (s1.1*v1)).bind fun v2=>
   (rng (s1.2+1)).bind fun v3=>
   some (.inl (v2,v3))) (
   (rng (s1.2+1)).bind fun v4=>
   some (.inl (s1.1,v4)))) (
  some (.inr s1.1))
def zUp(x0:List Int):Option Int:=
 (zJ (zLP x0) (1,0)).bind fun r5=>
 some r5
def zSm(x0:Int)(x1:Int)(x2:Int):Option Bool:=
 cond (decide (x0≥x1)) (
  some (decide (x0≤x2))) (
  some false)
def zON(x0:List Int)(x1:List Int)(x2:Int)(s1:Int):Option (Int⊕(Unit⊕Bool)):=
 cond (decide (s1<(x1.length:Int))) (
  (ixO x1 s1).bind fun v1=>
  (ixO x0 s1).bind fun v2=>
  (rng (v2-1)).bind fun v3=>
  (zSm v1 0 v3).bind fun r4=>
  cond (!r4) (
   some (.inr (.inr false))) (
   cond (decide (s1≤x2)) (
    (ixO x1 s1).bind fun v5=>
    cond (v5 != 0) (
     some (.inr (.inr false))) (
     (rng (s1+1)).bind fun v6=>
     some (.inl v6))) (
    (rng (s1+1)).bind fun v5=>
    some (.inl v5)))) (
  some (.inr (.inl ())))
def zSn(x0:List Int)(x1:List Int)(x2:Int):Option Bool:=
 cond ((x1.length:Int) != (x0.length:Int)) (
  some false) (
  (zJ (zON x0 x1 x2) 0).bind fun r6=>
  match r6 with
  |(.inl r6)=>
   some true
  |(.inr r6)=>
   some r6)
def zSo(x0:SPr)(s1:Int):Option (Int⊕(Unit⊕Bool)):=
 cond (decide (s1<(x0.zA.length:Int))) (
  (ixO x0.zA s1).bind fun v1=>
  (zUo v1).bind fun r2=>
  cond (!r2) (
   some (.inr (.inr false))) (
   (rng (s1+1)).bind fun v3=>
   some (.inl v3))) (
  some (.inr (.inl ())))
def zSp(x0:SPr)(s7:Int)(s8:Int):Option (Int⊕(Unit⊕Bool)):=
 (ixO x0.zC s7).bind fun v11=>
 cond (decide (s8<(v11.length:Int))) (
  (ixO x0.zC s7).bind fun v12=>
  (ixO v12 s8).bind fun v13=>
  (zSn x0.zA v13 s7).bind fun r14=>
  cond (!r14) (
   some (.inr (.inr false))) (
   (rng (s8+1)).bind fun v15=>
   some (.inl v15))) (
  some (.inr (.inl ())))
def zNl(x0:SPr)(s7:Int):Option (Int⊕(Unit⊕Bool)):=
 cond (decide (s7<(x0.zA.length:Int))) (
  (ixO x0.zS s7).bind fun v6=>
  (zSn x0.zA v6 s7).bind fun r7=>
  cond (!r7) (
   some (.inr (.inr false))) (
   (ixO x0.zC s7).bind fun v8=>
   (rng ((x0.zA.length:Int)-1)).bind fun v9=>
   (rng (v9-s7)).bind fun v10=>
   cond ((v8.length:Int) != v10) (
    some (.inr (.inr false))) (
    (zJ (zSp x0 s7) 0).bind fun r16=>
    match r16 with
    |(.inl r16)=>
     (rng (s7+1)).bind fun v17=>
     some (.inl v17)
    |(.inr r16)=>
     some (.inr (.inr r16))))) (
  some (.inr (.inl ())))
def f_u(x0:SPr):Option Bool:=
 cond (decide ((x0.zA.length:Int)> 6)) (
  some false) (
  cond ((x0.zS.length:Int) != (x0.zA.length:Int)) (
   some false) (
   cond ((x0.zC.length:Int) != (x0.zA.length:Int)) (
    some false) (
    (zJ (zSo x0) 0).bind fun r4=>
    match r4 with
    |(.inl r4)=>
     (zUp x0.zA).bind fun r5=>
     cond (decide (r5> 729)) (
      some false) (
      (zJ (zNl x0) 0).bind fun r18=>
      match r18 with
      |(.inl r18)=>
       some true
      |(.inr r18)=>
       some r18)
    |(.inr r4)=>
     some r4)))
def f_w(x0:List Int):Option (List Int):=
 (wK [] x0).bind fun v1=>
 some v1
def zSq(g_a:SPr→Int→(List Int)→(List Int)→Option (List Int))(x0:SPr)(x1:Int)(x2:List Int)(s5:(List Int)×Int)(s6:(List Int)×Int):Option (((List Int)×Int)⊕(List Int)):=
 (ixO x2 s5.2).bind fun v3=>
 cond (decide (s6.2<v3)) (
  (rng (x1+1)).bind fun v4=>
  (ixO x0.zC x1).bind fun v5=>
  (rng (s5.2-x1)).bind fun v6=>
  (rng (v6-1)).bind fun v7=>
  (ixO v5 v7).bind fun v8=>
  (g_a x0 v4 s6.1 v8).bind fun r9=>
  (rng (s6.2+1)).bind fun v10=>
  some (.inl (r9,v10))) (
  some (.inr s6.1))
def zSr(g_a:SPr→Int→(List Int)→(List Int)→Option (List Int))(x0:SPr)(x1:Int)(x2:List Int)(s5:(List Int)×Int):Option (((List Int)×Int)⊕(List Int)):=
 cond (decide (s5.2<(x0.zA.length:Int))) (
  (zJ (zSq g_a x0 x1 x2 s5) (s5.1,0)).bind fun r11=>
  (rng (s5.2+1)).bind fun v12=>
  some (.inl (r11,v12))) (
  some (.inr s5.1))
def b_g(g_a:SPr→Int→(List Int)→(List Int)→Option (List Int))(x0:SPr)(x1:Int)(x2:List Int):Option (List Int):=
 (xH (x0.zA.length:Int)).bind fun m1=>
 (rng (x1+1)).bind fun v2=>
 (zJ (zSr g_a x0 x1 x2) (J1 m1 (0:Int),v2)).bind fun r13=>
 some r13
def zUq(g_g:SPr→Int→(List Int)→Option (List Int))(x0:SPr)(x1:Int)(x3:List Int)(s1:(List Int)×Int):Option (((List Int)×Int)⊕(List Int)):=
 (ixO x3 x1).bind fun v6=>
 cond (decide (s1.2<v6)) (
  (g_g x0 x1 s1.1).bind fun r7=>
  (rng (s1.2+1)).bind fun v8=>
  some (.inl (r7,v8))) (
  some (.inr s1.1))
def b_a(g_g:SPr→Int→(List Int)→Option (List Int))(g_a:SPr→Int→(List Int)→(List Int)→Option (List Int))(x0:SPr)(x1:Int)(x2:List Int)(x3:List Int):Option (List Int):=
 cond (decide (x1≥(x0.zA.length:Int))) (
  (xH (x0.zA.length:Int)).bind fun m1=>
  some (J1 m1 (0:Int))) (
  (f_w x2).bind fun r2=>
  (f_w x3).bind fun r3=>
  (ixO r2 x1).bind fun _=>
  (ixO r3 x1).bind fun _=>
  (zJ (zUq g_g x0 x1 x3) (r2.set x1.toNat 0,0)).bind fun r9=>
  (rng (x1+1)).bind fun v10=>
  (g_a x0 v10 r9 (r3.set x1.toNat 0)).bind fun r11=>
  (ixO x2 x1).bind fun v12=>
  (ixO x3 x1).bind fun v13=>
  (rng (v12+v13)).bind fun v14=>
  (ixO x0.zA x1).bind fun v15=>
  cond (decide (v14≥v15)) (
   (ixO x0.zA x1).bind fun v16=>
   (rng (v14-v16)).bind fun v17=>
   (rng (x1+1)).bind fun v18=>
   (ixO x0.zS x1).bind fun v19=>
   (g_a x0 v18 v19 r11).bind fun r20=>
   (f_w r20).bind fun r21=>
   (ixO r21 x1).bind fun _=>
   some (r21.set x1.toNat v17)) (
   (f_w r11).bind fun r23=>
   (ixO r23 x1).bind fun _=>
   some (r23.set x1.toNat v14)))
mutual
def zNm:Nat→SPr→Int→(List Int)→Option (List Int)
 |0=>fun _ _ _=>none
 |n+1=>b_g (zNn n)
def zNn:Nat→SPr→Int→(List Int)→(List Int)→Option (List Int)
 |0=>fun _ _ _ _=>none
 |n+1=>b_a (zNm n) (zNn n)
end
def f_g(x0:SPr)(x1:Int)(x2:List Int):Option (List Int):=zD3 fun n=>zNm n x0 x1 x2
def f_a(x0:SPr)(x1:Int)(x2:List Int)(x3:List Int):Option (List Int):=zD3 fun n=>zNn n x0 x1 x2 x3
def zOO(x0:SPr)(x1:Int)(s1:Int×(List Int)×(List Int)):Option ((Int×(List Int)×(List Int))⊕(List Int)):=
 cond (decide (s1.1> 0)) (
  (uL s1.1 2).bind fun v2=>
  cond (v2==1) (
   (f_a x0 x1 s1.2.1 s1.2.2).bind fun r3=>
   (f_a x0 x1 s1.2.2 s1.2.2).bind fun r4=>
   (tB s1.1 2).bind fun v5=>
   some (.inl (v5,r3,r4))) (
   (f_a x0 x1 s1.2.2 s1.2.2).bind fun r6=>
   (tB s1.1 2).bind fun v7=>
   some (.inl (v7,s1.2.1,r6)))) (
  some (.inr s1.2.1))
def zUr(x0:SPr)(x1:Int)(x2:List Int)(x3:Int):Option (List Int):=
 (xH (x0.zA.length:Int)).bind fun m1=>
 (zJ (zOO x0 x1) (x3,J1 m1 (0:Int),x2)).bind fun r8=>
 some r8
def zZa(x0:List Int)(x1:List Int)(s1:Int):Option (Int⊕(Unit⊕Bool)):=
 cond (decide (s1<(x0.length:Int))) (
  (ixO x0 s1).bind fun v1=>
  (ixO x1 s1).bind fun v2=>
  cond (v1 != v2) (
   some (.inr (.inr false))) (
   (rng (s1+1)).bind fun v3=>
   some (.inl v3))) (
  some (.inr (.inl ())))
def f_V(x0:List Int)(x1:List Int):Option Bool:=
 cond ((x0.length:Int) != (x1.length:Int)) (
  some false) (
  (zJ (zZa x0 x1) 0).bind fun r4=>
  match r4 with
  |(.inl r4)=>
   some true
  |(.inr r4)=>
   some r4)
def zWS(x0:Int)(x1:Int):Option (List Int):=
 (xH x0).bind fun m1=>
 (ixO (J1 m1 (0:Int)) x1).bind fun _=>
 some ((J1 m1 (0:Int)).set x1.toNat 1)
def zSs(x0:SPr)(x1:Int)(s1:Int):Option (Int⊕(Unit⊕xG)):=
 cond (decide (s1<(x0.zA.length:Int))) (
  (rng (x1+1)).bind fun v2=>
  (ixO x0.zC x1).bind fun v3=>
  (rng (s1-x1)).bind fun v4=>
  (rng (v4-1)).bind fun v5=>
  (ixO v3 v5).bind fun v6=>
  (ixO x0.zA s1).bind fun v7=>
  (zUr x0 v2 v6 v7).bind fun r8=>
  (ixO x0.zS s1).bind fun v9=>
  (f_g x0 x1 v9).bind fun r10=>
  (f_V r8 r10).bind fun r11=>
  cond (!r11) (
   some (.inr (.inr (xG.mk 1 x1 s1 0)))) (
   (rng (s1+1)).bind fun v12=>
   some (.inl v12))) (
  some (.inr (.inl ())))
def zSt(x0:SPr)(x1:Int)(s7:Int)(s8:Int):Option (Int⊕(Unit⊕xG)):=
 cond (decide (s8<(x0.zA.length:Int))) (
  (ixO x0.zC x1).bind fun v16=>
  (rng (s7-x1)).bind fun v17=>
  (rng (v17-1)).bind fun v18=>
  (ixO v16 v18).bind fun v19=>
  (ixO x0.zC x1).bind fun v20=>
  (rng (s8-x1)).bind fun v21=>
  (rng (v21-1)).bind fun v22=>
  (ixO v20 v22).bind fun v23=>
  (ixO x0.zC s7).bind fun v24=>
  (rng (s8-s7)).bind fun v25=>
  (rng (v25-1)).bind fun v26=>
  (ixO v24 v26).bind fun v27=>
  (f_g x0 x1 v27).bind fun r28=>
  (rng (x1+1)).bind fun v29=>
  (f_a x0 v29 v23 v19).bind fun r30=>
  (rng (x1+1)).bind fun v31=>
  (f_a x0 v31 v19 r28).bind fun r32=>
  (f_V r30 r32).bind fun r33=>
  cond (!r33) (
   some (.inr (.inr (xG.mk 2 x1 s7 s8)))) (
   (rng (s8+1)).bind fun v34=>
   some (.inl v34))) (
  some (.inr (.inl ())))
def zSu(x0:SPr)(x1:Int)(s7:Int):Option (Int⊕(Unit⊕xG)):=
 cond (decide (s7<(x0.zA.length:Int))) (
  (rng (s7+1)).bind fun v15=>
  (zJ (zSt x0 x1 s7) v15).bind fun r35=>
  match r35 with
  |(.inl r35)=>
   (rng (s7+1)).bind fun v36=>
   some (.inl v36)
  |(.inr r35)=>
   some (.inr (.inr r35))) (
  some (.inr (.inl ())))
def zSv(x0:SPr)(x1:Int)(s16:(List Int)×Int):Option (((List Int)×Int)⊕(List Int)):=
 (ixO x0.zA x1).bind fun v43=>
 cond (decide (s16.2<v43)) (
  (f_g x0 x1 s16.1).bind fun r44=>
  (rng (s16.2+1)).bind fun v45=>
  some (.inl (r44,v45))) (
  some (.inr s16.1))
def zSw(x0:SPr)(x1:Int)(v38:List Int)(s15:Int):Option (Int⊕(Unit⊕xG)):=
 cond (decide (s15<(x0.zA.length:Int))) (
  (zWS (x0.zA.length:Int) s15).bind fun r42=>
  (zJ (zSv x0 x1) (r42,0)).bind fun r46=>
  (rng (x1+1)).bind fun v47=>
  (f_a x0 v47 v38 r46).bind fun r48=>
  (rng (x1+1)).bind fun v49=>
  (f_a x0 v49 r42 v38).bind fun r50=>
  (f_V r48 r50).bind fun r51=>
  cond (!r51) (
   some (.inr (.inr (xG.mk 4 x1 s15 0)))) (
   (rng (s15+1)).bind fun v52=>
   some (.inl v52))) (
  some (.inr (.inl ())))
def f_o(x0:SPr)(x1:Int):Option xG:=
 (rng (x1+1)).bind fun v1=>
 (zJ (zSs x0 x1) v1).bind fun r13=>
 match r13 with
 |(.inl r13)=>
  (rng (x1+1)).bind fun v14=>
  (zJ (zSu x0 x1) v14).bind fun r37=>
  match r37 with
  |(.inl r37)=>
   (ixO x0.zS x1).bind fun v38=>
   (f_g x0 x1 v38).bind fun r39=>
   (f_V r39 v38).bind fun r40=>
   cond (!r40) (
    some (xG.mk 3 x1 0 0)) (
    (rng (x1+1)).bind fun v41=>
    (zJ (zSw x0 x1 v38) v41).bind fun r53=>
    match r53 with
    |(.inl r53)=>
     some (xG.mk 0 0 0 0)
    |(.inr r53)=>
     some r53)
  |(.inr r37)=>
   some r37
 |(.inr r13)=>
  some r13
def zLQ(x0:SPr)(s1:Int):Option (Int⊕(Unit⊕xG)):=
 cond (decide (s1≥0)) (
  (f_o x0 s1).bind fun r2=>
  cond (r2.Kind != 0) (
   some (.inr (.inr r2))) (
   (rng (s1-1)).bind fun v3=>
   some (.inl v3))) (
  some (.inr (.inl ())))
def zWT(x0:SPr):Option xG:=
 (rng ((x0.zA.length:Int)-1)).bind fun v1=>
 (zJ (zLQ x0) v1).bind fun r4=>
 match r4 with
 |(.inl r4)=>
  some (xG.mk 0 0 0 0)
 |(.inr r4)=>
  some r4
def zWU(x0:SPr):Option Bool:=
 (zWT x0).bind fun r1=>
 some (r1.Kind==0)
def zUs(x0:SPr):Option Bool:=
 (f_u x0).bind fun r1=>
 cond r1 (
  (zWU x0).bind fun r2=>
  some r2) (
  some false)
def zOP(x0:Int)(x2:List Int)(s1:Int):Option (Int⊕(Unit⊕Bool)):=
 cond (decide (s1<(x2.length:Int))) (
  (ixO x2 s1).bind fun v1=>
  (rng (x0-1)).bind fun v2=>
  (zSm v1 0 v2).bind fun r3=>
  cond (!r3) (
   some (.inr (.inr false))) (
   (rng (s1+1)).bind fun v4=>
   some (.inl v4))) (
  some (.inr (.inl ())))
def zUt(x0:Int)(x1:Int)(x2:List Int):Option Bool:=
 cond ((x2.length:Int) != x1) (
  some false) (
  (zJ (zOP x0 x2) 0).bind fun r5=>
  match r5 with
  |(.inl r5)=>
   some true
  |(.inr r5)=>
   some r5)
def zOQ(x0:Int)(x1:Int)(x2:List (List Int))(s1:Int):Option (Int⊕(Unit⊕Bool)):=
 cond (decide (s1<(x2.length:Int))) (
  (ixO x2 s1).bind fun v1=>
  (zUt x0 x1 v1).bind fun r2=>
  cond (!r2) (
   some (.inr (.inr false))) (
   (rng (s1+1)).bind fun v3=>
   some (.inl v3))) (
  some (.inr (.inl ())))
def zUu(x0:Int)(x1:Int)(x2:List (List Int)):Option Bool:=
 cond ((x2.length:Int) != x1) (
  some false) (
  (zJ (zOQ x0 x1 x2) 0).bind fun r4=>
  match r4 with
  |(.inl r4)=>
   some true
  |(.inr r4)=>
   some r4)
def zLR(x0:Int)(s1:(List (List Int))×Int):Option (((List (List Int))×Int)⊕(List (List Int))):=
 cond (decide (s1.2<x0)) (
  (xH x0).bind fun m1=>
  (ixO (J1 m1 (0:Int)) s1.2).bind fun _=>
  (wK s1.1 [(J1 m1 (0:Int)).set s1.2.toNat 1]).bind fun v3=>
  (rng (s1.2+1)).bind fun v4=>
  some (.inl (v3,v4))) (
  some (.inr s1.1))
def f_I(x0:Int):Option (List (List Int)):=
 (zJ (zLR x0) ([],0)).bind fun r5=>
 some r5
def zSx(x0:Int)(x1:List Int)(x2:List (List Int))(s5:(List Int)×Int)(s6:(List Int)×Int):Option (((List Int)×Int)⊕(List Int)):=
 cond (decide (s6.2<(s6.1.length:Int))) (
  (ixO x2 s5.2).bind fun v2=>
  cond (decide (s6.2<(v2.length:Int))) (
   (ixO s6.1 s6.2).bind fun v3=>
   (ixO x1 s5.2).bind fun v4=>
   (ixO x2 s5.2).bind fun v5=>
   (ixO v5 s6.2).bind fun v6=>
   (rng (v4*v6)).bind fun v7=>
   (rng (v3+v7)).bind fun v8=>
   (uL v8 x0).bind fun v9=>
   (ixO s6.1 s6.2).bind fun _=>
   (rng (s6.2+1)).bind fun v11=>
   some (.inl (s6.1.set s6.2.toNat v9,v11))) (
   some (.inr s6.1))) (
  some (.inr s6.1))
def zSy(x0:Int)(x1:List Int)(x2:List (List Int))(s5:(List Int)×Int):Option (((List Int)×Int)⊕(List Int)):=
 cond (decide (s5.2<(x1.length:Int))) (
  cond (decide (s5.2<(x2.length:Int))) (
   (zJ (zSx x0 x1 x2 s5) (s5.1,0)).bind fun r12=>
   (rng (s5.2+1)).bind fun v13=>
   some (.inl (r12,v13))) (
   some (.inr s5.1))) (
  some (.inr s5.1))
def f_H(x0:Int)(x1:List Int)(x2:List (List Int))(x3:Int):Option (List Int):=
 (xH x3).bind fun m1=>
 (zJ (zSy x0 x1 x2) (J1 m1 (0:Int),0)).bind fun r14=>
 some r14
def zSz(x0:Int)(x1:List (List Int))(x2:List (List Int))(x3:Int)(s1:(List (List Int))×Int):Option (((List (List Int))×Int)⊕(List (List Int))):=
 cond (decide (s1.2<(x1.length:Int))) (
  (ixO x1 s1.2).bind fun v1=>
  (f_H x0 v1 x2 x3).bind fun r2=>
  (wK s1.1 [r2]).bind fun v3=>
  (rng (s1.2+1)).bind fun v4=>
  some (.inl (v3,v4))) (
  some (.inr s1.1))
def f_R(x0:Int)(x1:List (List Int))(x2:List (List Int))(x3:Int):Option (List (List Int)):=
 (zJ (zSz x0 x1 x2 x3) ([],0)).bind fun r5=>
 some r5
def zS0(x0:zH)(x1:List Int)(s5:(List (List Int))×Int)(s6:(List (List Int))×Int):Option (((List (List Int))×Int)⊕(List (List Int))):=
 (ixO x1 s5.2).bind fun v2=>
 cond (decide (s6.2<v2)) (
  (ixO x0.zF s5.2).bind fun v3=>
  (f_R x0.Prime s6.1 v3 x0.Dim).bind fun r4=>
  (rng (s6.2+1)).bind fun v5=>
  some (.inl (r4,v5))) (
  some (.inr s6.1))
def zS1(x0:zH)(x1:List Int)(s5:(List (List Int))×Int):Option (((List (List Int))×Int)⊕(List (List Int))):=
 cond (decide (s5.2<(x1.length:Int))) (
  (zJ (zS0 x0 x1 s5) (s5.1,0)).bind fun r6=>
  (rng (s5.2+1)).bind fun v7=>
  some (.inl (r6,v7))) (
  some (.inr s5.1))
def f_J(x0:zH)(x1:List Int):Option (List (List Int)):=
 (f_I x0.Dim).bind fun r1=>
 (zJ (zS1 x0 x1) (r1,0)).bind fun r8=>
 some r8
def zS2(x0:List (List Int))(x1:List (List Int))(s1:Int):Option (Int⊕(Unit⊕Bool)):=
 cond (decide (s1<(x0.length:Int))) (
  (ixO x0 s1).bind fun v1=>
  (ixO x1 s1).bind fun v2=>
  (f_V v1 v2).bind fun r3=>
  cond (!r3) (
   some (.inr (.inr false))) (
   (rng (s1+1)).bind fun v4=>
   some (.inl v4))) (
  some (.inr (.inl ())))
def zUv(x0:List (List Int))(x1:List (List Int)):Option Bool:=
 cond ((x0.length:Int) != (x1.length:Int)) (
  some false) (
  (zJ (zS2 x0 x1) 0).bind fun r5=>
  match r5 with
  |(.inl r5)=>
   some true
  |(.inr r5)=>
   some r5)
def zS3(x0:SPr)(x1:zH)(s1:Int):Option (Int⊕(Unit⊕Bool)):=
 cond (decide (s1<(x0.zA.length:Int))) (
  (ixO x1.zF s1).bind fun v3=>
  (zUu x1.Prime x1.Dim v3).bind fun r4=>
  cond (!r4) (
   some (.inr (.inr false))) (
   (rng (s1+1)).bind fun v5=>
   some (.inl v5))) (
  some (.inr (.inl ())))
def zS4(x0:SPr)(x1:zH)(s11:Int)(s12:(List (List Int))×Int):Option (((List (List Int))×Int)⊕(List (List Int))):=
 (ixO x0.zA s11).bind fun v8=>
 cond (decide (s12.2<v8)) (
  (ixO x1.zF s11).bind fun v9=>
  (f_R x1.Prime s12.1 v9 x1.Dim).bind fun r10=>
  (rng (s12.2+1)).bind fun v11=>
  some (.inl (r10,v11))) (
  some (.inr s12.1))
def zS5(x0:SPr)(x1:zH)(s11:Int)(s14:Int):Option (Int⊕(Unit⊕Bool)):=
 cond (decide (s14<(x0.zA.length:Int))) (
  (ixO x1.zF s14).bind fun v17=>
  (ixO x1.zF s11).bind fun v18=>
  (f_R x1.Prime v17 v18 x1.Dim).bind fun r19=>
  (ixO x1.zF s11).bind fun v20=>
  (ixO x0.zC s11).bind fun v21=>
  (rng (s14-s11)).bind fun v22=>
  (rng (v22-1)).bind fun v23=>
  (ixO v21 v23).bind fun v24=>
  (f_J x1 v24).bind fun r25=>
  (f_R x1.Prime v20 r25 x1.Dim).bind fun r26=>
  (zUv r19 r26).bind fun r27=>
  cond (!r27) (
   some (.inr (.inr false))) (
   (rng (s14+1)).bind fun v28=>
   some (.inl v28))) (
  some (.inr (.inl ())))
def zS6(x0:SPr)(x1:zH)(s11:Int):Option (Int⊕(Unit⊕Bool)):=
 cond (decide (s11<(x0.zA.length:Int))) (
  (f_I x1.Dim).bind fun r7=>
  (zJ (zS4 x0 x1 s11) (r7,0)).bind fun r12=>
  (ixO x0.zS s11).bind fun v13=>
  (f_J x1 v13).bind fun r14=>
  (zUv r12 r14).bind fun r15=>
  cond (!r15) (
   some (.inr (.inr false))) (
   (rng (s11+1)).bind fun v16=>
   (zJ (zS5 x0 x1 s11) v16).bind fun r29=>
   match r29 with
   |(.inl r29)=>
    (rng (s11+1)).bind fun v30=>
    some (.inl v30)
   |(.inr r29)=>
    some (.inr (.inr r29)))) (
  some (.inr (.inl ())))
def f_r(x0:SPr)(x1:zH):Option Bool:=
 (zUo x1.Prime).bind fun r1=>
 cond (!r1) (
  some false) (
  (zSm x1.Dim 1 3).bind fun r2=>
  cond (!r2) (
   some false) (
   cond ((x1.zF.length:Int) != (x0.zA.length:Int)) (
    some false) (
    (zJ (zS3 x0 x1) 0).bind fun r6=>
    match r6 with
    |(.inl r6)=>
     (zJ (zS6 x0 x1) 0).bind fun r31=>
     match r31 with
     |(.inl r31)=>
      some true
     |(.inr r31)=>
      some r31
    |(.inr r6)=>
     some r6)))
def zUw(x0:SPr)(x1:zH):Option Bool:=
 (zUs x0).bind fun r1=>
 cond r1 (
  (f_r x0 x1).bind fun r2=>
  some r2) (
  some false)
def zPH(x0:Int):Option Bool:=
 cond (x0==2) (
  some true) (
  cond (x0==3) (
   some true) (
   cond (x0==5) (
    some true) (
    some (x0==7))))
def zNo(x0:Int)(x1:Int)(x2:Int):Option Bool:=
 cond (decide (x0≥x1)) (
  some (decide (x0≤x2))) (
  some false)
def zOR(x0:SPr)(x1:List Int)(s1:Int):Option (Int⊕(Unit⊕Bool)):=
 cond (decide (s1<(x1.length:Int))) (
  (ixO x1 s1).bind fun v1=>
  (ixO x0.zA s1).bind fun v2=>
  (rng (v2-1)).bind fun v3=>
  (zNo v1 0 v3).bind fun r4=>
  cond (!r4) (
   some (.inr (.inr false))) (
   (rng (s1+1)).bind fun v5=>
   some (.inl v5))) (
  some (.inr (.inl ())))
def zUx(x0:SPr)(x1:List Int):Option Bool:=
 cond ((x1.length:Int) != (x0.zA.length:Int)) (
  some false) (
  (zJ (zOR x0 x1) 0).bind fun r6=>
  match r6 with
  |(.inl r6)=>
   some true
  |(.inr r6)=>
   some r6)
def zPI(x0:List Int)(s1:Int):Option (Int⊕(Unit⊕Bool)):=
 cond (decide (s1<(x0.length:Int))) (
  (ixO x0 s1).bind fun v1=>
  cond (v1 != 0) (
   some (.inr (.inr false))) (
   (rng (s1+1)).bind fun v2=>
   some (.inl v2))) (
  some (.inr (.inl ())))
def f_U(x0:List Int):Option Bool:=
 (zJ (zPI x0) 0).bind fun r3=>
 match r3 with
 |(.inl r3)=>
  some true
 |(.inr r3)=>
  some r3
def zS7(x0:SPr)(x1:Int)(x2:List Int):Option Bool:=
 (zUx x0 x2).bind fun r1=>
 cond r1 (
  (rng (x1+1)).bind fun v2=>
  (yA x2 0 v2).bind fun v3=>
  (f_U v3).bind fun r4=>
  some r4) (
  some false)
def zNp(x0:SPr)(s1:Int×Int):Option ((Int×Int)⊕(Unit⊕Bool)):=
 cond (decide (s1.2<(x0.zA.length:Int))) (
  (ixO x0.zA s1.2).bind fun v1=>
  (zPH v1).bind fun r2=>
  cond (!r2) (
   some (.inr (.inr false))) (
   (rng (s1.1*v1)).bind fun v3=>
   cond (decide (v3> 729)) (
    some (.inr (.inr false))) (
    (rng (s1.1*v1)).bind fun v4=>
    (rng (s1.2+1)).bind fun v5=>
    some (.inl (v4,v5))))) (
  some (.inr (.inl ())))
def zS8(x0:SPr)(s7:Int)(v12:List (List Int))(s8:Int):Option (Int⊕(Unit⊕Bool)):=
 cond (decide (s8<(v12.length:Int))) (
  (ixO v12 s8).bind fun v13=>
  (zS7 x0 s7 v13).bind fun r14=>
  cond (!r14) (
   some (.inr (.inr false))) (
   (rng (s8+1)).bind fun v15=>
   some (.inl v15))) (
  some (.inr (.inl ())))
def zNq(x0:SPr)(s7:Int):Option (Int⊕(Unit⊕Bool)):=
 cond (decide (s7<(x0.zA.length:Int))) (
  (ixO x0.zS s7).bind fun v7=>
  (zS7 x0 s7 v7).bind fun r8=>
  cond (!r8) (
   some (.inr (.inr false))) (
   (ixO x0.zC s7).bind fun v9=>
   (rng ((x0.zA.length:Int)-1)).bind fun v10=>
   (rng (v10-s7)).bind fun v11=>
   cond ((v9.length:Int) != v11) (
    some (.inr (.inr false))) (
    (ixO x0.zC s7).bind fun v12=>
    (zJ (zS8 x0 s7 v12) 0).bind fun r16=>
    match r16 with
    |(.inl r16)=>
     (rng (s7+1)).bind fun v17=>
     some (.inl v17)
    |(.inr r16)=>
     some (.inr (.inr r16))))) (
  some (.inr (.inl ())))
def f_s(x0:SPr):Option Bool:=
 cond (decide ((x0.zA.length:Int)> 6)) (
  some false) (
  cond ((x0.zS.length:Int) != (x0.zA.length:Int)) (
   some false) (
   cond ((x0.zC.length:Int) != (x0.zA.length:Int)) (
    some false) (
    (zJ (zNp x0) (1,0)).bind fun r6=>
    match r6 with
    |(.inl r6)=>
     (zJ (zNq x0) 0).bind fun r18=>
     match r18 with
     |(.inl r18)=>
      some true
     |(.inr r18)=>
      some r18
    |(.inr r6)=>
     some r6)))
def f_L(x0:List Int):Option (List Int):=
 (wK [] x0).bind fun v2=>
 some v2
def zS9(x2:Int)(r3:(List Int))(s1:(List Int)×Int):Option (((List Int)×Int)⊕(List Int)):=
 cond (decide (s1.2<(r3.length:Int))) (
  (rng (x2+1)).bind fun v4=>
  (rng (v4+s1.2)).bind fun v5=>
  (ixO s1.1 v5).bind fun _=>
  (rng (s1.2+1)).bind fun v7=>
  some (.inl (s1.1.set v5.toNat 0,v7))) (
  some (.inr s1.1))
def zWV(g_c:SPr→(List Int)→(List Int)→Option (List Int))(x0:SPr)(x2:Int)(s7:(List Int)×Int)(v17:Int)(s8:(List Int)×Int):Option (((List Int)×Int)⊕(List Int)):=
 cond (decide (s8.2<v17)) (
  (ixO x0.zC x2).bind fun v18=>
  (ixO v18 s7.2).bind fun v19=>
  (g_c x0 s8.1 v19).bind fun r20=>
  (rng (s8.2+1)).bind fun v21=>
  some (.inl (r20,v21))) (
  some (.inr s8.1))
def zWW(g_c:SPr→(List Int)→(List Int)→Option (List Int))(x0:SPr)(x2:Int)(r3:(List Int))(s7:(List Int)×Int):Option (((List Int)×Int)⊕(List Int)):=
 cond (decide (s7.2<(r3.length:Int))) (
  (ixO r3 s7.2).bind fun v17=>
  (zJ (zWV g_c x0 x2 s7 v17) (s7.1,0)).bind fun r22=>
  (rng (s7.2+1)).bind fun v23=>
  some (.inl (r22,v23))) (
  some (.inr s7.1))
def zWX(g_c:SPr→(List Int)→(List Int)→Option (List Int))(x0:SPr)(x2:Int)(s15:(List Int)×Int)(v25:Int)(s16:(List Int)×Int):Option (((List Int)×Int)⊕(List Int)):=
 cond (decide (s16.2<v25)) (
  (ixO x0.zC x2).bind fun v26=>
  (ixO v26 s15.2).bind fun v27=>
  (g_c x0 s16.1 v27).bind fun r28=>
  (rng (s16.2+1)).bind fun v29=>
  some (.inl (r28,v29))) (
  some (.inr s16.1))
def zWY(g_c:SPr→(List Int)→(List Int)→Option (List Int))(x0:SPr)(x2:Int)(r3:(List Int))(s15:(List Int)×Int):Option (((List Int)×Int)⊕(List Int)):=
 cond (decide (s15.2<(r3.length:Int))) (
  (ixO r3 s15.2).bind fun v25=>
  (zJ (zWX g_c x0 x2 s15 v25) (s15.1,0)).bind fun r30=>
  (rng (s15.2+1)).bind fun v31=>
  some (.inl (r30,v31))) (
  some (.inr s15.1))
def b_b(g_c:SPr→(List Int)→(List Int)→Option (List Int))(x0:SPr)(x1:List Int)(x2:Int):Option (List Int):=
 (rng (x2+1)).bind fun v1=>
 (yA x1 v1 x1.length).bind fun v2=>
 (f_L v2).bind fun r3=>
 (zJ (zS9 x2 r3) (x1,0)).bind fun r8=>
 (ixO r8 x2).bind fun v9=>
 (rng (v9+1)).bind fun v10=>
 (ixO r8 x2).bind fun _=>
 (ixO (r8.set x2.toNat v10) x2).bind fun v12=>
 (ixO x0.zA x2).bind fun v13=>
 cond (v12==v13) (
  (ixO (r8.set x2.toNat v10) x2).bind fun _=>
  (ixO x0.zS x2).bind fun v15=>
  (g_c x0 ((r8.set x2.toNat v10).set x2.toNat 0) v15).bind fun r16=>
  (zJ (zWW g_c x0 x2 r3) (r16,0)).bind fun r24=>
  some r24) (
  (zJ (zWY g_c x0 x2 r3) (r8.set x2.toNat v10,0)).bind fun r32=>
  some r32)
def zSA(g_b:SPr→(List Int)→Int→Option (List Int))(x0:SPr)(s5:(List Int)×Int)(v1:Int)(s6:(List Int)×Int):Option (((List Int)×Int)⊕(List Int)):=
 cond (decide (s6.2<v1)) (
  (g_b x0 s6.1 s5.2).bind fun r2=>
  (rng (s6.2+1)).bind fun v3=>
  some (.inl (r2,v3))) (
  some (.inr s6.1))
def zSB(g_b:SPr→(List Int)→Int→Option (List Int))(x0:SPr)(x2:List Int)(s5:(List Int)×Int):Option (((List Int)×Int)⊕(List Int)):=
 cond (decide (s5.2<(x2.length:Int))) (
  (ixO x2 s5.2).bind fun v1=>
  (zJ (zSA g_b x0 s5 v1) (s5.1,0)).bind fun r4=>
  (rng (s5.2+1)).bind fun v5=>
  some (.inl (r4,v5))) (
  some (.inr s5.1))
def b_c(g_b:SPr→(List Int)→Int→Option (List Int))(x0:SPr)(x1:List Int)(x2:List Int):Option (List Int):=
 (zJ (zSB g_b x0 x2) (x1,0)).bind fun r6=>
 some r6
mutual
def zSC:Nat→SPr→(List Int)→Int→Option (List Int)
 |0=>fun _ _ _=>none
 |n+1=>b_b (zPJ n)
def zPJ:Nat→SPr→(List Int)→(List Int)→Option (List Int)
 |0=>fun _ _ _=>none
 |n+1=>b_c (zSC n)
end
def f_b(x0:SPr)(x1:List Int)(x2:Int):Option (List Int):=zD3 fun n=>zSC n x0 x1 x2
def f_c(x0:SPr)(x1:List Int)(x2:List Int):Option (List Int):=zD3 fun n=>zPJ n x0 x1 x2
def zLS(x0:SPr)(x1:List Int)(x2:Int)(s1:(List Int)×Int):Option (((List Int)×Int)⊕(List Int)):=
 cond (decide (s1.2<x2)) (
  (f_c x0 s1.1 x1).bind fun r2=>
  (rng (s1.2+1)).bind fun v3=>
  some (.inl (r2,v3))) (
  some (.inr s1.1))
def zUy(x0:SPr)(x1:List Int)(x2:Int):Option (List Int):=
 (xH (x1.length:Int)).bind fun m1=>
 (zJ (zLS x0 x1 x2) (J1 m1 (0:Int),0)).bind fun r4=>
 some r4
def zSD(x0:SPr)(v3:List Int)(v6:Int)(s6:(List Int)×Int):Option (((List Int)×Int)⊕(List Int)):=
 cond (decide (s6.2<v6)) (
  (f_c x0 s6.1 v3).bind fun r7=>
  (rng (s6.2+1)).bind fun v8=>
  some (.inl (r7,v8))) (
  some (.inr s6.1))
def zSE(x0:SPr)(x1:Int)(x2:List Int)(v2:List (List Int))(s5:(List Int)×Int):Option (((List Int)×Int)⊕(List Int)):=
 cond (decide (s5.2<(v2.length:Int))) (
  (ixO v2 s5.2).bind fun v3=>
  (rng (x1+1)).bind fun v4=>
  (rng (v4+s5.2)).bind fun v5=>
  (ixO x2 v5).bind fun v6=>
  (zJ (zSD x0 v3 v6) (s5.1,0)).bind fun r9=>
  (rng (s5.2+1)).bind fun v10=>
  some (.inl (r9,v10))) (
  some (.inr s5.1))
def f_D(x0:SPr)(x1:Int)(x2:List Int):Option (List Int):=
 (xH (x2.length:Int)).bind fun m1=>
 (ixO x0.zC x1).bind fun v2=>
 (zJ (zSE x0 x1 x2 v2) (J1 m1 (0:Int),0)).bind fun r11=>
 some r11
def zWZ(x0:List Int)(x1:List Int)(s1:Int):Option (Int⊕(Unit⊕Bool)):=
 cond (decide (s1<(x0.length:Int))) (
  (ixO x0 s1).bind fun v1=>
  (ixO x1 s1).bind fun v2=>
  cond (v1 != v2) (
   some (.inr (.inr false))) (
   (rng (s1+1)).bind fun v3=>
   some (.inl v3))) (
  some (.inr (.inl ())))
def f_Q(x0:List Int)(x1:List Int):Option Bool:=
 cond ((x0.length:Int) != (x1.length:Int)) (
  some false) (
  (zJ (zWZ x0 x1) 0).bind fun r4=>
  match r4 with
  |(.inl r4)=>
   some true
  |(.inr r4)=>
   some r4)
def zPK(x0:SPr)(s5:(List Int)×(List Int)×Int)(s6:(List Int)×(List Int)):Option (((List Int)×(List Int))⊕((List Int)×(List Int))):=
 (ixO s6.1 s5.2.2).bind fun v3=>
 cond (v3 != 0) (
  (f_b x0 s6.1 s5.2.2).bind fun r4=>
  (f_b x0 s6.2 s5.2.2).bind fun r5=>
  some (.inl (r4,r5))) (
  some (.inr (s6.1,s6.2)))
def zSF(x0:SPr)(r1:(List Int))(s5:(List Int)×(List Int)×Int):Option (((List Int)×(List Int)×Int)⊕(List Int)):=
 cond (decide (s5.2.2<(r1.length:Int))) (
  (zJ (zPK x0 s5) (s5.1,s5.2.1)).bind fun r6=>
  (rng (s5.2.2+1)).bind fun v7=>
  some (.inl (r6.1,r6.2,v7))) (
  some (.inr s5.2.1))
def f_G(x0:SPr)(x1:List Int):Option (List Int):=
 (f_L x1).bind fun r1=>
 (xH (x1.length:Int)).bind fun m2=>
 (zJ (zSF x0 r1) (r1,J1 m2 (0:Int),0)).bind fun r8=>
 some r8
def zSG(x0:SPr)(x1:List Int)(x2:List Int):Option (List Int):=
 (f_L x1).bind fun r1=>
 (f_c x0 r1 x2).bind fun r2=>
 some r2
def zSH(x0:SPr)(x1:List Int)(x2:List Int):Option (List Int):=
 (f_G x0 x2).bind fun r1=>
 (zSG x0 x1 x2).bind fun r2=>
 (zSG x0 r1 r2).bind fun r3=>
 some r3
def zSI(x0:Int)(x1:Int):Option (List Int):=
 (xH x0).bind fun m1=>
 (ixO (J1 m1 (0:Int)) x1).bind fun _=>
 some ((J1 m1 (0:Int)).set x1.toNat 1)
def zSJ(x0:SPr)(x1:Int)(s1:Int):Option (Int⊕(Unit⊕xG)):=
 cond (decide (s1<(x0.zA.length:Int))) (
  (ixO x0.zC x1).bind fun v2=>
  (rng (s1-x1)).bind fun v3=>
  (rng (v3-1)).bind fun v4=>
  (ixO v2 v4).bind fun v5=>
  (ixO x0.zA s1).bind fun v6=>
  (zUy x0 v5 v6).bind fun r7=>
  (ixO x0.zS s1).bind fun v8=>
  (f_D x0 x1 v8).bind fun r9=>
  (f_Q r7 r9).bind fun r10=>
  cond (!r10) (
   some (.inr (.inr (xG.mk 1 x1 s1 0)))) (
   (rng (s1+1)).bind fun v11=>
   some (.inl v11))) (
  some (.inr (.inl ())))
def zSK(x0:SPr)(x1:Int)(s7:Int)(s8:Int):Option (Int⊕(Unit⊕xG)):=
 cond (decide (s8<(x0.zA.length:Int))) (
  (ixO x0.zC x1).bind fun v15=>
  (rng (s8-x1)).bind fun v16=>
  (rng (v16-1)).bind fun v17=>
  (ixO v15 v17).bind fun v18=>
  (ixO x0.zC x1).bind fun v19=>
  (rng (s7-x1)).bind fun v20=>
  (rng (v20-1)).bind fun v21=>
  (ixO v19 v21).bind fun v22=>
  (zSH x0 v18 v22).bind fun r23=>
  (ixO x0.zC s7).bind fun v24=>
  (rng (s8-s7)).bind fun v25=>
  (rng (v25-1)).bind fun v26=>
  (ixO v24 v26).bind fun v27=>
  (f_D x0 x1 v27).bind fun r28=>
  (f_Q r23 r28).bind fun r29=>
  cond (!r29) (
   some (.inr (.inr (xG.mk 2 x1 s7 s8)))) (
   (rng (s8+1)).bind fun v30=>
   some (.inl v30))) (
  some (.inr (.inl ())))
def zSL(x0:SPr)(x1:Int)(s7:Int):Option (Int⊕(Unit⊕xG)):=
 cond (decide (s7<(x0.zA.length:Int))) (
  (rng (s7+1)).bind fun v14=>
  (zJ (zSK x0 x1 s7) v14).bind fun r31=>
  match r31 with
  |(.inl r31)=>
   (rng (s7+1)).bind fun v32=>
   some (.inl v32)
  |(.inr r31)=>
   some (.inr (.inr r31))) (
  some (.inr (.inl ())))
def zSM(x0:SPr)(x1:Int)(v39:Int)(s16:(List Int)×Int):Option (((List Int)×Int)⊕(List Int)):=
 cond (decide (s16.2<v39)) (
  (f_D x0 x1 s16.1).bind fun r40=>
  (rng (s16.2+1)).bind fun v41=>
  some (.inl (r40,v41))) (
  some (.inr s16.1))
def zSN(x0:SPr)(x1:Int)(v34:List Int)(s15:Int):Option (Int⊕(Unit⊕xG)):=
 cond (decide (s15<(x0.zA.length:Int))) (
  (zSI (x0.zA.length:Int) s15).bind fun r38=>
  (ixO x0.zA x1).bind fun v39=>
  (zJ (zSM x0 x1 v39) (r38,0)).bind fun r42=>
  (zSI (x0.zA.length:Int) s15).bind fun r43=>
  (zSH x0 r43 v34).bind fun r44=>
  (f_Q r42 r44).bind fun r45=>
  cond (!r45) (
   some (.inr (.inr (xG.mk 4 x1 s15 0)))) (
   (rng (s15+1)).bind fun v46=>
   some (.inl v46))) (
  some (.inr (.inl ())))
def f_n(x0:SPr)(x1:Int):Option xG:=
 (rng (x1+1)).bind fun v1=>
 (zJ (zSJ x0 x1) v1).bind fun r12=>
 match r12 with
 |(.inl r12)=>
  (rng (x1+1)).bind fun v13=>
  (zJ (zSL x0 x1) v13).bind fun r33=>
  match r33 with
  |(.inl r33)=>
   (ixO x0.zS x1).bind fun v34=>
   (f_D x0 x1 v34).bind fun r35=>
   (f_Q r35 v34).bind fun r36=>
   cond (!r36) (
    some (xG.mk 3 x1 0 0)) (
    (rng (x1+1)).bind fun v37=>
    (zJ (zSN x0 x1 v34) v37).bind fun r47=>
    match r47 with
    |(.inl r47)=>
     some (xG.mk 0 0 0 0)
    |(.inr r47)=>
     some r47)
  |(.inr r33)=>
   some r33
 |(.inr r12)=>
  some r12
def zLT(x0:SPr)(s1:Int):Option (Int⊕Int):=
 cond (decide (s1> 0)) (
  (rng (s1-1)).bind fun v1=>
  (f_n x0 v1).bind fun r2=>
  cond (r2.Kind==0&&(r2.zVD==0&&(r2.zVE==0&&r2.zTv==0))) (
   (rng (s1-1)).bind fun v3=>
   some (.inl v3)) (
   some (.inr s1))) (
  some (.inr s1))
def zXa(x0:SPr):Option Int:=
 (zJ (zLT x0) (x0.zA.length:Int)).bind fun r4=>
 some r4
def zUz(x0:SPr):Option Bool:=
 (f_s x0).bind fun r1=>
 cond r1 (
  (zXa x0).bind fun r2=>
  some (r2==0)) (
  some false)
def zPL(x0:zH)(x1:Int):Option zU:=
 (ixO x0.zF x1).bind fun v1=>
 some (zU.mk x0.Prime x0.Dim v1)
def zOS(x0:List Int)(x1:Int)(s1:Int):Option (Int⊕(Unit⊕Bool)):=
 cond (decide (s1<(x0.length:Int))) (
  (ixO x0 s1).bind fun v1=>
  (rng (x1-1)).bind fun v2=>
  (zNo v1 0 v2).bind fun r3=>
  cond (!r3) (
   some (.inr (.inr false))) (
   (rng (s1+1)).bind fun v4=>
   some (.inl v4))) (
  some (.inr (.inl ())))
def zU0(x0:List Int)(x1:Int)(x2:Int):Option Bool:=
 cond ((x0.length:Int) != x2) (
  some false) (
  (zJ (zOS x0 x1) 0).bind fun r5=>
  match r5 with
  |(.inl r5)=>
   some true
  |(.inr r5)=>
   some r5)
def zLU(x0:zU)(s1:Int):Option (Int⊕(Unit⊕Bool)):=
 cond (decide (s1<(x0.Rows.length:Int))) (
  (ixO x0.Rows s1).bind fun v3=>
  (zU0 v3 x0.Prime x0.xF).bind fun r4=>
  cond (!r4) (
   some (.inr (.inr false))) (
   (rng (s1+1)).bind fun v5=>
   some (.inl v5))) (
  some (.inr (.inl ())))
def zU1(x0:zU):Option Bool:=
 (zPH x0.Prime).bind fun r1=>
 cond (!r1) (
  some false) (
  (zNo x0.xF 0 8).bind fun r2=>
  cond (!r2) (
   some false) (
   cond (decide ((x0.Rows.length:Int)> 8)) (
    some false) (
    (zJ (zLU x0) 0).bind fun r6=>
    match r6 with
    |(.inl r6)=>
     some true
    |(.inr r6)=>
     some r6)))
def zZb(x0:Int)(x1:Int):Option (Int×Int):=
 some ((IntKind.wrap .u64 ((IntKind.wrap .u64 ((IntKind.wrap .u64 ((Gy x0 (2 ^ (min (32:Int).toNat (IntKind.bits .u64))))*(Gy x1 (2 ^ (min (32:Int).toNat (IntKind.bits .u64))))))+(Gy (IntKind.wrap .u64 ((IntKind.wrap .u64 ((Gy x0 (2 ^ (min (32:Int).toNat (IntKind.bits .u64))))*(zGj .u64 x1 4294967295)))+(Gy (IntKind.wrap .u64 ((zGj .u64 x0 4294967295)*(zGj .u64 x1 4294967295))) (2 ^ (min (32:Int).toNat (IntKind.bits .u64)))))) (2 ^ (min (32:Int).toNat (IntKind.bits .u64))))))+(Gy (IntKind.wrap .u64 ((zGj .u64 (IntKind.wrap .u64 ((IntKind.wrap .u64 ((Gy x0 (2 ^ (min (32:Int).toNat (IntKind.bits .u64))))*(zGj .u64 x1 4294967295)))+(Gy (IntKind.wrap .u64 ((zGj .u64 x0 4294967295)*(zGj .u64 x1 4294967295))) (2 ^ (min (32:Int).toNat (IntKind.bits .u64)))))) 4294967295)+(IntKind.wrap .u64 ((zGj .u64 x0 4294967295)*(Gy x1 (2 ^ (min (32:Int).toNat (IntKind.bits .u64)))))))) (2 ^ (min (32:Int).toNat (IntKind.bits .u64)))))),(IntKind.wrap .u64 (x0*x1)))
def zU2(x0:Int)(x1:Int):Option (Int×Int):=
 (zZb x0 x1).bind fun r1=>
 some (r1.1,r1.2)
def tJ(s1:(List Int)×Int):Option (((List Int)×Int)⊕(List Int)):=
 cond (decide (s1.2<(s1.1.length:Int))) (
  (yA s1.1 s1.2 s1.1.length).bind fun _=>
  (yA s1.1 0 s1.2).bind fun v4=>
  (rng (s1.2+((min v4.length (((s1.1.length:Int).toNat)-((s1.2:Int).toNat)):Nat):Int))).bind fun v5=>
  some (.inl (xQ s1.1 ((s1.2:Int).toNat) (v4.take (((s1.1.length:Int).toNat)-((s1.2:Int).toNat))),v5))) (
  some (.inr s1.1))
def f_i(x0:List Int)(x1:Int):Option (List Int):=
 cond (decide (x1<0)) (
  none) (
  (zU2 (IntKind.wrap .u64 (x0.length:Int)) (IntKind.wrap .u64 x1)).bind fun r1=>
  cond (decide (r1.1> 0)) (
   none) (
   cond (decide (r1.2> 9223372036854775807)) (
    none) (
    (xH (IntKind.wrap .i64 r1.2)).bind fun m2=>
    (zJ tJ (xQ (J1 m2 (0:Int)) 0 (x0.take (((J1 m2 (0:Int)).length)-0)),((min x0.length (((J1 m2 (0:Int)).length)-0):Nat):Int))).bind fun r6=>
    some r6)))
def zSO(s5:(List Int)×Int)(v1:Int)(s6:(List Int)×Int):Option (((List Int)×Int)⊕(List Int)):=
 cond (decide (s6.2<v1)) (
  (rng (s5.2+1)).bind fun v2=>
  (wK s6.1 [v2]).bind fun v3=>
  (rng (s6.2+1)).bind fun v4=>
  some (.inl (v3,v4))) (
  some (.inr s6.1))
def zSP(x0:List Int)(s5:(List Int)×Int):Option (((List Int)×Int)⊕(List Int)):=
 cond (decide (s5.2<(x0.length:Int))) (
  (ixO x0 s5.2).bind fun v1=>
  (zJ (zSO s5 v1) (s5.1,0)).bind fun r5=>
  (rng (s5.2+1)).bind fun v6=>
  some (.inl (r5,v6))) (
  some (.inr s5.1))
def f_t(x0:List Int):Option (List Int):=
 (zJ (zSP x0) ([],0)).bind fun r7=>
 some r7
def zSQ(x0:SPr)(s1:(List ((List Int)×(List Int)))×Int):Option (((List ((List Int)×(List Int)))×Int)⊕(List ((List Int)×(List Int)))):=
 cond (decide (s1.2<(x0.zA.length:Int))) (
  (ixO x0.zA s1.2).bind fun v1=>
  (rng (s1.2+1)).bind fun v2=>
  (f_i [v2] v1).bind fun r3=>
  (ixO x0.zS s1.2).bind fun v4=>
  (f_t v4).bind fun r5=>
  (wK s1.1 [(r3,r5)]).bind fun v6=>
  (rng (s1.2+1)).bind fun v7=>
  some (.inl (v6,v7))) (
  some (.inr s1.1))
def zSR(s7:(List ((List Int)×(List Int)))×Int)(v9:List (List Int))(s8:(List ((List Int)×(List Int)))×Int):Option (((List ((List Int)×(List Int)))×Int)⊕(List ((List Int)×(List Int)))):=
 cond (decide (s8.2<(v9.length:Int))) (
  (ixO v9 s8.2).bind fun v10=>
  (rng (s7.2+1)).bind fun v11=>
  (rng (s7.2+s8.2)).bind fun v12=>
  (rng (v12+2)).bind fun v13=>
  (f_t v10).bind fun r14=>
  (wK [v11] r14).bind fun v15=>
  (wK s8.1 [([v13,v11],v15)]).bind fun v16=>
  (rng (s8.2+1)).bind fun v17=>
  some (.inl (v16,v17))) (
  some (.inr s8.1))
def zSS(x0:SPr)(s7:(List ((List Int)×(List Int)))×Int):Option (((List ((List Int)×(List Int)))×Int)⊕(List ((List Int)×(List Int)))):=
 cond (decide (s7.2<(x0.zA.length:Int))) (
  (ixO x0.zC s7.2).bind fun v9=>
  (zJ (zSR s7 v9) (s7.1,0)).bind fun r18=>
  (rng (s7.2+1)).bind fun v19=>
  some (.inl (r18,v19))) (
  some (.inr s7.1))
def f_x(x0:SPr):Option (List ((List Int)×(List Int))):=
 (zJ (zSQ x0) ([],0)).bind fun r8=>
 (zJ (zSS x0) (r8,0)).bind fun r20=>
 some r20
def zST(x1:Int)(s1:(List (List Int))×Int):Option (((List (List Int))×Int)⊕(List (List Int))):=
 cond (decide (s1.2<x1)) (
  (xH x1).bind fun m1=>
  (ixO (J1 m1 (0:Int)) s1.2).bind fun _=>
  (wK s1.1 [(J1 m1 (0:Int)).set s1.2.toNat 1]).bind fun v3=>
  (rng (s1.2+1)).bind fun v4=>
  some (.inl (v3,v4))) (
  some (.inr s1.1))
def f_M(x0:Int)(x1:Int):Option zU:=
 (zJ (zST x1) ([],0)).bind fun r5=>
 some (zU.mk x0 x1 r5)
def zKk(x0:Int)(x1:Int):Option Int:=
 (uL x0 x1).bind fun v1=>
 (rng (v1+x1)).bind fun v2=>
 (uL v2 x1).bind fun v3=>
 some v3
def zLV(x0:List Int)(x1:List Int)(x2:Int)(x3:Int)(s1:(List Int)×Int):Option (((List Int)×Int)⊕(List Int)):=
 cond (decide (s1.2<(x0.length:Int))) (
  (ixO s1.1 s1.2).bind fun v1=>
  (ixO x1 s1.2).bind fun v2=>
  (rng (x2*v2)).bind fun v3=>
  (rng (v1+v3)).bind fun v4=>
  (zKk v4 x3).bind fun r5=>
  (ixO s1.1 s1.2).bind fun _=>
  (rng (s1.2+1)).bind fun v7=>
  some (.inl (s1.1.set s1.2.toNat r5,v7))) (
  some (.inr s1.1))
def f_v(x0:List Int)(x1:List Int)(x2:Int)(x3:Int):Option (List Int):=
 (zJ (zLV x0 x1 x2 x3) (x0,0)).bind fun r8=>
 some r8
def zLW(x0:List Int)(x1:zU)(s1:(List Int)×Int):Option (((List Int)×Int)⊕(List Int)):=
 cond (decide (s1.2<(x0.length:Int))) (
  (ixO x0 s1.2).bind fun v2=>
  (ixO x1.Rows s1.2).bind fun v3=>
  (f_v s1.1 v3 v2 x1.Prime).bind fun r4=>
  (rng (s1.2+1)).bind fun v5=>
  some (.inl (r4,v5))) (
  some (.inr s1.1))
def zU3(x0:List Int)(x1:zU):Option (List Int):=
 (xH x1.xF).bind fun m1=>
 (zJ (zLW x0 x1) (J1 m1 (0:Int),0)).bind fun r6=>
 some r6
def zLX(x0:zU)(x1:zU)(s1:(List (List Int))×Int):Option (((List (List Int))×Int)⊕(List (List Int))):=
 cond (decide (s1.2<(x0.Rows.length:Int))) (
  (ixO x0.Rows s1.2).bind fun v1=>
  (zU3 v1 x1).bind fun r2=>
  (wK s1.1 [r2]).bind fun v3=>
  (rng (s1.2+1)).bind fun v4=>
  some (.inl (v3,v4))) (
  some (.inr s1.1))
def zU4(x0:zU)(x1:zU):Option zU:=
 (zJ (zLX x0 x1) ([],0)).bind fun r5=>
 some (zU.mk x0.Prime x1.xF r5)
def zSU(x0:zH)(x1:List Int)(s1:Int×Int×(List (List Int))×Int):Option ((Int×Int×(List (List Int))×Int)⊕(Int×Int×(List (List Int)))):=
 cond (decide (s1.2.2.2<(x1.length:Int))) (
  (ixO x1 s1.2.2.2).bind fun v2=>
  (rng (v2-1)).bind fun v3=>
  (zPL x0 v3).bind fun r4=>
  (zU4 (zU.mk s1.1 s1.2.1 s1.2.2.1) r4).bind fun r5=>
  (rng (s1.2.2.2+1)).bind fun v6=>
  some (.inl (r5.Prime,r5.xF,r5.Rows,v6))) (
  some (.inr (s1.1,s1.2.1,s1.2.2.1)))
def f_z(x0:zH)(x1:List Int):Option zU:=
 (f_M x0.Prime x0.Dim).bind fun r1=>
 (zJ (zSU x0 x1) (r1.Prime,r1.xF,r1.Rows,0)).bind fun r7=>
 some (zU.mk r7.1 r7.2.1 r7.2.2)
def zSV(x0:List (List Int))(x1:List (List Int))(s1:Int):Option (Int⊕(Unit⊕Bool)):=
 cond (decide (s1<(x0.length:Int))) (
  (ixO x0 s1).bind fun v1=>
  (ixO x1 s1).bind fun v2=>
  (f_Q v1 v2).bind fun r3=>
  cond (!r3) (
   some (.inr (.inr false))) (
   (rng (s1+1)).bind fun v4=>
   some (.inl v4))) (
  some (.inr (.inl ())))
def zXb(x0:List (List Int))(x1:List (List Int)):Option Bool:=
 cond ((x0.length:Int) != (x1.length:Int)) (
  some false) (
  (zJ (zSV x0 x1) 0).bind fun r5=>
  match r5 with
  |(.inl r5)=>
   some true
  |(.inr r5)=>
   some r5)
def zU5(x0:List (List Int))(x1:List (List Int)):Option Bool:=
 (zXb x0 x1).bind fun r1=>
 some r1
def zSW(x1:zH)(s1:Int):Option (Int⊕(Unit⊕Bool)):=
 cond (decide (s1<(x1.zF.length:Int))) (
  (ixO x1.zF s1).bind fun v4=>
  cond ((v4.length:Int) != x1.Dim) (
   some (.inr (.inr false))) (
   (zPL x1 s1).bind fun r5=>
   (zU1 r5).bind fun r6=>
   cond (!r6) (
    some (.inr (.inr false))) (
    (rng (s1+1)).bind fun v7=>
    some (.inl v7)))) (
  some (.inr (.inl ())))
def zSX(x1:zH)(r9:(List ((List Int)×(List Int))))(s3:Int):Option (Int⊕(Unit⊕Bool)):=
 cond (decide (s3<(r9.length:Int))) (
  (ixO r9 s3).bind fun v10=>
  (f_z x1 v10.1).bind fun r11=>
  (f_z x1 v10.2).bind fun r12=>
  (zU5 r11.Rows r12.Rows).bind fun r13=>
  cond (!r13) (
   some (.inr (.inr false))) (
   (rng (s3+1)).bind fun v14=>
   some (.inl v14))) (
  some (.inr (.inl ())))
def f_E(x0:SPr)(x1:zH):Option Bool:=
 (zUz x0).bind fun r1=>
 cond (!r1) (
  some false) (
  (zPH x1.Prime).bind fun r2=>
  cond (!r2) (
   some false) (
   (zNo x1.Dim 1 3).bind fun r3=>
   cond (!r3) (
    some false) (
    cond ((x1.zF.length:Int) != (x0.zA.length:Int)) (
     some false) (
     (zJ (zSW x1) 0).bind fun r8=>
     match r8 with
     |(.inl r8)=>
      (f_x x0).bind fun r9=>
      (zJ (zSX x1 r9) 0).bind fun r15=>
      match r15 with
      |(.inl r15)=>
       some true
      |(.inr r15)=>
       some r15
     |(.inr r8)=>
      some r8))))
def zSY(x1:Int):Option (List Int):=
 cond (decide (x1<0)) (
  none) (
  (rng (0-0)).bind fun v1=>
  (rng (x1-v1)).bind fun v2=>
  cond (decide (v2> 0)) (
   (uC [] v2 (0:Int)).bind fun v3=>
   (yA v3 0 0).bind fun v4=>
   some v4) (
   some []))
def zSZ(x0:List (List Int))(s1:Int×Int):Option ((Int×Int)⊕Int):=
 cond (decide (s1.2<(x0.length:Int))) (
  (ixO x0 s1.2).bind fun v1=>
  (rng (s1.1+(v1.length:Int))).bind fun v2=>
  cond (decide (v2<0)) (
   none) (
   (rng (s1.2+1)).bind fun v3=>
   some (.inl (v2,v3)))) (
  some (.inr s1.1))
def zTa(x0:List (List Int))(s3:(List Int)×Int):Option (((List Int)×Int)⊕(List Int)):=
 cond (decide (s3.2<(x0.length:Int))) (
  (ixO x0 s3.2).bind fun v6=>
  (wK s3.1 v6).bind fun v7=>
  (rng (s3.2+1)).bind fun v8=>
  some (.inl (v7,v8))) (
  some (.inr s3.1))
def f_y(x0:List (List Int)):Option (List Int):=
 (zJ (zSZ x0) (0,0)).bind fun r4=>
 (zSY r4).bind fun r5=>
 (zJ (zTa x0) (r5,0)).bind fun r9=>
 some r9
def zTb(x0:List Int)(x1:List Int)(s1:Int):Option (Int⊕(Unit⊕Bool)):=
 cond (decide (s1<(x0.length:Int))) (
  (ixO x0 s1).bind fun v1=>
  (ixO x1 s1).bind fun v2=>
  cond (v1 != v2) (
   some (.inr (.inr false))) (
   (rng (s1+1)).bind fun v3=>
   some (.inl v3))) (
  some (.inr (.inl ())))
def zTc(x0:List Int)(x1:List Int):Option Bool:=
 cond ((x0.length:Int) != (x1.length:Int)) (
  some false) (
  (zJ (zTb x0 x1) 0).bind fun r4=>
  match r4 with
  |(.inl r4)=>
   some true
  |(.inr r4)=>
   some r4)
def zXc(x0:List (List Int))(x1:List (List Int))(s1:Int):Option (Int⊕(Unit⊕Bool)):=
 cond (decide (s1<(x0.length:Int))) (
  (ixO x0 s1).bind fun v1=>
  (ixO x1 s1).bind fun v2=>
  (zTc v1 v2).bind fun r3=>
  cond (!r3) (
   some (.inr (.inr false))) (
   (rng (s1+1)).bind fun v4=>
   some (.inl v4))) (
  some (.inr (.inl ())))
def f_T(x0:List (List Int))(x1:List (List Int)):Option Bool:=
 cond ((x0.length:Int) != (x1.length:Int)) (
  some false) (
  (zJ (zXc x0 x1) 0).bind fun r5=>
  match r5 with
  |(.inl r5)=>
   some true
  |(.inr r5)=>
   some r5)
def zTd(x0:List (List (List Int)))(x1:List (List (List Int)))(s1:Int):Option (Int⊕(Unit⊕Bool)):=
 cond (decide (s1<(x0.length:Int))) (
  (ixO x0 s1).bind fun v1=>
  (ixO x1 s1).bind fun v2=>
  (f_T v1 v2).bind fun r3=>
  cond (!r3) (
   some (.inr (.inr false))) (
   (rng (s1+1)).bind fun v4=>
   some (.inl v4))) (
  some (.inr (.inl ())))
def zU6(x0:List (List (List Int)))(x1:List (List (List Int))):Option Bool:=
 cond ((x0.length:Int) != (x1.length:Int)) (
  some false) (
  (zJ (zTd x0 x1) 0).bind fun r5=>
  match r5 with
  |(.inl r5)=>
   some true
  |(.inr r5)=>
   some r5)
def zU7(x0:zH)(x1:zH):Option Bool:=
 cond (x0.Prime != x1.Prime) (
  some false) (
  cond (x0.Dim != x1.Dim) (
   some false) (
   (zU6 x0.zF x1.zF).bind fun r1=>
   cond (!r1) (
    some false) (
    some true)))
def zU8(x0:SPr)(x1:SPr):Option Bool:=
 (zTc x0.zA x1.zA).bind fun r1=>
 cond (!r1) (
  some false) (
  (f_T x0.zS x1.zS).bind fun r2=>
  cond (!r2) (
   some false) (
   (zU6 x0.zC x1.zC).bind fun r3=>
   cond (!r3) (
    some false) (
    some true)))
def zU9(s1:(List Int)×Int×Int):Option (((List Int)×Int×Int)⊕((List Int)×Int)):=
 cond (decide (s1.2.2<(s1.1.length:Int))) (
  (ixO s1.1 s1.2.2).bind fun _=>
  (rng (s1.2.1+1)).bind fun v2=>
  (rng (s1.2.2+1)).bind fun v3=>
  some (.inl (s1.1.set s1.2.2.toNat s1.2.1,v2,v3))) (
  some (.inr (s1.1,s1.2.1)))
def f_Z(x0:List Int)(x1:Int):Option (Int×(List Int)):=
 (zJ zU9 (x0,x1,0)).bind fun r4=>
 some (r4.2,r4.1)
def zTe(s1:(List (List Int))×Int×Int):Option (((List (List Int))×Int×Int)⊕((List (List Int))×Int)):=
 cond (decide (s1.2.2<(s1.1.length:Int))) (
  (ixO s1.1 s1.2.2).bind fun v1=>
  (f_Z v1 s1.2.1).bind fun r2=>
  (rng (s1.2.2+1)).bind fun v3=>
  some (.inl (s1.1.set s1.2.2.toNat r2.2,r2.1,v3))) (
  some (.inr (s1.1,s1.2.1)))
def zNr(x0:List (List Int))(x1:Int):Option (Int×(List (List Int))):=
 (zJ zTe (x0,x1,0)).bind fun r4=>
 some (r4.2,r4.1)
def zTf(s1:(List (List (List Int)))×Int×Int):Option (((List (List (List Int)))×Int×Int)⊕((List (List (List Int)))×Int)):=
 cond (decide (s1.2.2<(s1.1.length:Int))) (
  (ixO s1.1 s1.2.2).bind fun v1=>
  (zNr v1 s1.2.1).bind fun r2=>
  (rng (s1.2.2+1)).bind fun v3=>
  some (.inl (s1.1.set s1.2.2.toNat r2.2,r2.1,v3))) (
  some (.inr (s1.1,s1.2.1)))
def zTg(x0:List (List (List Int)))(x1:Int):Option (Int×(List (List (List Int)))):=
 (zJ zTf (x0,x1,0)).bind fun r4=>
 some (r4.2,r4.1)
def zUA(x0:SPr)(x1:Int):Option (Int×SPr):=
 (f_Z x0.zA x1).bind fun r1=>
 (zNr x0.zS r1.1).bind fun r2=>
 (zTg x0.zC r2.1).bind fun r3=>
 some (r3.1,(SPr.mk r1.2 r2.2 r3.2))
def zUB(x0:zH)(x1:Int):Option (Int×zH):=
 (zTg x0.zF x1).bind fun r1=>
 some (r1.1,(zH.mk x0.Prime x0.Dim r1.2))
def zLY(x0:List Int)(s1:Int×Int):Option ((Int×Int)⊕(Int⊕Int)):=
 cond (decide (s1.2<(x0.length:Int))) (
  (ixO x0 s1.2).bind fun v1=>
  cond (v1 != s1.1) (
   some (.inr (.inr (-1)))) (
   (rng (s1.1+1)).bind fun v2=>
   (rng (s1.2+1)).bind fun v3=>
   some (.inl (v2,v3)))) (
  some (.inr (.inl s1.1)))
def zTh(x0:List Int)(x1:Int):Option Int:=
 (zJ (zLY x0) (x1,0)).bind fun r4=>
 match r4 with
 |(.inl r4)=>
  some r4
 |(.inr r4)=>
  some r4
def zTi(x0:List (List Int))(s1:Int×Int):Option ((Int×Int)⊕(Int⊕Int)):=
 cond (decide (s1.2<(x0.length:Int))) (
  (ixO x0 s1.2).bind fun v1=>
  (zTh v1 s1.1).bind fun r2=>
  cond (decide (r2<0)) (
   some (.inr (.inr (-1)))) (
   (rng (s1.2+1)).bind fun v3=>
   some (.inl (r2,v3)))) (
  some (.inr (.inl s1.1)))
def zUC(x0:List (List Int))(x1:Int):Option Int:=
 (zJ (zTi x0) (x1,0)).bind fun r4=>
 match r4 with
 |(.inl r4)=>
  some r4
 |(.inr r4)=>
  some r4
def zLZ(x0:List (List Int))(s1:(List (List Int))×Int):Option (((List (List Int))×Int)⊕(List (List Int))):=
 cond (decide (s1.2<(x0.length:Int))) (
  (ixO x0 s1.2).bind fun v1=>
  (rng ((v1.length:Int)+(x0.length:Int))).bind fun v2=>
  (xH v2).bind fun m3=>
  (rng ((v1.length:Int)+s1.2)).bind fun v4=>
  (ixO (xQ (J1 m3 (0:Int)) 0 (v1.take (((J1 m3 (0:Int)).length)-0))) v4).bind fun _=>
  (wK s1.1 [(xQ (J1 m3 (0:Int)) 0 (v1.take (((J1 m3 (0:Int)).length)-0))).set v4.toNat 1]).bind fun v6=>
  (rng (s1.2+1)).bind fun v7=>
  some (.inl (v6,v7))) (
  some (.inr s1.1))
def zUD(x0:List (List Int)):Option (List (List Int)):=
 (zJ (zLZ x0) ([],0)).bind fun r8=>
 some r8
def zMa(x0:List (List Int))(s1:(List (List Int))×Int):Option (((List (List Int))×Int)⊕(List (List Int))):=
 cond (decide (s1.2<(x0.length:Int))) (
  (ixO x0 s1.2).bind fun v1=>
  (f_L v1).bind fun r2=>
  (wK s1.1 [r2]).bind fun v3=>
  (rng (s1.2+1)).bind fun v4=>
  some (.inl (v3,v4))) (
  some (.inr s1.1))
def zUE(x0:List (List Int)):Option (List (List Int)):=
 (zJ (zMa x0) ([],0)).bind fun r5=>
 some r5
def zPM(s1:Int×Int×Int×Int):Option ((Int×Int×Int×Int)⊕(Int×Int)):=
 cond (s1.2.1 != 0) (
  (tB s1.1 s1.2.1).bind fun v1=>
  (rng (v1*s1.2.1)).bind fun v2=>
  (rng (s1.1-v2)).bind fun v3=>
  (rng (v1*s1.2.2.2)).bind fun v4=>
  (rng (s1.2.2.1-v4)).bind fun v5=>
  some (.inl (s1.2.1,v3,s1.2.2.2,v5))) (
  some (.inr (s1.1,s1.2.2.1)))
def f_N(x0:Int)(x1:Int):Option (Int×Bool):=
 (zJ zPM (x1,x0,0,1)).bind fun r6=>
 (zKk r6.2 x1).bind fun r7=>
 some (r7,(r6.1==1))
def zIu(s13:(List (List Int))×Int×Int)(s14:Int):Option (Int⊕Int):=
 cond (decide (s14<(s13.1.length:Int))) (
  (ixO s13.1 s14).bind fun v3=>
  (ixO v3 s13.2.2).bind fun v4=>
  cond (v4==0) (
   (rng (s14+1)).bind fun v5=>
   some (.inl v5)) (
   some (.inr s14))) (
  some (.inr s14))
def zMb(x0:Int)(s13:(List (List Int))×Int×Int)(r12:Int×Bool)(v13:List Int)(s16:(List (List Int))×Int):Option (((List (List Int))×Int)⊕(List (List Int))):=
 cond (decide (s16.2<(v13.length:Int))) (
  (ixO s16.1 s13.2.1).bind fun v14=>
  (ixO s16.1 s13.2.1).bind fun v15=>
  (ixO v15 s16.2).bind fun v16=>
  (rng (v16*r12.1)).bind fun v17=>
  (uL v17 x0).bind fun v18=>
  (ixO v14 s16.2).bind fun _=>
  (rng (s16.2+1)).bind fun v20=>
  some (.inl (s16.1.set s13.2.1.toNat (v14.set s16.2.toNat v18),v20))) (
  some (.inr s16.1))
def zNs(x0:Int)(s13:(List (List Int))×Int×Int)(r21:(List (List Int)))(s18:(List (List Int))×Int):Option (((List (List Int))×Int)⊕(List (List Int))):=
 cond (decide (s18.2<(r21.length:Int))) (
  cond (s18.2 != s13.2.1) (
   (ixO s18.1 s18.2).bind fun v22=>
   (ixO s18.1 s13.2.1).bind fun v23=>
   (ixO s18.1 s18.2).bind fun v24=>
   (ixO v24 s13.2.2).bind fun v25=>
   (rng (0-v25)).bind fun v26=>
   (f_v v22 v23 v26 x0).bind fun r27=>
   (rng (s18.2+1)).bind fun v28=>
   some (.inl (s18.1.set s18.2.toNat r27,v28))) (
   (rng (s18.2+1)).bind fun v29=>
   some (.inl (s18.1,v29)))) (
  some (.inr s18.1))
def zNt(x0:Int)(s13:(List (List Int))×Int×Int):Option (((List (List Int))×Int×Int)⊕((List (List Int))×Int)):=
 cond (decide ((s13.1.length:Int)> 0)) (
  (ixO s13.1 0).bind fun v2=>
  cond (decide (s13.2.2<(v2.length:Int))) (
   cond (decide (s13.2.1<(s13.1.length:Int))) (
    (zJ (zIu s13) s13.2.1).bind fun r6=>
    cond (r6==(s13.1.length:Int)) (
     (rng (s13.2.2+1)).bind fun v7=>
     some (.inl (s13.1,s13.2.1,v7))) (
     (ixO s13.1 r6).bind fun v8=>
     (ixO s13.1 s13.2.1).bind fun v9=>
     (ixO (jJ s13.1 s13.2.1 r6 v8 v9) s13.2.1).bind fun v10=>
     (ixO v10 s13.2.2).bind fun v11=>
     (f_N v11 x0).bind fun r12=>
     (ixO (jJ s13.1 s13.2.1 r6 v8 v9) s13.2.1).bind fun v13=>
     (zJ (zMb x0 s13 r12 v13) (jJ s13.1 s13.2.1 r6 v8 v9,0)).bind fun r21=>
     (zJ (zNs x0 s13 r21) (r21,0)).bind fun r30=>
     (rng (s13.2.1+1)).bind fun v31=>
     (rng (s13.2.2+1)).bind fun v32=>
     some (.inl (r30,v31,v32)))) (
    some (.inr (s13.1,s13.2.1)))) (
   some (.inr (s13.1,s13.2.1)))) (
  some (.inr (s13.1,s13.2.1)))
def f_j(x0:Int)(x1:List (List Int)):Option (List (List Int)):=
 (zUE x1).bind fun r1=>
 (zJ (zNt x0) (r1,0,0)).bind fun r33=>
 (yA r33.1 0 r33.2).bind fun v34=>
 some v34
def zTj(x0:Int)(x1:Int):Option Int:=
 (uL x0 x1).bind fun v1=>
 cond (decide (v1<0)) (
  (rng (v1+x1)).bind fun v2=>
  some v2) (
  some v1)
def zIv(x0:List Int)(s1:Int):Option (Int⊕(Unit⊕Int)):=
 cond (decide (s1<(x0.length:Int))) (
  (ixO x0 s1).bind fun v1=>
  cond (v1 != 0) (
   some (.inr (.inr s1))) (
   (rng (s1+1)).bind fun v2=>
   some (.inl v2))) (
  some (.inr (.inl ())))
def f_B(x0:List Int):Option Int:=
 (zJ (zIv x0) 0).bind fun r3=>
 match r3 with
 |(.inl r3)=>
  some (x0.length:Int)
 |(.inr r3)=>
  some r3
def zTk(x0:Int)(x2:Int)(x3:List Int)(s1:(List Int)×Int):Option (((List Int)×Int)⊕(List Int)):=
 cond (decide (s1.2<(s1.1.length:Int))) (
  cond (decide (s1.2<(x3.length:Int))) (
   (ixO s1.1 s1.2).bind fun v2=>
   (ixO x3 s1.2).bind fun v3=>
   (rng (x2*v3)).bind fun v4=>
   (rng (v2+v4)).bind fun v5=>
   (zTj v5 x0).bind fun r6=>
   (ixO s1.1 s1.2).bind fun _=>
   (rng (s1.2+1)).bind fun v8=>
   some (.inl (s1.1.set s1.2.toNat r6,v8))) (
   some (.inr s1.1))) (
  some (.inr s1.1))
def f_A(x0:Int)(x1:List Int)(x2:Int)(x3:List Int):Option (List Int):=
 (f_w x1).bind fun r1=>
 (zJ (zTk x0 x2 x3) (r1,0)).bind fun r9=>
 some r9
def zMc(x0:Int)(x1:List (List Int))(s1:(List Int)×Int):Option (((List Int)×Int)⊕(List Int)):=
 cond (decide (s1.2<(x1.length:Int))) (
  (ixO x1 s1.2).bind fun v2=>
  (f_B v2).bind fun r3=>
  cond (decide (r3<(s1.1.length:Int))) (
   (ixO s1.1 r3).bind fun v4=>
   cond (v4 != 0) (
    (ixO s1.1 r3).bind fun v5=>
    (rng (x0-v5)).bind fun v6=>
    (ixO x1 s1.2).bind fun v7=>
    (f_A x0 s1.1 v6 v7).bind fun r8=>
    (rng (s1.2+1)).bind fun v9=>
    some (.inl (r8,v9))) (
    (rng (s1.2+1)).bind fun v10=>
    some (.inl (s1.1,v10)))) (
   (rng (s1.2+1)).bind fun v11=>
   some (.inl (s1.1,v11)))) (
  some (.inr s1.1))
def zUF(x0:Int)(x1:List (List Int))(x2:List Int):Option (List Int):=
 (f_w x2).bind fun r1=>
 (zJ (zMc x0 x1) (r1,0)).bind fun r12=>
 some r12
def zMd(x0:Int)(x1:Int)(s1:Int):Option (Int⊕(Unit⊕Int)):=
 cond (decide (s1<x1)) (
  (zTj x0 x1).bind fun r1=>
  (rng (r1*s1)).bind fun v2=>
  (uL v2 x1).bind fun v3=>
  cond (v3==1) (
   some (.inr (.inr s1))) (
   (rng (s1+1)).bind fun v4=>
   some (.inl v4))) (
  some (.inr (.inl ())))
def zUG(x0:Int)(x1:Int):Option Int:=
 (zJ (zMd x0 x1) 1).bind fun r5=>
 match r5 with
 |(.inl r5)=>
  some 0
 |(.inr r5)=>
  some r5
def zUH(x0:Int)(x1:Int)(x2:List Int):Option (List Int):=
 (xH (x2.length:Int)).bind fun m1=>
 (f_A x0 (J1 m1 (0:Int)) x1 x2).bind fun r2=>
 some r2
def zIw(x0:Int)(s5:(List (List Int))×Int)(r3:Int)(r7:(List Int))(s6:(List (List Int))×Bool×Int):Option (((List (List Int))×Bool×Int)⊕((List (List Int))×Bool)):=
 cond (decide (s6.2.2<(s5.1.length:Int))) (
  cond (!s6.2.1) (
   (ixO s5.1 s6.2.2).bind fun v8=>
   (f_B v8).bind fun r9=>
   cond (decide (r9> r3)) (
    (wK s6.1 [r7]).bind fun v10=>
    (ixO s5.1 s6.2.2).bind fun v11=>
    (ixO s5.1 s6.2.2).bind fun v12=>
    (ixO v12 r3).bind fun v13=>
    (rng (x0-v13)).bind fun v14=>
    (f_A x0 v11 v14 r7).bind fun r15=>
    (wK v10 [r15]).bind fun v16=>
    (rng (s6.2.2+1)).bind fun v17=>
    some (.inl (v16,true,v17))) (
    (ixO s5.1 s6.2.2).bind fun v18=>
    (ixO s5.1 s6.2.2).bind fun v19=>
    (ixO v19 r3).bind fun v20=>
    (rng (x0-v20)).bind fun v21=>
    (f_A x0 v18 v21 r7).bind fun r22=>
    (wK s6.1 [r22]).bind fun v23=>
    (rng (s6.2.2+1)).bind fun v24=>
    some (.inl (v23,s6.2.1,v24)))) (
   (ixO s5.1 s6.2.2).bind fun v25=>
   (ixO s5.1 s6.2.2).bind fun v26=>
   (ixO v26 r3).bind fun v27=>
   (rng (x0-v27)).bind fun v28=>
   (f_A x0 v25 v28 r7).bind fun r29=>
   (wK s6.1 [r29]).bind fun v30=>
   (rng (s6.2.2+1)).bind fun v31=>
   some (.inl (v30,s6.2.1,v31)))) (
  some (.inr (s6.1,s6.2.1)))
def zPN(x0:Int)(x1:List (List Int))(s5:(List (List Int))×Int):Option (((List (List Int))×Int)⊕(List (List Int))):=
 cond (decide (s5.2<(x1.length:Int))) (
  (ixO x1 s5.2).bind fun v1=>
  (zUF x0 s5.1 v1).bind fun r2=>
  (f_B r2).bind fun r3=>
  cond (r3==(r2.length:Int)) (
   (rng (s5.2+1)).bind fun v4=>
   some (.inl (s5.1,v4))) (
   (ixO r2 r3).bind fun v5=>
   (zUG v5 x0).bind fun r6=>
   (zUH x0 r6 r2).bind fun r7=>
   (zJ (zIw x0 s5 r3 r7) ([],false,0)).bind fun r32=>
   cond (!r32.2) (
    (wK r32.1 [r7]).bind fun v33=>
    (rng (s5.2+1)).bind fun v34=>
    some (.inl (v33,v34))) (
    (rng (s5.2+1)).bind fun v35=>
    some (.inl (r32.1,v35))))) (
  some (.inr s5.1))
def f_p(x0:Int)(x1:List (List Int)):Option (List (List Int)):=
 (zJ (zPN x0 x1) ([],0)).bind fun r36=>
 some r36
def zMe(x1:List (List Int))(r1:(List (List Int)))(s1:(List (List Int))×Int):Option (((List (List Int))×Int)⊕(List (List Int))):=
 cond (decide (s1.2<(x1.length:Int))) (
  (ixO x1 s1.2).bind fun v2=>
  (f_w v2).bind fun r3=>
  (ixO r1 s1.2).bind fun v4=>
  (wK r3 v4).bind fun v5=>
  (wK s1.1 [v5]).bind fun v6=>
  (rng (s1.2+1)).bind fun v7=>
  some (.inl (v6,v7))) (
  some (.inr s1.1))
def zUI(x0:Int)(x1:List (List Int)):Option (List (List Int)):=
 (f_I (x1.length:Int)).bind fun r1=>
 (zJ (zMe x1 r1) ([],0)).bind fun r8=>
 (f_p x0 r8).bind fun r9=>
 some r9
def zPO(x2:Int)(r1:(List (List Int)))(s1:(List (List Int))×Int):Option (((List (List Int))×Int)⊕(List (List Int))):=
 cond (decide (s1.2<(r1.length:Int))) (
  (ixO r1 s1.2).bind fun v2=>
  (f_B v2).bind fun r3=>
  cond (decide (r3≥x2)) (
   (ixO r1 s1.2).bind fun v4=>
   (yA v4 x2 v4.length).bind fun v5=>
   (f_w v5).bind fun r6=>
   (wK s1.1 [r6]).bind fun v7=>
   (rng (s1.2+1)).bind fun v8=>
   some (.inl (v7,v8))) (
   (rng (s1.2+1)).bind fun v9=>
   some (.inl (s1.1,v9)))) (
  some (.inr s1.1))
def f_W(x0:Int)(x1:List (List Int))(x2:Int):Option (List (List Int)):=
 (zUI x0 x1).bind fun r1=>
 (zJ (zPO x2 r1) ([],0)).bind fun r10=>
 some r10
def zUJ(x0:SPr):Option Int:=
 (rng ((x0.zA.length:Int)-1)).bind fun v1=>
 (rng ((x0.zA.length:Int)*v1)).bind fun v2=>
 (tB v2 2).bind fun v3=>
 (rng ((x0.zA.length:Int)+v3)).bind fun v4=>
 some v4
def zXd(x0:Int)(x1:Int)(x2:Int):Option Int:=
 (rng (x1*x0)).bind fun v1=>
 (rng (x0+v1)).bind fun v2=>
 (rng (x1+1)).bind fun v3=>
 (rng (x1*v3)).bind fun v4=>
 (tB v4 2).bind fun v5=>
 (rng (v2-v5)).bind fun v6=>
 (rng (v6+x2)).bind fun v7=>
 (rng (v7-x1)).bind fun v8=>
 (rng (v8-1)).bind fun v9=>
 some v9
def zUK(x0:SPr):Option Int:=
 (rng ((x0.zA.length:Int)+1)).bind fun v1=>
 (rng ((x0.zA.length:Int)*v1)).bind fun v2=>
 (tB v2 2).bind fun v3=>
 some v3
def zMf(x0:zX):Option zI:=
 cond (decide ((x0.zMj.length:Int)> 0)) (
  (ixO x0.zMj 0).bind fun v1=>
  (xH (x0.p.zA.length:Int)).bind fun m2=>
  (xH (v1.length:Int)).bind fun m3=>
  some (zI.mk (J1 m2 (0:Int)) (J1 m3 (0:Int)))) (
  (xH (x0.p.zA.length:Int)).bind fun m4=>
  (xH 0).bind fun m5=>
  some (zI.mk (J1 m4 (0:Int)) (J1 m5 (0:Int))))
def f_S(x0:zX)(x1:Int)(x2:Int):Option zI:=
 (ixO x0.p.zC x1).bind fun v1=>
 (rng (x2-x1)).bind fun v2=>
 (rng (v2-1)).bind fun v3=>
 (ixO v1 v3).bind fun v4=>
 (zXd (x0.p.zA.length:Int) x1 x2).bind fun r5=>
 (ixO x0.zMj r5).bind fun v6=>
 some (zI.mk v4 v6)
def zMg(x0:zH)(x1:List Int)(x2:Int)(s1:(List Int)×Int):Option (((List Int)×Int)⊕(List Int)):=
 cond (decide (s1.2<(x1.length:Int))) (
  (rng (s1.2+x0.Dim)).bind fun v1=>
  (yA x1 s1.2 v1).bind fun v2=>
  (ixO x0.zF x2).bind fun v3=>
  (f_H x0.Prime v2 v3 x0.Dim).bind fun r4=>
  (wK s1.1 r4).bind fun v5=>
  (rng (s1.2+x0.Dim)).bind fun v6=>
  some (.inl (v5,v6))) (
  some (.inr s1.1))
def zUL(x0:zH)(x1:List Int)(x2:Int):Option (List Int):=
 (zJ (zMg x0 x1 x2) ([],0)).bind fun r7=>
 some r7
def zNu(x0:zX)(x1:Int):Option zI:=
 (ixO x0.p.zS x1).bind fun v1=>
 (ixO x0.zMj x1).bind fun v2=>
 some (zI.mk v1 v2)
def zUM(g_d:zX→Int→zI→zI→Option zI)(x0:zX)(x1:Int)(x2:zI)(s5:(List Int)×(List Int)×Int)(s6:(List Int)×(List Int)×Int):Option (((List Int)×(List Int)×Int)⊕((List Int)×(List Int))):=
 (ixO x2.x s5.2.2).bind fun v3=>
 cond (decide (s6.2.2<v3)) (
  (rng (x1+1)).bind fun v4=>
  (f_S x0 x1 s5.2.2).bind fun r5=>
  (g_d x0 v4 (zI.mk s6.1 s6.2.1) r5).bind fun r6=>
  (rng (s6.2.2+1)).bind fun v7=>
  some (.inl (r6.x,r6.v,v7))) (
  some (.inr (s6.1,s6.2.1)))
def zTl(g_d:zX→Int→zI→zI→Option zI)(x0:zX)(x1:Int)(x2:zI)(s5:(List Int)×(List Int)×Int):Option (((List Int)×(List Int)×Int)⊕((List Int)×(List Int))):=
 cond (decide (s5.2.2<(x2.x.length:Int))) (
  (zJ (zUM g_d x0 x1 x2 s5) (s5.1,s5.2.1,0)).bind fun r8=>
  (rng (s5.2.2+1)).bind fun v9=>
  some (.inl (r8.1,r8.2,v9))) (
  some (.inr (s5.1,s5.2.1)))
def b_h(g_d:zX→Int→zI→zI→Option zI)(x0:zX)(x1:Int)(x2:zI):Option zI:=
 (zMf x0).bind fun r1=>
 (rng (x1+1)).bind fun v2=>
 (zJ (zTl g_d x0 x1 x2) (r1.x,r1.v,v2)).bind fun r10=>
 (zUL x0.m x2.v x1).bind fun r11=>
 (f_A x0.m.Prime r10.2 1 r11).bind fun r12=>
 some (zI.mk r10.1 r12)
def zPP(g_h:zX→Int→zI→Option zI)(x0:zX)(x1:Int)(x3:zI)(s1:(List Int)×(List Int)×Int):Option (((List Int)×(List Int)×Int)⊕((List Int)×(List Int))):=
 (ixO x3.x x1).bind fun v7=>
 cond (decide (s1.2.2<v7)) (
  (g_h x0 x1 (zI.mk s1.1 s1.2.1)).bind fun r8=>
  (rng (s1.2.2+1)).bind fun v9=>
  some (.inl (r8.x,r8.v,v9))) (
  some (.inr (s1.1,s1.2.1)))
def b_d(g_h:zX→Int→zI→Option zI)(g_d:zX→Int→zI→zI→Option zI)(x0:zX)(x1:Int)(x2:zI)(x3:zI):Option zI:=
 cond (decide (x1≥(x0.p.zA.length:Int))) (
  (xH (x0.p.zA.length:Int)).bind fun m1=>
  (f_A x0.m.Prime x2.v 1 x3.v).bind fun r2=>
  some (zI.mk (J1 m1 (0:Int)) r2)) (
  (f_w x2.x).bind fun r3=>
  (f_w x3.x).bind fun r4=>
  (ixO r3 x1).bind fun _=>
  (ixO r4 x1).bind fun _=>
  (zJ (zPP g_h x0 x1 x3) (r3.set x1.toNat 0,x2.v,0)).bind fun r10=>
  (rng (x1+1)).bind fun v11=>
  (g_d x0 v11 (zI.mk r10.1 r10.2) (zI.mk (r4.set x1.toNat 0) x3.v)).bind fun r12=>
  (ixO x2.x x1).bind fun v13=>
  (ixO x3.x x1).bind fun v14=>
  (rng (v13+v14)).bind fun v15=>
  (ixO x0.p.zA x1).bind fun v16=>
  cond (decide (v15≥v16)) (
   (ixO x0.p.zA x1).bind fun v17=>
   (rng (v15-v17)).bind fun v18=>
   (rng (x1+1)).bind fun v19=>
   (zNu x0 x1).bind fun r20=>
   (g_d x0 v19 r20 r12).bind fun r21=>
   (f_w r21.x).bind fun r22=>
   (ixO r22 x1).bind fun _=>
   some (zI.mk (r22.set x1.toNat v18) r21.v)) (
   (f_w r12.x).bind fun r24=>
   (ixO r24 x1).bind fun _=>
   some (zI.mk (r24.set x1.toNat v15) r12.v)))
mutual
def zNv:Nat→zX→Int→zI→Option zI
 |0=>fun _ _ _=>none
 |n+1=>b_h (zNw n)
def zNw:Nat→zX→Int→zI→zI→Option zI
 |0=>fun _ _ _ _=>none
 |n+1=>b_d (zNv n) (zNw n)
end
def f_h(x0:zX)(x1:Int)(x2:zI):Option zI:=zD3 fun n=>zNv n x0 x1 x2
def f_d(x0:zX)(x1:Int)(x2:zI)(x3:zI):Option zI:=zD3 fun n=>zNw n x0 x1 x2 x3
def f_X(x0:zX)(x1:zI)(x2:zI):Option (List Int):=
 (rng (x0.m.Prime-1)).bind fun v1=>
 (f_A x0.m.Prime x1.v v1 x2.v).bind fun r2=>
 some r2
def zPQ(x0:zX)(x1:Int)(s9:(List (List Int))×Int)(s10:(List Int)×(List Int)×Int):Option (((List Int)×(List Int)×Int)⊕((List Int)×(List Int))):=
 (ixO x0.p.zA s9.2).bind fun v3=>
 cond (decide (s10.2.2<v3)) (
  (rng (x1+1)).bind fun v4=>
  (f_S x0 x1 s9.2).bind fun r5=>
  (f_d x0 v4 (zI.mk s10.1 s10.2.1) r5).bind fun r6=>
  (rng (s10.2.2+1)).bind fun v7=>
  some (.inl (r6.x,r6.v,v7))) (
  some (.inr (s10.1,s10.2.1)))
def zPR(x0:zX)(x1:Int)(s9:(List (List Int))×Int)(s12:(List (List Int))×Int):Option (((List (List Int))×Int)⊕(List (List Int))):=
 cond (decide (s12.2<(x0.p.zA.length:Int))) (
  (f_S x0 x1 s9.2).bind fun r14=>
  (f_S x0 x1 s12.2).bind fun r15=>
  (f_S x0 s9.2 s12.2).bind fun r16=>
  (f_h x0 x1 r16).bind fun r17=>
  (rng (x1+1)).bind fun v18=>
  (f_d x0 v18 r15 r14).bind fun r19=>
  (rng (x1+1)).bind fun v20=>
  (f_d x0 v20 r14 r17).bind fun r21=>
  (f_X x0 r19 r21).bind fun r22=>
  (wK s12.1 [r22]).bind fun v23=>
  (rng (s12.2+1)).bind fun v24=>
  some (.inl (v23,v24))) (
  some (.inr s12.1))
def zTm(x0:zX)(x1:Int)(s9:(List (List Int))×Int):Option (((List (List Int))×Int)⊕(List (List Int))):=
 cond (decide (s9.2<(x0.p.zA.length:Int))) (
  (zMf x0).bind fun r2=>
  (zJ (zPQ x0 x1 s9) (r2.x,r2.v,0)).bind fun r8=>
  (zNu x0 s9.2).bind fun r9=>
  (f_h x0 x1 r9).bind fun r10=>
  (f_X x0 (zI.mk r8.1 r8.2) r10).bind fun r11=>
  (wK s9.1 [r11]).bind fun v12=>
  (rng (s9.2+1)).bind fun v13=>
  (zJ (zPR x0 x1 s9) (v12,v13)).bind fun r25=>
  (rng (s9.2+1)).bind fun v26=>
  some (.inl (r25,v26))) (
  some (.inr s9.1))
def zTn(x0:zX)(x1:Int)(s20:(List Int)×(List Int)×Int):Option (((List Int)×(List Int)×Int)⊕((List Int)×(List Int))):=
 (ixO x0.p.zA x1).bind fun v35=>
 cond (decide (s20.2.2<v35)) (
  (f_h x0 x1 (zI.mk s20.1 s20.2.1)).bind fun r36=>
  (rng (s20.2.2+1)).bind fun v37=>
  some (.inl (r36.x,r36.v,v37))) (
  some (.inr (s20.1,s20.2.1)))
def zPS(x0:zX)(x1:Int)(r28:zI)(s19:(List (List Int))×Int):Option (((List (List Int))×Int)⊕(List (List Int))):=
 cond (decide (s19.2<(x0.p.zA.length:Int))) (
  (zMf x0).bind fun r33=>
  (ixO r33.x s19.2).bind fun _=>
  (zJ (zTn x0 x1) (r33.x.set s19.2.toNat 1,r33.v,0)).bind fun r38=>
  (rng (x1+1)).bind fun v39=>
  (f_d x0 v39 r28 (zI.mk r38.1 r38.2)).bind fun r40=>
  (rng (x1+1)).bind fun v41=>
  (f_d x0 v41 (zI.mk (r33.x.set s19.2.toNat 1) r33.v) r28).bind fun r42=>
  (f_X x0 r40 r42).bind fun r43=>
  (wK s19.1 [r43]).bind fun v44=>
  (rng (s19.2+1)).bind fun v45=>
  some (.inl (v44,v45))) (
  some (.inr s19.1))
def f_l(x0:zX)(x1:Int):Option (List (List Int)):=
 (rng (x1+1)).bind fun v1=>
 (zJ (zTm x0 x1) ([],v1)).bind fun r27=>
 (zNu x0 x1).bind fun r28=>
 (f_h x0 x1 r28).bind fun r29=>
 (f_X x0 r29 r28).bind fun r30=>
 (wK r27 [r30]).bind fun v31=>
 (rng (x1+1)).bind fun v32=>
 (zJ (zPS x0 x1 r28) (v31,v32)).bind fun r46=>
 some r46
def zPT(x0:zX)(s1:(List (List Int))×Int):Option (((List (List Int))×Int)⊕(List (List Int))):=
 cond (decide (s1.2<(x0.p.zA.length:Int))) (
  (f_l x0 s1.2).bind fun r1=>
  (wK s1.1 r1).bind fun v2=>
  (rng (s1.2+1)).bind fun v3=>
  some (.inl (v2,v3))) (
  some (.inr s1.1))
def f_K(x0:zX):Option (List (List Int)):=
 (zJ (zPT x0) ([],0)).bind fun r4=>
 some r4
def zPU(x2:Int)(r2:(List (List Int)))(s1:(List (List Int))×Int):Option (((List (List Int))×Int)⊕(List (List Int))):=
 cond (decide (s1.2<(r2.length:Int))) (
  (ixO r2 s1.2).bind fun v3=>
  (yA v3 0 x2).bind fun v4=>
  (f_U v4).bind fun r5=>
  cond r5 (
   (yA v3 x2 v3.length).bind fun v6=>
   (wK s1.1 [v6]).bind fun v7=>
   (rng (s1.2+1)).bind fun v8=>
   some (.inl (v7,v8))) (
   (rng (s1.2+1)).bind fun v9=>
   some (.inl (s1.1,v9)))) (
  some (.inr s1.1))
def f_F(x0:Int)(x1:List (List Int))(x2:Int):Option (List (List Int)):=
 (zUD x1).bind fun r1=>
 (f_j x0 r1).bind fun r2=>
 (zJ (zPU x2 r2) ([],0)).bind fun r10=>
 (f_j x0 r10).bind fun r11=>
 some r11
structure zK where
 Word:List Int
 Left:List Int
 zVF:List Int
abbrev zG(x:zK):T:=.agg [(L 1 I) x.Word,(L 1 I) x.Left,(L 1 I) x.zVF]
instance:Enc zG:=.of fun _=>zMy ⟨Enc.t (f:=(L 1 I)) inferInstance _,Enc.t (f:=(L 1 I)) inferInstance _,Enc.t (f:=(L 1 I)) inferInstance _,trivial⟩
structure xM where
 p:SPr
 m:zH
 sums:List zU
abbrev zJh(x:xM):T:=.agg [(Pt yM) x.p,(Pt zV) x.m,(L 3 zO) x.sums]
instance:Enc zJh:=.of fun _=>zMy ⟨Enc.t (f:=(Pt yM)) inferInstance _,Enc.t (f:=(Pt zV)) inferInstance _,Enc.t (f:=(L 3 zO)) inferInstance _,trivial⟩
def zPV(x1:zH)(s5:(List (List Int))×Int)(s6:(List Int)×Int):Option (((List Int)×Int)⊕(List Int)):=
 cond (decide (s6.2<x1.Dim)) (
  (rng (s5.2*x1.Dim)).bind fun v5=>
  (rng (v5+s6.2)).bind fun v6=>
  (rng (v6*x1.Dim)).bind fun v7=>
  (rng (v7+s6.2)).bind fun v8=>
  (ixO s6.1 v8).bind fun _=>
  (rng (s6.2+1)).bind fun v10=>
  some (.inl (s6.1.set v8.toNat 1,v10))) (
  some (.inr s6.1))
def zTo(x1:zH)(r1:Int)(v2:Int)(s5:(List (List Int))×Int):Option (((List (List Int))×Int)⊕(List (List Int))):=
 cond (decide (s5.2<r1)) (
  (rng (v2*x1.Dim)).bind fun v3=>
  (xH v3).bind fun m4=>
  (zJ (zPV x1 s5) (J1 m4 (0:Int),0)).bind fun r11=>
  (wK s5.1 [r11]).bind fun v12=>
  (rng (s5.2+1)).bind fun v13=>
  some (.inl (v12,v13))) (
  some (.inr s5.1))
def zPW(x1:zH)(r15:(List (List Int)))(s13:(List (List Int))×Int)(s14:(List Int)×Int):Option (((List Int)×Int)⊕(List Int)):=
 cond (decide (s14.2<(r15.length:Int))) (
  (ixO r15 s14.2).bind fun v16=>
  (rng (s13.2*x1.Dim)).bind fun v17=>
  (rng (s13.2+1)).bind fun v18=>
  (rng (v18*x1.Dim)).bind fun v19=>
  (yA v16 v17 v19).bind fun v20=>
  (wK s14.1 v20).bind fun v21=>
  (rng (s14.2+1)).bind fun v22=>
  some (.inl (v21,v22))) (
  some (.inr s14.1))
def zTp(x1:zH)(v2:Int)(r15:(List (List Int)))(s13:(List (List Int))×Int):Option (((List (List Int))×Int)⊕(List (List Int))):=
 cond (decide (s13.2<v2)) (
  (zJ (zPW x1 r15 s13) ([],0)).bind fun r23=>
  (wK s13.1 [r23]).bind fun v24=>
  (rng (s13.2+1)).bind fun v25=>
  some (.inl (v24,v25))) (
  some (.inr s13.1))
def f_m(x0:SPr)(x1:zH):Option (List (List Int)):=
 (zUJ x0).bind fun r1=>
 (rng (r1*x1.Dim)).bind fun v2=>
 (zJ (zTo x1 r1 v2) ([],0)).bind fun r14=>
 (f_K (zX.mk x0 x1 r14)).bind fun r15=>
 (zJ (zTp x1 v2 r15) ([],0)).bind fun r26=>
 (rng ((r15.length:Int)*x1.Dim)).bind fun v27=>
 (f_W x1.Prime r26 v27).bind fun r28=>
 some r28
def zTq(x0:SPr)(x1:zH):Option ((List (List Int))×Int):=
 (zUw x0 x1).bind fun r1=>
 cond (!r1) (
  some ([],1)) (
  (f_m x0 x1).bind fun r2=>
  some (r2,0))
def f_Y(x0:SPr)(x1:List Int)(x2:Int):Option (List Int):=
 (rng (x2+1)).bind fun v1=>
 cond (decide (v1<(x1.length:Int))) (
  (ixO x1 x2).bind fun v2=>
  (rng (x2+1)).bind fun v3=>
  (ixO x1 v3).bind fun v4=>
  cond (decide (v2> v4)) (
   (ixO x1 x2).bind fun v5=>
   (rng (v5-1)).bind fun v6=>
   (rng (x2+1)).bind fun v7=>
   (ixO x1 v7).bind fun v8=>
   (rng (v8-1)).bind fun v9=>
   (yA x1 0 x2).bind fun v10=>
   (rng (v9+1)).bind fun v11=>
   (ixO x0.zC v9).bind fun v12=>
   (rng (v6-v9)).bind fun v13=>
   (rng (v13-1)).bind fun v14=>
   (ixO v12 v14).bind fun v15=>
   (f_t v15).bind fun r16=>
   (rng (x2+2)).bind fun v17=>
   (yA x1 v17 x1.length).bind fun v18=>
   (f_y [v10,[v11],r16,v18]).bind fun r19=>
   some r19) (
   (ixO x1 x2).bind fun v20=>
   (rng (v20-1)).bind fun v21=>
   (yA x1 0 x2).bind fun v22=>
   (ixO x0.zS v21).bind fun v23=>
   (f_t v23).bind fun r24=>
   (ixO x0.zA v21).bind fun v25=>
   (rng (x2+v25)).bind fun v26=>
   (yA x1 v26 x1.length).bind fun v27=>
   (f_y [v22,r24,v27]).bind fun r28=>
   some r28)) (
  (ixO x1 x2).bind fun v2=>
  (rng (v2-1)).bind fun v3=>
  (yA x1 0 x2).bind fun v4=>
  (ixO x0.zS v3).bind fun v5=>
  (f_t v5).bind fun r6=>
  (ixO x0.zA v3).bind fun v7=>
  (rng (x2+v7)).bind fun v8=>
  (yA x1 v8 x1.length).bind fun v9=>
  (f_y [v4,r6,v9]).bind fun r10=>
  some r10)
def f_P(x0:List Int)(x1:Int)(x2:List zK)(x3:SPr):Option (List zK):=
 (f_Y x3 x0 0).bind fun r1=>
 (f_Y x3 x0 x1).bind fun r2=>
 (wK x2 [(zK.mk x0 r1 r2)]).bind fun v3=>
 some v3
def zMh(x0:Int)(x1:Int):Option (List Int):=
 (f_i [x0] x1).bind fun r1=>
 some r1
def zPX(x0:SPr)(s17:(List zK)×Int)(s22:(List zK)×Int)(s23:(List zK)×Int):Option (((List zK)×Int)⊕(List zK)):=
 cond (decide (s23.2≤(x0.zA.length:Int))) (
  (f_P [s23.2,s22.2,s17.2] 1 s23.1 x0).bind fun r3=>
  (rng (s23.2+1)).bind fun v4=>
  some (.inl (r3,v4))) (
  some (.inr s23.1))
def zPY(x0:SPr)(s17:(List zK)×Int)(s22:(List zK)×Int):Option (((List zK)×Int)⊕(List zK)):=
 cond (decide (s22.2≤(x0.zA.length:Int))) (
  (rng (s22.2+1)).bind fun v2=>
  (zJ (zPX x0 s17 s22) (s22.1,v2)).bind fun r5=>
  (rng (s22.2+1)).bind fun v6=>
  some (.inl (r5,v6))) (
  some (.inr s22.1))
def zPZ(x0:SPr)(s17:(List zK)×Int):Option (((List zK)×Int)⊕(List zK)):=
 cond (decide (s17.2≤(x0.zA.length:Int))) (
  (rng (s17.2+1)).bind fun v1=>
  (zJ (zPY x0 s17) (s17.1,v1)).bind fun r7=>
  (rng (s17.2+1)).bind fun v8=>
  some (.inl (r7,v8))) (
  some (.inr s17.1))
def zQa(x0:SPr)(s31:(List zK)×Int)(s32:(List zK)×Int):Option (((List zK)×Int)⊕(List zK)):=
 cond (decide (s32.2≤(x0.zA.length:Int))) (
  (rng (s32.2-1)).bind fun v11=>
  (ixO x0.zA v11).bind fun v12=>
  (zMh s32.2 v12).bind fun r13=>
  (wK r13 [s31.2]).bind fun v14=>
  (rng (s32.2-1)).bind fun v15=>
  (ixO x0.zA v15).bind fun v16=>
  (rng (v16-1)).bind fun v17=>
  (f_P v14 v17 s32.1 x0).bind fun r18=>
  (rng (s32.2+1)).bind fun v19=>
  some (.inl (r18,v19))) (
  some (.inr s32.1))
def zQb(x0:SPr)(s31:(List zK)×Int):Option (((List zK)×Int)⊕(List zK)):=
 cond (decide (s31.2≤(x0.zA.length:Int))) (
  (rng (s31.2+1)).bind fun v10=>
  (zJ (zQa x0 s31) (s31.1,v10)).bind fun r20=>
  (rng (s31.2+1)).bind fun v21=>
  some (.inl (r20,v21))) (
  some (.inr s31.1))
def zQc(x0:SPr)(s39:(List zK)×Int)(s40:(List zK)×Int):Option (((List zK)×Int)⊕(List zK)):=
 cond (decide (s40.2≤(x0.zA.length:Int))) (
  (rng (s39.2-1)).bind fun v24=>
  (ixO x0.zA v24).bind fun v25=>
  (zMh s39.2 v25).bind fun r26=>
  (wK [s40.2] r26).bind fun v27=>
  (f_P v27 1 s40.1 x0).bind fun r28=>
  (rng (s40.2+1)).bind fun v29=>
  some (.inl (r28,v29))) (
  some (.inr s40.1))
def zQd(x0:SPr)(s39:(List zK)×Int):Option (((List zK)×Int)⊕(List zK)):=
 cond (decide (s39.2≤(x0.zA.length:Int))) (
  (rng (s39.2+1)).bind fun v23=>
  (zJ (zQc x0 s39) (s39.1,v23)).bind fun r30=>
  (rng (s39.2+1)).bind fun v31=>
  some (.inl (r30,v31))) (
  some (.inr s39.1))
def zQe(x0:SPr)(s43:(List zK)×Int):Option (((List zK)×Int)⊕(List zK)):=
 cond (decide (s43.2≤(x0.zA.length:Int))) (
  (rng (s43.2-1)).bind fun v33=>
  (ixO x0.zA v33).bind fun v34=>
  (rng (v34+1)).bind fun v35=>
  (zMh s43.2 v35).bind fun r36=>
  (f_P r36 1 s43.1 x0).bind fun r37=>
  (rng (s43.2+1)).bind fun v38=>
  some (.inl (r37,v38))) (
  some (.inr s43.1))
def f_e(x0:SPr):Option (List zK):=
 (zJ (zPZ x0) ([],1)).bind fun r9=>
 (zJ (zQb x0) (r9,1)).bind fun r22=>
 (zJ (zQd x0) (r22,1)).bind fun r32=>
 (zJ (zQe x0) (r32,1)).bind fun r39=>
 some r39
def zUN(x0:xM)(x1:List Int)(x2:Int):Option Int:=
 (rng (x2+1)).bind fun v1=>
 cond (decide (v1<(x1.length:Int))) (
  (ixO x1 x2).bind fun v2=>
  (rng (x2+1)).bind fun v3=>
  (ixO x1 v3).bind fun v4=>
  cond (decide (v2> v4)) (
   (ixO x1 x2).bind fun v5=>
   (rng (v5-1)).bind fun v6=>
   (rng (x2+1)).bind fun v7=>
   (ixO x1 v7).bind fun v8=>
   (rng (v8-1)).bind fun v9=>
   (rng ((x0.p.zA.length:Int)-1)).bind fun v10=>
   (rng (v9*v10)).bind fun v11=>
   (rng ((x0.p.zA.length:Int)+v11)).bind fun v12=>
   (rng (v9-1)).bind fun v13=>
   (rng (v9*v13)).bind fun v14=>
   (tB v14 2).bind fun v15=>
   (rng (v12-v15)).bind fun v16=>
   (rng (v16+v6)).bind fun v17=>
   (rng (v17-v9)).bind fun v18=>
   (rng (v18-1)).bind fun v19=>
   some v19) (
   (ixO x1 x2).bind fun v20=>
   (rng (v20-1)).bind fun v21=>
   some v21)) (
  (ixO x1 x2).bind fun v2=>
  (rng (v2-1)).bind fun v3=>
  some v3)
def zTr(x0:xM)(x3:Int)(r1:Int)(r9:zU)(s1:(List zU)×Int):Option (((List zU)×Int)⊕(List zU)):=
 cond (decide (s1.2<(r9.Rows.length:Int))) (
  (ixO r9.Rows s1.2).bind fun v10=>
  (ixO s1.1 r1).bind fun v11=>
  (ixO v11.Rows s1.2).bind fun v12=>
  (f_v v12 v10 x3 x0.m.Prime).bind fun r13=>
  (rng (s1.2+1)).bind fun v14=>
  some (.inl (s1.1.set r1.toNat (zU.mk v11.Prime v11.xF (v11.Rows.set s1.2.toNat r13)),v14))) (
  some (.inr s1.1))
def zTs(x0:xM)(x3:Int)(r1:Int)(r12:zU)(s3:(List zU)×Int):Option (((List zU)×Int)⊕(List zU)):=
 cond (decide (s3.2<(r12.Rows.length:Int))) (
  (ixO r12.Rows s3.2).bind fun v13=>
  (ixO s3.1 r1).bind fun v14=>
  (ixO v14.Rows s3.2).bind fun v15=>
  (f_v v15 v13 x3 x0.m.Prime).bind fun r16=>
  (rng (s3.2+1)).bind fun v17=>
  some (.inl (s3.1.set r1.toNat (zU.mk v14.Prime v14.xF (v14.Rows.set s3.2.toNat r16)),v17))) (
  some (.inr s3.1))
def zTt(x0:xM)(x3:Int)(r1:Int)(r21:zU)(s5:(List zU)×Int):Option (((List zU)×Int)⊕(List zU)):=
 cond (decide (s5.2<(r21.Rows.length:Int))) (
  (ixO r21.Rows s5.2).bind fun v22=>
  (ixO s5.1 r1).bind fun v23=>
  (ixO v23.Rows s5.2).bind fun v24=>
  (f_v v24 v22 x3 x0.m.Prime).bind fun r25=>
  (rng (s5.2+1)).bind fun v26=>
  some (.inl (s5.1.set r1.toNat (zU.mk v23.Prime v23.xF (v23.Rows.set s5.2.toNat r25)),v26))) (
  some (.inr s5.1))
def f_k(x0:xM)(x1:List Int)(x2:Int)(x3:Int):Option ((List Int)×xM):=
 (zUN x0 x1 x2).bind fun r1=>
 (f_Y x0.p x1 x2).bind fun r2=>
 (rng (x2+1)).bind fun v3=>
 cond (decide (v3≥(x1.length:Int))) (
  (ixO x1 x2).bind fun v4=>
  (rng (v4-1)).bind fun v5=>
  (ixO x0.p.zA v5).bind fun v6=>
  (rng (x2+v6)).bind fun v7=>
  (yA x1 v7 x1.length).bind fun v8=>
  (f_z x0.m v8).bind fun r9=>
  (zJ (zTr x0 x3 r1 r9) (x0.sums,0)).bind fun r15=>
  some (r2,(xM.mk x0.p x0.m r15))) (
  (ixO x1 x2).bind fun v4=>
  (rng (x2+1)).bind fun v5=>
  (ixO x1 v5).bind fun v6=>
  cond (decide (v4≤v6)) (
   (ixO x1 x2).bind fun v7=>
   (rng (v7-1)).bind fun v8=>
   (ixO x0.p.zA v8).bind fun v9=>
   (rng (x2+v9)).bind fun v10=>
   (yA x1 v10 x1.length).bind fun v11=>
   (f_z x0.m v11).bind fun r12=>
   (zJ (zTs x0 x3 r1 r12) (x0.sums,0)).bind fun r18=>
   some (r2,(xM.mk x0.p x0.m r18))) (
   (rng (x2+2)).bind fun v19=>
   (yA x1 v19 x1.length).bind fun v20=>
   (f_z x0.m v20).bind fun r21=>
   (zJ (zTt x0 x3 r1 r21) (x0.sums,0)).bind fun r27=>
   some (r2,(xM.mk x0.p x0.m r27))))
def zNx(x1:List Int)(x2:Int)(v10:List Int)(s1:Int):Option (Int⊕(Unit⊕Bool)):=
 cond (decide (s1<(v10.length:Int))) (
  (ixO v10 s1).bind fun v11=>
  (ixO x1 x2).bind fun v12=>
  cond (v11 != v12) (
   some (.inr (.inr false))) (
   (rng (s1+1)).bind fun v13=>
   some (.inl v13))) (
  some (.inr (.inl ())))
def zNy(x1:List Int)(x2:Int)(v7:List Int)(s3:Int):Option (Int⊕(Unit⊕Bool)):=
 cond (decide (s3<(v7.length:Int))) (
  (ixO v7 s3).bind fun v8=>
  (ixO x1 x2).bind fun v9=>
  cond (v8 != v9) (
   some (.inr (.inr false))) (
   (rng (s3+1)).bind fun v10=>
   some (.inl v10))) (
  some (.inr (.inl ())))
def f_C(x0:SPr)(x1:List Int)(x2:Int):Option Bool:=
 (rng (x2+1)).bind fun v1=>
 cond (decide (v1<(x1.length:Int))) (
  (ixO x1 x2).bind fun v2=>
  (rng (x2+1)).bind fun v3=>
  (ixO x1 v3).bind fun v4=>
  cond (decide (v2> v4)) (
   some true) (
   (ixO x1 x2).bind fun v5=>
   (rng (v5-1)).bind fun v6=>
   (ixO x0.zA v6).bind fun v7=>
   (rng (x2+v7)).bind fun v8=>
   cond (decide (v8> (x1.length:Int))) (
    some false) (
    (rng (x2+v7)).bind fun v9=>
    (yA x1 x2 v9).bind fun v10=>
    (zJ (zNx x1 x2 v10) 0).bind fun r14=>
    match r14 with
    |(.inl r14)=>
     some true
    |(.inr r14)=>
     some r14))) (
  (ixO x1 x2).bind fun v2=>
  (rng (v2-1)).bind fun v3=>
  (ixO x0.zA v3).bind fun v4=>
  (rng (x2+v4)).bind fun v5=>
  cond (decide (v5> (x1.length:Int))) (
   some false) (
   (rng (x2+v4)).bind fun v6=>
   (yA x1 x2 v6).bind fun v7=>
   (zJ (zNy x1 x2 v7) 0).bind fun r11=>
   match r11 with
   |(.inl r11)=>
    some true
   |(.inr r11)=>
    some r11))
def zTu(x0:SPr)(x1:List Int)(s1:Int):Option (Int⊕(Unit⊕Int)):=
 cond (decide (s1<(x1.length:Int))) (
  (f_C x0 x1 s1).bind fun r1=>
  cond r1 (
   some (.inr (.inr s1))) (
   (rng (s1+1)).bind fun v2=>
   some (.inl v2))) (
  some (.inr (.inl ())))
def f_O(x0:SPr)(x1:List Int):Option Int:=
 (zJ (zTu x0 x1) 0).bind fun r3=>
 match r3 with
 |(.inl r3)=>
  some (-1)
 |(.inr r3)=>
  some r3
def zQf(x2:Int)(s1:SPr×zH×(List zU)×(List Int)×Int):Option ((SPr×zH×(List zU)×(List Int)×Int)⊕(SPr×zH×(List zU))):=
 cond (decide (s1.2.2.2.2≥0)) (
  (f_k (xM.mk s1.1 s1.2.1 s1.2.2.1) s1.2.2.2.1 s1.2.2.2.2 x2).bind fun r2=>
  (f_O r2.2.p r2.1).bind fun r3=>
  some (.inl (r2.2.p,r2.2.m,r2.2.sums,r2.1,r3))) (
  some (.inr (s1.1,s1.2.1,s1.2.2.1)))
def f_q(x0:xM)(x1:List Int)(x2:Int):Option xM:=
 (f_O x0.p x1).bind fun r1=>
 (zJ (zQf x2) (x0.p,x0.m,x0.sums,x1,r1)).bind fun r4=>
 some (xM.mk r4.1 r4.2.1 r4.2.2)
def zQg(r6:zU)(s71:(List (List Int))×Int):Option (((List (List Int))×Int)⊕(List (List Int))):=
 cond (decide (s71.2<(r6.Rows.length:Int))) (
  (ixO s71.1 s71.2).bind fun v7=>
  (ixO v7 s71.2).bind fun _=>
  (rng (s71.2+1)).bind fun v9=>
  some (.inl (s71.1.set s71.2.toNat (v7.set s71.2.toNat 0),v9))) (
  some (.inr s71.1))
def zQh(x1:zH)(r1:Int)(s70:(List zU)×Int):Option (((List zU)×Int)⊕(List zU)):=
 cond (decide (s70.2<r1)) (
  (f_M x1.Prime x1.Dim).bind fun r6=>
  (zJ (zQg r6) (r6.Rows,0)).bind fun r10=>
  (wK s70.1 [(zU.mk r6.Prime r6.xF r10)]).bind fun v11=>
  (rng (s70.2+1)).bind fun v12=>
  some (.inl (v11,v12))) (
  some (.inr s70.1))
def zQi(x1:zH)(s78:(List (List Int))×Int)(v23:zU)(s79:(List (List Int))×Int):Option (((List (List Int))×Int)⊕(List (List Int))):=
 cond (decide (s79.2<(v23.Rows.length:Int))) (
  (ixO v23.Rows s79.2).bind fun v24=>
  (rng (s78.2*x1.Dim)).bind fun v25=>
  (rng (v25+s79.2)).bind fun v26=>
  (ixO s79.1 v26).bind fun v27=>
  (wK v27 v24).bind fun v28=>
  (rng (s79.2+1)).bind fun v29=>
  some (.inl (s79.1.set v26.toNat v28,v29))) (
  some (.inr s79.1))
def zMi(x1:zH)(r22:xM)(s78:(List (List Int))×Int):Option (((List (List Int))×Int)⊕(List (List Int))):=
 cond (decide (s78.2<(r22.sums.length:Int))) (
  (ixO r22.sums s78.2).bind fun v23=>
  (zJ (zQi x1 s78 v23) (s78.1,0)).bind fun r30=>
  (rng (s78.2+1)).bind fun v31=>
  some (.inl (r30,v31))) (
  some (.inr s78.1))
def zZc(x1:zH)(s86:(List (List Int))×Int)(v38:zU)(s87:(List (List Int))×Int):Option (((List (List Int))×Int)⊕(List (List Int))):=
 cond (decide (s87.2<(v38.Rows.length:Int))) (
  (ixO v38.Rows s87.2).bind fun v39=>
  (rng (s86.2*x1.Dim)).bind fun v40=>
  (rng (v40+s87.2)).bind fun v41=>
  (ixO s87.1 v41).bind fun v42=>
  (wK v42 v39).bind fun v43=>
  (rng (s87.2+1)).bind fun v44=>
  some (.inl (s87.1.set v41.toNat v43,v44))) (
  some (.inr s87.1))
def zXe(x1:zH)(r37:xM)(s86:(List (List Int))×Int):Option (((List (List Int))×Int)⊕(List (List Int))):=
 cond (decide (s86.2<(r37.sums.length:Int))) (
  (ixO r37.sums s86.2).bind fun v38=>
  (zJ (zZc x1 s86 v38) (s86.1,0)).bind fun r45=>
  (rng (s86.2+1)).bind fun v46=>
  some (.inl (r45,v46))) (
  some (.inr s86.1))
def zZd(x1:zH)(s94:(List (List Int))×Int)(v20:zU)(s95:(List (List Int))×Int):Option (((List (List Int))×Int)⊕(List (List Int))):=
 cond (decide (s95.2<(v20.Rows.length:Int))) (
  (ixO v20.Rows s95.2).bind fun v21=>
  (rng (s94.2*x1.Dim)).bind fun v22=>
  (rng (v22+s95.2)).bind fun v23=>
  (ixO s95.1 v23).bind fun v24=>
  (wK v24 v21).bind fun v25=>
  (rng (s95.2+1)).bind fun v26=>
  some (.inl (s95.1.set v23.toNat v25,v26))) (
  some (.inr s95.1))
def zXf(x1:zH)(r19:xM)(s94:(List (List Int))×Int):Option (((List (List Int))×Int)⊕(List (List Int))):=
 cond (decide (s94.2<(r19.sums.length:Int))) (
  (ixO r19.sums s94.2).bind fun v20=>
  (zJ (zZd x1 s94 v20) (s94.1,0)).bind fun r27=>
  (rng (s94.2+1)).bind fun v28=>
  some (.inl (r27,v28))) (
  some (.inr s94.1))
def zQj(x0:SPr)(x1:zH)(r1:Int)(r4:(List zK))(s65:(List (List Int))×Int):Option (((List (List Int))×Int)⊕(List (List Int))):=
 cond (decide (s65.2<(r4.length:Int))) (
  (ixO r4 s65.2).bind fun v5=>
  (zJ (zQh x1 r1) ([],0)).bind fun r13=>
  (ixO v5.Word 0).bind fun v14=>
  (ixO v5.Word 1).bind fun v15=>
  cond (v14==v15) (
   (rng ((v5.Word.length:Int)-1)).bind fun v16=>
   (ixO v5.Word v16).bind fun v17=>
   cond (v17 != v14) (
    (rng ((v5.Word.length:Int)-2)).bind fun v18=>
    (f_k (xM.mk x0 x1 r13) v5.Word 0 1).bind fun r19=>
    (f_q r19.2 r19.1 1).bind fun r20=>
    (f_k r20 v5.Word v18 (-1)).bind fun r21=>
    (f_q r21.2 r21.1 (-1)).bind fun r22=>
    (zJ (zMi x1 r22) (s65.1,0)).bind fun r32=>
    (rng (s65.2+1)).bind fun v33=>
    some (.inl (r32,v33))) (
    (f_k (xM.mk x0 x1 r13) v5.Word 0 1).bind fun r34=>
    (f_q r34.2 r34.1 1).bind fun r35=>
    (f_k r35 v5.Word 1 (-1)).bind fun r36=>
    (f_q r36.2 r36.1 (-1)).bind fun r37=>
    (zJ (zXe x1 r37) (s65.1,0)).bind fun r47=>
    (rng (s65.2+1)).bind fun v48=>
    some (.inl (r47,v48)))) (
   (f_k (xM.mk x0 x1 r13) v5.Word 0 1).bind fun r16=>
   (f_q r16.2 r16.1 1).bind fun r17=>
   (f_k r17 v5.Word 1 (-1)).bind fun r18=>
   (f_q r18.2 r18.1 (-1)).bind fun r19=>
   (zJ (zXf x1 r19) (s65.1,0)).bind fun r29=>
   (rng (s65.2+1)).bind fun v30=>
   some (.inl (r29,v30)))) (
  some (.inr s65.1))
def f_f(x0:SPr)(x1:zH):Option (List (List Int)):=
 (zUK x0).bind fun r1=>
 (rng (r1*x1.Dim)).bind fun v2=>
 (xH v2).bind fun m3=>
 (f_e x0).bind fun r4=>
 (zJ (zQj x0 x1 r1 r4) (J1 m3 ([]:List Int),0)).bind fun r31=>
 cond (decide ((r31.length:Int)> 0)) (
  (ixO r31 0).bind fun v32=>
  (f_F x1.Prime r31 (v32.length:Int)).bind fun r33=>
  some r33) (
  (f_F x1.Prime r31 0).bind fun r34=>
  some r34)
def zQk(x0:SPr)(x1:zH):Option ((List (List Int))×Int):=
 (f_E x0 x1).bind fun r1=>
 cond (!r1) (
  some ([],1)) (
  (f_f x0 x1).bind fun r2=>
  some (r2,0))
def zUO(x0:SPr)(x1:zH):Option Bool:=
 (zUm x0 1048576).bind fun r1=>
 cond (decide (r1<0)) (
  some true) (
  (zUn x1 r1).bind fun r2=>
  cond (decide (r2<0)) (
   some true) (
   (zNj x0).bind fun r3=>
   (zNk x1).bind fun r4=>
   (zTq r3 r4).bind fun r5=>
   (zNj x0).bind fun r6=>
   (zNk x1).bind fun r7=>
   (zQk r6 r7).bind fun r8=>
   (f_T r8.1 r5.1).bind fun r9=>
   cond (!r9) (
    some false) (
    cond (r8.2 != r5.2) (
     some false) (
     (zNj x0).bind fun r10=>
     (zU8 r6 r10).bind fun r11=>
     cond (!r11) (
      some false) (
      (zNk x1).bind fun r12=>
      (zU7 r7 r12).bind fun r13=>
      cond (!r13) (
       some false) (
       (zUA r6 1).bind fun r14=>
       (zUB r7 r14.1).bind fun r15=>
       cond (decide (r15.1<0)) (
        some false) (
        (f_T r8.1 r5.1).bind fun r16=>
        cond (!r16) (
         some false) (
         cond (r8.2 != r5.2) (
          some false) (
          (zNr r8.1 1).bind fun r17=>
          (zUC r17.2 1).bind fun r18=>
          cond (decide (r18<0)) (
           some false) (
           cond (r18 != r17.1) (
            some false) (
            (zNj x0).bind fun r19=>
            (zNk x1).bind fun r20=>
            (zQk r19 r20).bind fun r21=>
            (f_T r21.1 r5.1).bind fun r22=>
            cond (!r22) (
             some false) (
             cond (r21.2 != r5.2) (
              some false) (
              (zUC r17.2 1).bind fun r23=>
              cond (decide (r23<0)) (
               some false) (
               cond (r23 != r17.1) (
                some false) (
                some true)))))))))))))))
end Go.Wk
