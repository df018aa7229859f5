/- The program's ComplementsOf returns what the reference's returns,for all arguments;no conditions. -/
import Derived.Test.YtfaocpkdikjohaaGreatAbC
open List renaming replicate→J1
open Int renaming fdiv→Gk
noncomputable section
namespace Go.Wk
open Go Go.Ab
structure SPr where
 zA:List Int
 zT:List (List Int)
 zB:List (List (List Int))
abbrev wJ(x:SPr):T:=.agg [(L 1 I) x.zA,(L 1 (L 1 I)) x.zT,(L 1 (L 1 (L 1 I))) x.zB]
instance:Enc wJ:=.of fun _=>zQm ⟨Enc.t (f:=(L 1 I)) inferInstance _,Enc.t (f:=(L 1 (L 1 I))) inferInstance _,Enc.t (f:=(L 1 (L 1 (L 1 I)))) inferInstance _,trivial⟩
structure zC where
 Prime:Int
 Dim:Int
 zI:List (List (List Int))
abbrev yT(x:zC):T:=.agg [I x.Prime,I x.Dim,(L 1 (L 1 (L 1 I))) x.zI]
instance:Enc yT:=.of fun _=>zQm ⟨Enc.t (f:=I) inferInstance _,Enc.t (f:=I) inferInstance _,Enc.t (f:=(L 1 (L 1 (L 1 I)))) inferInstance _,trivial⟩
structure yV where
 Kind:Int
 zVs:Int
 zVt:Int
 zTf:Int
abbrev zFE(x:yV):T:=.agg [I x.Kind,I x.zVs,I x.zVt,I x.zTf]
instance:Enc zFE:=.of fun _=>zQm ⟨Enc.t (f:=I) inferInstance _,Enc.t (f:=I) inferInstance _,Enc.t (f:=I) inferInstance _,Enc.t (f:=I) inferInstance _,trivial⟩
structure zU where
 Prime:Int
 xW:Int
 Rows:List (List Int)
abbrev jS(x:zU):T:=.agg [I x.Prime,I x.xW,(L 1 (L 1 I)) x.Rows]
instance:Enc jS:=.of fun _=>zQm ⟨Enc.t (f:=I) inferInstance _,Enc.t (f:=I) inferInstance _,Enc.t (f:=(L 1 (L 1 I))) inferInstance _,trivial⟩
structure zP where
 p:SPr
 m:zC
 zLt:List (List Int)
structure zG where
 x:List Int
 v:List Int
abbrev yR(x:zG):T:=.agg [(L 1 I) x.x,(L 1 I) x.v]
instance:Enc yR:=.of fun _=>zQm ⟨Enc.t (f:=(L 1 I)) inferInstance _,Enc.t (f:=(L 1 I)) inferInstance _,trivial⟩
def zR6(x0:List Int)(x1:Int):Option Int:=
 (rng (x1-(x0.length:Int))).bind fun v1=>
 cond (decide (v1<0)) (
  some (-1)) (
  some v1)
def zVo(x0:List (List Int))(s1:Int×Int):Option ((Int×Int)⊕(Int⊕Int)):=
 cond (decide (s1.2<(x0.length:Int))) (
  (ixO x0 s1.2).bind fun v2=>
  (zR6 v2 s1.1).bind fun r3=>
  cond (decide (r3<0)) (
   some (.inr (.inr (-1)))) (
   (rng (s1.2+1)).bind fun v4=>
   some (.inl (r3,v4)))) (
  some (.inr (.inl s1.1)))
def zR7(x0:List (List Int))(x1:Int):Option Int:=
 (rng (x1-(x0.length:Int))).bind fun v1=>
 cond (decide (v1<0)) (
  some (-1)) (
  (zF (zVo x0) (v1,0)).bind fun r5=>
  match r5 with
  |(.inl r5)=>
   some r5
  |(.inr r5)=>
   some r5)
def zVp(x0:List (List (List Int)))(s1:Int×Int):Option ((Int×Int)⊕(Int⊕Int)):=
 cond (decide (s1.2<(x0.length:Int))) (
  (ixO x0 s1.2).bind fun v2=>
  (zR7 v2 s1.1).bind fun r3=>
  cond (decide (r3<0)) (
   some (.inr (.inr (-1)))) (
   (rng (s1.2+1)).bind fun v4=>
   some (.inl (r3,v4)))) (
  some (.inr (.inl s1.1)))
def zTV(x0:List (List (List Int)))(x1:Int):Option Int:=
 (rng (x1-(x0.length:Int))).bind fun v1=>
 cond (decide (v1<0)) (
  some (-1)) (
  (zF (zVp x0) (v1,0)).bind fun r5=>
  match r5 with
  |(.inl r5)=>
   some r5
  |(.inr r5)=>
   some r5)
def zTW(x0:SPr)(x1:Int):Option Int:=
 (zR6 x0.zA x1).bind fun r1=>
 cond (decide (r1<0)) (
  some (-1)) (
  (zR7 x0.zT r1).bind fun r2=>
  cond (decide (r2<0)) (
   some (-1)) (
   (zTV x0.zB r2).bind fun r3=>
   cond (decide (r3<0)) (
    some (-1)) (
    some r3)))
def zTX(x0:zC)(x1:Int):Option Int:=
 (zTV x0.zI x1).bind fun r1=>
 cond (decide (r1<0)) (
  some (-1)) (
  some r1)
def zR8(x0:List Int)(s1:(List Int)×Int):Option (((List Int)×Int)⊕(List Int)):=
 cond (decide (s1.2<(x0.length:Int))) (
  (ixO x0 s1.2).bind fun v2=>
  (ixO s1.1 s1.2).bind fun _=>
  (rng (s1.2+1)).bind fun v4=>
  some (.inl (s1.1.set s1.2.toNat v2,v4))) (
  some (.inr s1.1))
def zOS(x0:List Int):Option (List Int):=
 (yM (x0.length:Int)).bind fun m1=>
 (zF (zR8 x0) (J1 m1 (0:Int),0)).bind fun r5=>
 some r5
def zW1(x0:List (List Int))(s1:(List (List Int))×Int):Option (((List (List Int))×Int)⊕(List (List Int))):=
 cond (decide (s1.2<(x0.length:Int))) (
  (ixO x0 s1.2).bind fun v2=>
  (zOS v2).bind fun r3=>
  (ixO s1.1 s1.2).bind fun _=>
  (rng (s1.2+1)).bind fun v5=>
  some (.inl (s1.1.set s1.2.toNat r3,v5))) (
  some (.inr s1.1))
def f_W(x0:List (List Int)):Option (List (List Int)):=
 (yM (x0.length:Int)).bind fun m1=>
 (zF (zW1 x0) (J1 m1 ([]:List Int),0)).bind fun r6=>
 some r6
def zR9(x0:List (List (List Int)))(s1:(List (List (List Int)))×Int):Option (((List (List (List Int)))×Int)⊕(List (List (List Int)))):=
 cond (decide (s1.2<(x0.length:Int))) (
  (ixO x0 s1.2).bind fun v2=>
  (f_W v2).bind fun r3=>
  (ixO s1.1 s1.2).bind fun _=>
  (rng (s1.2+1)).bind fun v5=>
  some (.inl (s1.1.set s1.2.toNat r3,v5))) (
  some (.inr s1.1))
def zRA(x0:List (List (List Int))):Option (List (List (List Int))):=
 (yM (x0.length:Int)).bind fun m1=>
 (zF (zR9 x0) (J1 m1 ([]:List (List Int)),0)).bind fun r6=>
 some r6
def zMz(x0:SPr):Option SPr:=
 (zOS x0.zA).bind fun r1=>
 (f_W x0.zT).bind fun r2=>
 (zRA x0.zB).bind fun r3=>
 some (SPr.mk r1 r2 r3)
def zM0(x0:zC):Option zC:=
 (zRA x0.zI).bind fun r1=>
 some (zC.mk x0.Prime x0.Dim r1)
def zTY(x0:Int):Option Bool:=
 cond (x0==2) (
  some true) (
  cond (x0==3) (
   some true) (
   cond (x0==5) (
    some true) (
    some (x0==7))))
def zKP(x0:List Int)(s1:Int×Int):Option ((Int×Int)⊕Int):=
 cond (decide (s1.2<(x0.length:Int))) (
  cond (decide (s1.1≤729)) (
   (ixO x0 s1.2).bind fun v1=>
   (rng (s1.1*v1)).bind fun v2=>
   (rng (s1.2+1)).bind fun v3=>
   some (.inl (v2,v3))) (
   (rng (s1.2+1)).bind fun v4=>
   some (.inl (s1.1,v4)))) (
  some (.inr s1.1))
def zTZ(x0:List Int):Option Int:=
 (zF (zKP x0) (1,0)).bind fun r5=>
 some r5
def zRB(x0:Int)(x1:Int)(x2:Int):Option Bool:=
 cond (decide (x0≥x1)) (
  some (decide (x0≤x2))) (
  some false)
def zOa(x0:List Int)(x1:List Int)(x2:Int)(s1:Int):Option (Int⊕(Unit⊕Bool)):=
 cond (decide (s1<(x1.length:Int))) (
  (ixO x1 s1).bind fun v1=>
  (ixO x0 s1).bind fun v2=>
  (rng (v2-1)).bind fun v3=>
  (zRB v1 0 v3).bind fun r4=>
  cond (!r4) (
   some (.inr (.inr false))) (
   cond (decide (s1≤x2)) (
    (ixO x1 s1).bind fun v5=>
    cond (v5 != 0) (
     some (.inr (.inr false))) (
     (rng (s1+1)).bind fun v6=>
     some (.inl v6))) (
    (rng (s1+1)).bind fun v5=>
    some (.inl v5)))) (
  some (.inr (.inl ())))
def zRC(x0:List Int)(x1:List Int)(x2:Int):Option Bool:=
 cond ((x1.length:Int) != (x0.length:Int)) (
  some false) (
  (zF (zOa x0 x1 x2) 0).bind fun r6=>
  match r6 with
  |(.inl r6)=>
   some true
  |(.inr r6)=>
   some r6)
def zRD(x0:SPr)(s1:Int):Option (Int⊕(Unit⊕Bool)):=
 cond (decide (s1<(x0.zA.length:Int))) (
  (ixO x0.zA s1).bind fun v1=>
  (zTY v1).bind fun r2=>
  cond (!r2) (
   some (.inr (.inr false))) (
   (rng (s1+1)).bind fun v3=>
   some (.inl v3))) (
  some (.inr (.inl ())))
def zRE(x0:SPr)(s7:Int)(s8:Int):Option (Int⊕(Unit⊕Bool)):=
 (ixO x0.zB s7).bind fun v11=>
 cond (decide (s8<(v11.length:Int))) (
  (ixO x0.zB s7).bind fun v12=>
  (ixO v12 s8).bind fun v13=>
  (zRC x0.zA v13 s7).bind fun r14=>
  cond (!r14) (
   some (.inr (.inr false))) (
   (rng (s8+1)).bind fun v15=>
   some (.inl v15))) (
  some (.inr (.inl ())))
def zM1(x0:SPr)(s7:Int):Option (Int⊕(Unit⊕Bool)):=
 cond (decide (s7<(x0.zA.length:Int))) (
  (ixO x0.zT s7).bind fun v6=>
  (zRC x0.zA v6 s7).bind fun r7=>
  cond (!r7) (
   some (.inr (.inr false))) (
   (ixO x0.zB s7).bind fun v8=>
   (rng ((x0.zA.length:Int)-1)).bind fun v9=>
   (rng (v9-s7)).bind fun v10=>
   cond ((v8.length:Int) != v10) (
    some (.inr (.inr false))) (
    (zF (zRE x0 s7) 0).bind fun r16=>
    match r16 with
    |(.inl r16)=>
     (rng (s7+1)).bind fun v17=>
     some (.inl v17)
    |(.inr r16)=>
     some (.inr (.inr r16))))) (
  some (.inr (.inl ())))
def f_w(x0:SPr):Option Bool:=
 cond (decide ((x0.zA.length:Int)> 6)) (
  some false) (
  cond ((x0.zT.length:Int) != (x0.zA.length:Int)) (
   some false) (
   cond ((x0.zB.length:Int) != (x0.zA.length:Int)) (
    some false) (
    (zF (zRD x0) 0).bind fun r4=>
    match r4 with
    |(.inl r4)=>
     (zTZ x0.zA).bind fun r5=>
     cond (decide (r5> 729)) (
      some false) (
      (zF (zM1 x0) 0).bind fun r18=>
      match r18 with
      |(.inl r18)=>
       some true
      |(.inr r18)=>
       some r18)
    |(.inr r4)=>
     some r4)))
def f_v(x0:List Int):Option (List Int):=
 (yZ [] x0).bind fun v1=>
 some v1
def zRF(g_a:SPr→Int→(List Int)→(List Int)→Option (List Int))(x0:SPr)(x1:Int)(x2:List Int)(s5:(List Int)×Int)(s6:(List Int)×Int):Option (((List Int)×Int)⊕(List Int)):=
 (ixO x2 s5.2).bind fun v3=>
 cond (decide (s6.2<v3)) (
  (rng (x1+1)).bind fun v4=>
  (ixO x0.zB x1).bind fun v5=>
  (rng (s5.2-x1)).bind fun v6=>
  (rng (v6-1)).bind fun v7=>
  (ixO v5 v7).bind fun v8=>
  (g_a x0 v4 s6.1 v8).bind fun r9=>
  (rng (s6.2+1)).bind fun v10=>
  some (.inl (r9,v10))) (
  some (.inr s6.1))
def zRG(g_a:SPr→Int→(List Int)→(List Int)→Option (List Int))(x0:SPr)(x1:Int)(x2:List Int)(s5:(List Int)×Int):Option (((List Int)×Int)⊕(List Int)):=
 cond (decide (s5.2<(x0.zA.length:Int))) (
  (zF (zRF g_a x0 x1 x2 s5) (s5.1,0)).bind fun r11=>
  (rng (s5.2+1)).bind fun v12=>
  some (.inl (r11,v12))) (
  some (.inr s5.1))
def b_e(g_a:SPr→Int→(List Int)→(List Int)→Option (List Int))(x0:SPr)(x1:Int)(x2:List Int):Option (List Int):=
 (yM (x0.zA.length:Int)).bind fun m1=>
 (rng (x1+1)).bind fun v2=>
 (zF (zRG g_a x0 x1 x2) (J1 m1 (0:Int),v2)).bind fun r13=>
 some r13
def zUa(g_e:SPr→Int→(List Int)→Option (List Int))(x0:SPr)(x1:Int)(x3:List Int)(s1:(List Int)×Int):Option (((List Int)×Int)⊕(List Int)):=
 (ixO x3 x1).bind fun v6=>
 cond (decide (s1.2<v6)) (
  (g_e x0 x1 s1.1).bind fun r7=>
  (rng (s1.2+1)).bind fun v8=>
  some (.inl (r7,v8))) (
  some (.inr s1.1))
def b_a(g_e:SPr→Int→(List Int)→Option (List Int))(g_a:SPr→Int→(List Int)→(List Int)→Option (List Int))(x0:SPr)(x1:Int)(x2:List Int)(x3:List Int):Option (List Int):=
 cond (decide (x1≥(x0.zA.length:Int))) (
  (yM (x0.zA.length:Int)).bind fun m1=>
  some (J1 m1 (0:Int))) (
  (f_v x2).bind fun r2=>
  (f_v x3).bind fun r3=>
  (ixO r2 x1).bind fun _=>
  (ixO r3 x1).bind fun _=>
  (zF (zUa g_e x0 x1 x3) (r2.set x1.toNat 0,0)).bind fun r9=>
  (rng (x1+1)).bind fun v10=>
  (g_a x0 v10 r9 (r3.set x1.toNat 0)).bind fun r11=>
  (ixO x2 x1).bind fun v12=>
  (ixO x3 x1).bind fun v13=>
  (rng (v12+v13)).bind fun v14=>
  (ixO x0.zA x1).bind fun v15=>
  cond (decide (v14≥v15)) (
   (ixO x0.zA x1).bind fun v16=>
   (rng (v14-v16)).bind fun v17=>
   (rng (x1+1)).bind fun v18=>
   (ixO x0.zT x1).bind fun v19=>
   (g_a x0 v18 v19 r11).bind fun r20=>
   (f_v r20).bind fun r21=>
   (ixO r21 x1).bind fun _=>
   some (r21.set x1.toNat v17)) (
   (f_v r11).bind fun r23=>
   (ixO r23 x1).bind fun _=>
   some (r23.set x1.toNat v14)))
mutual
def zM2:Nat→SPr→Int→(List Int)→Option (List Int)
 |0=>fun _ _ _=>none
 |n+1=>b_e (zM3 n)
def zM3:Nat→SPr→Int→(List Int)→(List Int)→Option (List Int)
 |0=>fun _ _ _ _=>none
 |n+1=>b_a (zM2 n) (zM3 n)
end
def f_e(x0:SPr)(x1:Int)(x2:List Int):Option (List Int):=zCK fun n=>zM2 n x0 x1 x2
def f_a(x0:SPr)(x1:Int)(x2:List Int)(x3:List Int):Option (List Int):=zCK fun n=>zM3 n x0 x1 x2 x3
def zOb(x0:SPr)(x1:Int)(s1:Int×(List Int)×(List Int)):Option ((Int×(List Int)×(List Int))⊕(List Int)):=
 cond (decide (s1.1> 0)) (
  (vF s1.1 2).bind fun v2=>
  cond (v2==1) (
   (f_a x0 x1 s1.2.1 s1.2.2).bind fun r3=>
   (f_a x0 x1 s1.2.2 s1.2.2).bind fun r4=>
   (vR s1.1 2).bind fun v5=>
   some (.inl (v5,r3,r4))) (
   (f_a x0 x1 s1.2.2 s1.2.2).bind fun r6=>
   (vR s1.1 2).bind fun v7=>
   some (.inl (v7,s1.2.1,r6)))) (
  some (.inr s1.2.1))
def zUb(x0:SPr)(x1:Int)(x2:List Int)(x3:Int):Option (List Int):=
 (yM (x0.zA.length:Int)).bind fun m1=>
 (zF (zOb x0 x1) (x3,J1 m1 (0:Int),x2)).bind fun r8=>
 some r8
def zVq(x0:List Int)(x1:List Int)(s1:Int):Option (Int⊕(Unit⊕Bool)):=
 cond (decide (s1<(x0.length:Int))) (
  (ixO x0 s1).bind fun v1=>
  (ixO x1 s1).bind fun v2=>
  cond (v1 != v2) (
   some (.inr (.inr false))) (
   (rng (s1+1)).bind fun v3=>
   some (.inl v3))) (
  some (.inr (.inl ())))
def zJn(x0:List Int)(x1:List Int):Option Bool:=
 cond ((x0.length:Int) != (x1.length:Int)) (
  some false) (
  (zF (zVq x0 x1) 0).bind fun r4=>
  match r4 with
  |(.inl r4)=>
   some true
  |(.inr r4)=>
   some r4)
def zW2(x0:Int)(x1:Int):Option (List Int):=
 (yM x0).bind fun m1=>
 (ixO (J1 m1 (0:Int)) x1).bind fun _=>
 some ((J1 m1 (0:Int)).set x1.toNat 1)
def zRH(x0:SPr)(x1:Int)(s1:Int):Option (Int⊕(Unit⊕yV)):=
 cond (decide (s1<(x0.zA.length:Int))) (
  (rng (x1+1)).bind fun v2=>
  (ixO x0.zB x1).bind fun v3=>
  (rng (s1-x1)).bind fun v4=>
  (rng (v4-1)).bind fun v5=>
  (ixO v3 v5).bind fun v6=>
  (ixO x0.zA s1).bind fun v7=>
  (zUb x0 v2 v6 v7).bind fun r8=>
  (ixO x0.zT s1).bind fun v9=>
  (f_e x0 x1 v9).bind fun r10=>
  (zJn r8 r10).bind fun r11=>
  cond (!r11) (
   some (.inr (.inr (yV.mk 1 x1 s1 0)))) (
   (rng (s1+1)).bind fun v12=>
   some (.inl v12))) (
  some (.inr (.inl ())))
def zRI(x0:SPr)(x1:Int)(s7:Int)(s8:Int):Option (Int⊕(Unit⊕yV)):=
 cond (decide (s8<(x0.zA.length:Int))) (
  (ixO x0.zB x1).bind fun v16=>
  (rng (s7-x1)).bind fun v17=>
  (rng (v17-1)).bind fun v18=>
  (ixO v16 v18).bind fun v19=>
  (ixO x0.zB x1).bind fun v20=>
  (rng (s8-x1)).bind fun v21=>
  (rng (v21-1)).bind fun v22=>
  (ixO v20 v22).bind fun v23=>
  (ixO x0.zB s7).bind fun v24=>
  (rng (s8-s7)).bind fun v25=>
  (rng (v25-1)).bind fun v26=>
  (ixO v24 v26).bind fun v27=>
  (f_e x0 x1 v27).bind fun r28=>
  (rng (x1+1)).bind fun v29=>
  (f_a x0 v29 v23 v19).bind fun r30=>
  (rng (x1+1)).bind fun v31=>
  (f_a x0 v31 v19 r28).bind fun r32=>
  (zJn r30 r32).bind fun r33=>
  cond (!r33) (
   some (.inr (.inr (yV.mk 2 x1 s7 s8)))) (
   (rng (s8+1)).bind fun v34=>
   some (.inl v34))) (
  some (.inr (.inl ())))
def zRJ(x0:SPr)(x1:Int)(s7:Int):Option (Int⊕(Unit⊕yV)):=
 cond (decide (s7<(x0.zA.length:Int))) (
  (rng (s7+1)).bind fun v15=>
  (zF (zRI x0 x1 s7) v15).bind fun r35=>
  match r35 with
  |(.inl r35)=>
   (rng (s7+1)).bind fun v36=>
   some (.inl v36)
  |(.inr r35)=>
   some (.inr (.inr r35))) (
  some (.inr (.inl ())))
def zRK(x0:SPr)(x1:Int)(s16:(List Int)×Int):Option (((List Int)×Int)⊕(List Int)):=
 (ixO x0.zA x1).bind fun v43=>
 cond (decide (s16.2<v43)) (
  (f_e x0 x1 s16.1).bind fun r44=>
  (rng (s16.2+1)).bind fun v45=>
  some (.inl (r44,v45))) (
  some (.inr s16.1))
def zRL(x0:SPr)(x1:Int)(v38:List Int)(s15:Int):Option (Int⊕(Unit⊕yV)):=
 cond (decide (s15<(x0.zA.length:Int))) (
  (zW2 (x0.zA.length:Int) s15).bind fun r42=>
  (zF (zRK x0 x1) (r42,0)).bind fun r46=>
  (rng (x1+1)).bind fun v47=>
  (f_a x0 v47 v38 r46).bind fun r48=>
  (rng (x1+1)).bind fun v49=>
  (f_a x0 v49 r42 v38).bind fun r50=>
  (zJn r48 r50).bind fun r51=>
  cond (!r51) (
   some (.inr (.inr (yV.mk 4 x1 s15 0)))) (
   (rng (s15+1)).bind fun v52=>
   some (.inl v52))) (
  some (.inr (.inl ())))
def f_l(x0:SPr)(x1:Int):Option yV:=
 (rng (x1+1)).bind fun v1=>
 (zF (zRH x0 x1) v1).bind fun r13=>
 match r13 with
 |(.inl r13)=>
  (rng (x1+1)).bind fun v14=>
  (zF (zRJ x0 x1) v14).bind fun r37=>
  match r37 with
  |(.inl r37)=>
   (ixO x0.zT x1).bind fun v38=>
   (f_e x0 x1 v38).bind fun r39=>
   (zJn r39 v38).bind fun r40=>
   cond (!r40) (
    some (yV.mk 3 x1 0 0)) (
    (rng (x1+1)).bind fun v41=>
    (zF (zRL x0 x1 v38) v41).bind fun r53=>
    match r53 with
    |(.inl r53)=>
     some (yV.mk 0 0 0 0)
    |(.inr r53)=>
     some r53)
  |(.inr r37)=>
   some r37
 |(.inr r13)=>
  some r13
def zKQ(x0:SPr)(s1:Int):Option (Int⊕(Unit⊕yV)):=
 cond (decide (s1≥0)) (
  (f_l x0 s1).bind fun r2=>
  cond (r2.Kind != 0) (
   some (.inr (.inr r2))) (
   (rng (s1-1)).bind fun v3=>
   some (.inl v3))) (
  some (.inr (.inl ())))
def zW3(x0:SPr):Option yV:=
 (rng ((x0.zA.length:Int)-1)).bind fun v1=>
 (zF (zKQ x0) v1).bind fun r4=>
 match r4 with
 |(.inl r4)=>
  some (yV.mk 0 0 0 0)
 |(.inr r4)=>
  some r4
def zW4(x0:SPr):Option Bool:=
 (zW3 x0).bind fun r1=>
 some (r1.Kind==0)
def zUc(x0:SPr):Option Bool:=
 (f_w x0).bind fun r1=>
 cond r1 (
  (zW4 x0).bind fun r2=>
  some r2) (
  some false)
def zOc(x0:Int)(x2:List Int)(s1:Int):Option (Int⊕(Unit⊕Bool)):=
 cond (decide (s1<(x2.length:Int))) (
  (ixO x2 s1).bind fun v1=>
  (rng (x0-1)).bind fun v2=>
  (zRB v1 0 v2).bind fun r3=>
  cond (!r3) (
   some (.inr (.inr false))) (
   (rng (s1+1)).bind fun v4=>
   some (.inl v4))) (
  some (.inr (.inl ())))
def zRM(x0:Int)(x1:Int)(x2:List Int):Option Bool:=
 cond ((x2.length:Int) != x1) (
  some false) (
  (zF (zOc x0 x2) 0).bind fun r5=>
  match r5 with
  |(.inl r5)=>
   some true
  |(.inr r5)=>
   some r5)
def zOd(x0:Int)(x1:Int)(x2:List (List Int))(s1:Int):Option (Int⊕(Unit⊕Bool)):=
 cond (decide (s1<(x2.length:Int))) (
  (ixO x2 s1).bind fun v1=>
  (zRM x0 x1 v1).bind fun r2=>
  cond (!r2) (
   some (.inr (.inr false))) (
   (rng (s1+1)).bind fun v3=>
   some (.inl v3))) (
  some (.inr (.inl ())))
def zUd(x0:Int)(x1:Int)(x2:List (List Int)):Option Bool:=
 cond ((x2.length:Int) != x1) (
  some false) (
  (zF (zOd x0 x1 x2) 0).bind fun r4=>
  match r4 with
  |(.inl r4)=>
   some true
  |(.inr r4)=>
   some r4)
def zKR(x0:Int)(s1:(List (List Int))×Int):Option (((List (List Int))×Int)⊕(List (List Int))):=
 cond (decide (s1.2<x0)) (
  (yM x0).bind fun m1=>
  (ixO (J1 m1 (0:Int)) s1.2).bind fun _=>
  (yZ s1.1 [(J1 m1 (0:Int)).set s1.2.toNat 1]).bind fun v3=>
  (rng (s1.2+1)).bind fun v4=>
  some (.inl (v3,v4))) (
  some (.inr s1.1))
def f_K(x0:Int):Option (List (List Int)):=
 (zF (zKR x0) ([],0)).bind fun r5=>
 some r5
def zRN(x0:Int)(x1:List Int)(x2:List (List Int))(s5:(List Int)×Int)(s6:(List Int)×Int):Option (((List Int)×Int)⊕(List Int)):=
 cond (decide (s6.2<(s6.1.length:Int))) (
  (ixO x2 s5.2).bind fun v2=>
  cond (decide (s6.2<(v2.length:Int))) (
   (ixO s6.1 s6.2).bind fun v3=>
   (ixO x1 s5.2).bind fun v4=>
   (ixO x2 s5.2).bind fun v5=>
   (ixO v5 s6.2).bind fun v6=>
   (rng (v4*v6)).bind fun v7=>
   (rng (v3+v7)).bind fun v8=>
   (vF v8 x0).bind fun v9=>
   (ixO s6.1 s6.2).bind fun _=>
   (rng (s6.2+1)).bind fun v11=>
   some (.inl (s6.1.set s6.2.toNat v9,v11))) (
   some (.inr s6.1))) (
  some (.inr s6.1))
def zRO(x0:Int)(x1:List Int)(x2:List (List Int))(s5:(List Int)×Int):Option (((List Int)×Int)⊕(List Int)):=
 cond (decide (s5.2<(x1.length:Int))) (
  cond (decide (s5.2<(x2.length:Int))) (
   (zF (zRN x0 x1 x2 s5) (s5.1,0)).bind fun r12=>
   (rng (s5.2+1)).bind fun v13=>
   some (.inl (r12,v13))) (
   some (.inr s5.1))) (
  some (.inr s5.1))
def f_I(x0:Int)(x1:List Int)(x2:List (List Int))(x3:Int):Option (List Int):=
 (yM x3).bind fun m1=>
 (zF (zRO x0 x1 x2) (J1 m1 (0:Int),0)).bind fun r14=>
 some r14
def zRP(x0:Int)(x1:List (List Int))(x2:List (List Int))(x3:Int)(s1:(List (List Int))×Int):Option (((List (List Int))×Int)⊕(List (List Int))):=
 cond (decide (s1.2<(x1.length:Int))) (
  (ixO x1 s1.2).bind fun v1=>
  (f_I x0 v1 x2 x3).bind fun r2=>
  (yZ s1.1 [r2]).bind fun v3=>
  (rng (s1.2+1)).bind fun v4=>
  some (.inl (v3,v4))) (
  some (.inr s1.1))
def f_Y(x0:Int)(x1:List (List Int))(x2:List (List Int))(x3:Int):Option (List (List Int)):=
 (zF (zRP x0 x1 x2 x3) ([],0)).bind fun r5=>
 some r5
def zRQ(x0:zC)(x1:List Int)(s5:(List (List Int))×Int)(s6:(List (List Int))×Int):Option (((List (List Int))×Int)⊕(List (List Int))):=
 (ixO x1 s5.2).bind fun v2=>
 cond (decide (s6.2<v2)) (
  (ixO x0.zI s5.2).bind fun v3=>
  (f_Y x0.Prime s6.1 v3 x0.Dim).bind fun r4=>
  (rng (s6.2+1)).bind fun v5=>
  some (.inl (r4,v5))) (
  some (.inr s6.1))
def zRR(x0:zC)(x1:List Int)(s5:(List (List Int))×Int):Option (((List (List Int))×Int)⊕(List (List Int))):=
 cond (decide (s5.2<(x1.length:Int))) (
  (zF (zRQ x0 x1 s5) (s5.1,0)).bind fun r6=>
  (rng (s5.2+1)).bind fun v7=>
  some (.inl (r6,v7))) (
  some (.inr s5.1))
def f_L(x0:zC)(x1:List Int):Option (List (List Int)):=
 (f_K x0.Dim).bind fun r1=>
 (zF (zRR x0 x1) (r1,0)).bind fun r8=>
 some r8
def zRS(x0:List (List Int))(x1:List (List Int))(s1:Int):Option (Int⊕(Unit⊕Bool)):=
 cond (decide (s1<(x0.length:Int))) (
  (ixO x0 s1).bind fun v1=>
  (ixO x1 s1).bind fun v2=>
  (zJn v1 v2).bind fun r3=>
  cond (!r3) (
   some (.inr (.inr false))) (
   (rng (s1+1)).bind fun v4=>
   some (.inl v4))) (
  some (.inr (.inl ())))
def zUe(x0:List (List Int))(x1:List (List Int)):Option Bool:=
 cond ((x0.length:Int) != (x1.length:Int)) (
  some false) (
  (zF (zRS x0 x1) 0).bind fun r5=>
  match r5 with
  |(.inl r5)=>
   some true
  |(.inr r5)=>
   some r5)
def zRT(x0:SPr)(x1:zC)(s1:Int):Option (Int⊕(Unit⊕Bool)):=
 cond (decide (s1<(x0.zA.length:Int))) (
  (ixO x1.zI s1).bind fun v3=>
  (zUd x1.Prime x1.Dim v3).bind fun r4=>
  cond (!r4) (
   some (.inr (.inr false))) (
   (rng (s1+1)).bind fun v5=>
   some (.inl v5))) (
  some (.inr (.inl ())))
def zRU(x0:SPr)(x1:zC)(s11:Int)(s12:(List (List Int))×Int):Option (((List (List Int))×Int)⊕(List (List Int))):=
 (ixO x0.zA s11).bind fun v8=>
 cond (decide (s12.2<v8)) (
  (ixO x1.zI s11).bind fun v9=>
  (f_Y x1.Prime s12.1 v9 x1.Dim).bind fun r10=>
  (rng (s12.2+1)).bind fun v11=>
  some (.inl (r10,v11))) (
  some (.inr s12.1))
def zRV(x0:SPr)(x1:zC)(s11:Int)(s14:Int):Option (Int⊕(Unit⊕Bool)):=
 cond (decide (s14<(x0.zA.length:Int))) (
  (ixO x1.zI s14).bind fun v17=>
  (ixO x1.zI s11).bind fun v18=>
  (f_Y x1.Prime v17 v18 x1.Dim).bind fun r19=>
  (ixO x1.zI s11).bind fun v20=>
  (ixO x0.zB s11).bind fun v21=>
  (rng (s14-s11)).bind fun v22=>
  (rng (v22-1)).bind fun v23=>
  (ixO v21 v23).bind fun v24=>
  (f_L x1 v24).bind fun r25=>
  (f_Y x1.Prime v20 r25 x1.Dim).bind fun r26=>
  (zUe r19 r26).bind fun r27=>
  cond (!r27) (
   some (.inr (.inr false))) (
   (rng (s14+1)).bind fun v28=>
   some (.inl v28))) (
  some (.inr (.inl ())))
def zRW(x0:SPr)(x1:zC)(s11:Int):Option (Int⊕(Unit⊕Bool)):=
 cond (decide (s11<(x0.zA.length:Int))) (
  (f_K x1.Dim).bind fun r7=>
  (zF (zRU x0 x1 s11) (r7,0)).bind fun r12=>
  (ixO x0.zT s11).bind fun v13=>
  (f_L x1 v13).bind fun r14=>
  (zUe r12 r14).bind fun r15=>
  cond (!r15) (
   some (.inr (.inr false))) (
   (rng (s11+1)).bind fun v16=>
   (zF (zRV x0 x1 s11) v16).bind fun r29=>
   match r29 with
   |(.inl r29)=>
    (rng (s11+1)).bind fun v30=>
    some (.inl v30)
   |(.inr r29)=>
    some (.inr (.inr r29)))) (
  some (.inr (.inl ())))
def f_r(x0:SPr)(x1:zC):Option Bool:=
 (zTY x1.Prime).bind fun r1=>
 cond (!r1) (
  some false) (
  (zRB x1.Dim 1 3).bind fun r2=>
  cond (!r2) (
   some false) (
   cond ((x1.zI.length:Int) != (x0.zA.length:Int)) (
    some false) (
    (zF (zRT x0 x1) 0).bind fun r6=>
    match r6 with
    |(.inl r6)=>
     (zF (zRW x0 x1) 0).bind fun r31=>
     match r31 with
     |(.inl r31)=>
      some true
     |(.inr r31)=>
      some r31
    |(.inr r6)=>
     some r6)))
def zUf(x0:SPr)(x1:zC):Option Bool:=
 (zUc x0).bind fun r1=>
 cond r1 (
  (f_r x0 x1).bind fun r2=>
  some r2) (
  some false)
def zOT(x0:Int):Option Bool:=
 cond (x0==2) (
  some true) (
  cond (x0==3) (
   some true) (
   cond (x0==5) (
    some true) (
    some (x0==7))))
def zM4(x0:Int)(x1:Int)(x2:Int):Option Bool:=
 cond (decide (x0≥x1)) (
  some (decide (x0≤x2))) (
  some false)
def zOe(x0:SPr)(x1:List Int)(s1:Int):Option (Int⊕(Unit⊕Bool)):=
 cond (decide (s1<(x1.length:Int))) (
  (ixO x1 s1).bind fun v1=>
  (ixO x0.zA s1).bind fun v2=>
  (rng (v2-1)).bind fun v3=>
  (zM4 v1 0 v3).bind fun r4=>
  cond (!r4) (
   some (.inr (.inr false))) (
   (rng (s1+1)).bind fun v5=>
   some (.inl v5))) (
  some (.inr (.inl ())))
def zUg(x0:SPr)(x1:List Int):Option Bool:=
 cond ((x1.length:Int) != (x0.zA.length:Int)) (
  some false) (
  (zF (zOe x0 x1) 0).bind fun r6=>
  match r6 with
  |(.inl r6)=>
   some true
  |(.inr r6)=>
   some r6)
def zKS(x0:List Int)(s1:Int):Option (Int⊕(Unit⊕Bool)):=
 cond (decide (s1<(x0.length:Int))) (
  (ixO x0 s1).bind fun v1=>
  cond (v1 != 0) (
   some (.inr (.inr false))) (
   (rng (s1+1)).bind fun v2=>
   some (.inl v2))) (
  some (.inr (.inl ())))
def f_H(x0:List Int):Option Bool:=
 (zF (zKS x0) 0).bind fun r3=>
 match r3 with
 |(.inl r3)=>
  some true
 |(.inr r3)=>
  some r3
def zRX(x0:SPr)(x1:Int)(x2:List Int):Option Bool:=
 (zUg x0 x2).bind fun r1=>
 cond r1 (
  (rng (x1+1)).bind fun v2=>
  (zQ x2 0 v2).bind fun v3=>
  (f_H v3).bind fun r4=>
  some r4) (
  some false)
def zM5(x0:SPr)(s1:Int×Int):Option ((Int×Int)⊕(Unit⊕Bool)):=
 cond (decide (s1.2<(x0.zA.length:Int))) (
  (ixO x0.zA s1.2).bind fun v1=>
  (zOT v1).bind fun r2=>
  cond (!r2) (
   some (.inr (.inr false))) (
   (rng (s1.1*v1)).bind fun v3=>
   cond (decide (v3> 729)) (
    some (.inr (.inr false))) (
    (rng (s1.1*v1)).bind fun v4=>
    (rng (s1.2+1)).bind fun v5=>
    some (.inl (v4,v5))))) (
  some (.inr (.inl ())))
def zRY(x0:SPr)(s7:Int)(v12:List (List Int))(s8:Int):Option (Int⊕(Unit⊕Bool)):=
 cond (decide (s8<(v12.length:Int))) (
  (ixO v12 s8).bind fun v13=>
  (zRX x0 s7 v13).bind fun r14=>
  cond (!r14) (
   some (.inr (.inr false))) (
   (rng (s8+1)).bind fun v15=>
   some (.inl v15))) (
  some (.inr (.inl ())))
def zM6(x0:SPr)(s7:Int):Option (Int⊕(Unit⊕Bool)):=
 cond (decide (s7<(x0.zA.length:Int))) (
  (ixO x0.zT s7).bind fun v7=>
  (zRX x0 s7 v7).bind fun r8=>
  cond (!r8) (
   some (.inr (.inr false))) (
   (ixO x0.zB s7).bind fun v9=>
   (rng ((x0.zA.length:Int)-1)).bind fun v10=>
   (rng (v10-s7)).bind fun v11=>
   cond ((v9.length:Int) != v11) (
    some (.inr (.inr false))) (
    (ixO x0.zB s7).bind fun v12=>
    (zF (zRY x0 s7 v12) 0).bind fun r16=>
    match r16 with
    |(.inl r16)=>
     (rng (s7+1)).bind fun v17=>
     some (.inl v17)
    |(.inr r16)=>
     some (.inr (.inr r16))))) (
  some (.inr (.inl ())))
def f_s(x0:SPr):Option Bool:=
 cond (decide ((x0.zA.length:Int)> 6)) (
  some false) (
  cond ((x0.zT.length:Int) != (x0.zA.length:Int)) (
   some false) (
   cond ((x0.zB.length:Int) != (x0.zA.length:Int)) (
    some false) (
    (zF (zM5 x0) (1,0)).bind fun r6=>
    match r6 with
    |(.inl r6)=>
     (zF (zM6 x0) 0).bind fun r18=>
     match r18 with
     |(.inl r18)=>
      some true
     |(.inr r18)=>
      some r18
    |(.inr r6)=>
     some r6)))
def f_x(x0:List Int):Option (List Int):=
 (yZ [] x0).bind fun v2=>
 some v2
def zRZ(x2:Int)(r3:(List Int))(s1:(List Int)×Int):Option (((List Int)×Int)⊕(List Int)):=
 cond (decide (s1.2<(r3.length:Int))) (
  (rng (x2+1)).bind fun v4=>
  (rng (v4+s1.2)).bind fun v5=>
  (ixO s1.1 v5).bind fun _=>
  (rng (s1.2+1)).bind fun v7=>
  some (.inl (s1.1.set v5.toNat 0,v7))) (
  some (.inr s1.1))
def zW5(g_c:SPr→(List Int)→(List Int)→Option (List Int))(x0:SPr)(x2:Int)(s7:(List Int)×Int)(v17:Int)(s8:(List Int)×Int):Option (((List Int)×Int)⊕(List Int)):=
 cond (decide (s8.2<v17)) (
  (ixO x0.zB x2).bind fun v18=>
  (ixO v18 s7.2).bind fun v19=>
  (g_c x0 s8.1 v19).bind fun r20=>
  (rng (s8.2+1)).bind fun v21=>
  some (.inl (r20,v21))) (
  some (.inr s8.1))
def zW6(g_c:SPr→(List Int)→(List Int)→Option (List Int))(x0:SPr)(x2:Int)(r3:(List Int))(s7:(List Int)×Int):Option (((List Int)×Int)⊕(List Int)):=
 cond (decide (s7.2<(r3.length:Int))) (
  (ixO r3 s7.2).bind fun v17=>
  (zF (zW5 g_c x0 x2 s7 v17) (s7.1,0)).bind fun r22=>
  (rng (s7.2+1)).bind fun v23=>
  some (.inl (r22,v23))) (
  some (.inr s7.1))
def zW7(g_c:SPr→(List Int)→(List Int)→Option (List Int))(x0:SPr)(x2:Int)(s15:(List Int)×Int)(v25:Int)(s16:(List Int)×Int):Option (((List Int)×Int)⊕(List Int)):=
 cond (decide (s16.2<v25)) (
  (ixO x0.zB x2).bind fun v26=>
  (ixO v26 s15.2).bind fun v27=>
  (g_c x0 s16.1 v27).bind fun r28=>
  (rng (s16.2+1)).bind fun v29=>
  some (.inl (r28,v29))) (
  some (.inr s16.1))
def zW8(g_c:SPr→(List Int)→(List Int)→Option (List Int))(x0:SPr)(x2:Int)(r3:(List Int))(s15:(List Int)×Int):Option (((List Int)×Int)⊕(List Int)):=
 cond (decide (s15.2<(r3.length:Int))) (
  (ixO r3 s15.2).bind fun v25=>
  (zF (zW7 g_c x0 x2 s15 v25) (s15.1,0)).bind fun r30=>
  (rng (s15.2+1)).bind fun v31=>
  some (.inl (r30,v31))) (
  some (.inr s15.1))
def b_b(g_c:SPr→(List Int)→(List Int)→Option (List Int))(x0:SPr)(x1:List Int)(x2:Int):Option (List Int):=
 (rng (x2+1)).bind fun v1=>
 (zQ x1 v1 x1.length).bind fun v2=>
 (f_x v2).bind fun r3=>
 (zF (zRZ x2 r3) (x1,0)).bind fun r8=>
 (ixO r8 x2).bind fun v9=>
 (rng (v9+1)).bind fun v10=>
 (ixO r8 x2).bind fun _=>
 (ixO (r8.set x2.toNat v10) x2).bind fun v12=>
 (ixO x0.zA x2).bind fun v13=>
 cond (v12==v13) (
  (ixO (r8.set x2.toNat v10) x2).bind fun _=>
  (ixO x0.zT x2).bind fun v15=>
  (g_c x0 ((r8.set x2.toNat v10).set x2.toNat 0) v15).bind fun r16=>
  (zF (zW6 g_c x0 x2 r3) (r16,0)).bind fun r24=>
  some r24) (
  (zF (zW8 g_c x0 x2 r3) (r8.set x2.toNat v10,0)).bind fun r32=>
  some r32)
def zSa(g_b:SPr→(List Int)→Int→Option (List Int))(x0:SPr)(s5:(List Int)×Int)(v1:Int)(s6:(List Int)×Int):Option (((List Int)×Int)⊕(List Int)):=
 cond (decide (s6.2<v1)) (
  (g_b x0 s6.1 s5.2).bind fun r2=>
  (rng (s6.2+1)).bind fun v3=>
  some (.inl (r2,v3))) (
  some (.inr s6.1))
def zSb(g_b:SPr→(List Int)→Int→Option (List Int))(x0:SPr)(x2:List Int)(s5:(List Int)×Int):Option (((List Int)×Int)⊕(List Int)):=
 cond (decide (s5.2<(x2.length:Int))) (
  (ixO x2 s5.2).bind fun v1=>
  (zF (zSa g_b x0 s5 v1) (s5.1,0)).bind fun r4=>
  (rng (s5.2+1)).bind fun v5=>
  some (.inl (r4,v5))) (
  some (.inr s5.1))
def b_c(g_b:SPr→(List Int)→Int→Option (List Int))(x0:SPr)(x1:List Int)(x2:List Int):Option (List Int):=
 (zF (zSb g_b x0 x2) (x1,0)).bind fun r6=>
 some r6
mutual
def zSc:Nat→SPr→(List Int)→Int→Option (List Int)
 |0=>fun _ _ _=>none
 |n+1=>b_b (zOU n)
def zOU:Nat→SPr→(List Int)→(List Int)→Option (List Int)
 |0=>fun _ _ _=>none
 |n+1=>b_c (zSc n)
end
def f_b(x0:SPr)(x1:List Int)(x2:Int):Option (List Int):=zCK fun n=>zSc n x0 x1 x2
def f_c(x0:SPr)(x1:List Int)(x2:List Int):Option (List Int):=zCK fun n=>zOU n x0 x1 x2
def zKT(x0:SPr)(x1:List Int)(x2:Int)(s1:(List Int)×Int):Option (((List Int)×Int)⊕(List Int)):=
 cond (decide (s1.2<x2)) (
  (f_c x0 s1.1 x1).bind fun r2=>
  (rng (s1.2+1)).bind fun v3=>
  some (.inl (r2,v3))) (
  some (.inr s1.1))
def zUh(x0:SPr)(x1:List Int)(x2:Int):Option (List Int):=
 (yM (x1.length:Int)).bind fun m1=>
 (zF (zKT x0 x1 x2) (J1 m1 (0:Int),0)).bind fun r4=>
 some r4
def zSd(x0:SPr)(v3:List Int)(v6:Int)(s6:(List Int)×Int):Option (((List Int)×Int)⊕(List Int)):=
 cond (decide (s6.2<v6)) (
  (f_c x0 s6.1 v3).bind fun r7=>
  (rng (s6.2+1)).bind fun v8=>
  some (.inl (r7,v8))) (
  some (.inr s6.1))
def zSe(x0:SPr)(x1:Int)(x2:List Int)(v2:List (List Int))(s5:(List Int)×Int):Option (((List Int)×Int)⊕(List Int)):=
 cond (decide (s5.2<(v2.length:Int))) (
  (ixO v2 s5.2).bind fun v3=>
  (rng (x1+1)).bind fun v4=>
  (rng (v4+s5.2)).bind fun v5=>
  (ixO x2 v5).bind fun v6=>
  (zF (zSd x0 v3 v6) (s5.1,0)).bind fun r9=>
  (rng (s5.2+1)).bind fun v10=>
  some (.inl (r9,v10))) (
  some (.inr s5.1))
def f_D(x0:SPr)(x1:Int)(x2:List Int):Option (List Int):=
 (yM (x2.length:Int)).bind fun m1=>
 (ixO x0.zB x1).bind fun v2=>
 (zF (zSe x0 x1 x2 v2) (J1 m1 (0:Int),0)).bind fun r11=>
 some r11
def zW9(x0:List Int)(x1:List Int)(s1:Int):Option (Int⊕(Unit⊕Bool)):=
 cond (decide (s1<(x0.length:Int))) (
  (ixO x0 s1).bind fun v1=>
  (ixO x1 s1).bind fun v2=>
  cond (v1 != v2) (
   some (.inr (.inr false))) (
   (rng (s1+1)).bind fun v3=>
   some (.inl v3))) (
  some (.inr (.inl ())))
def f_X(x0:List Int)(x1:List Int):Option Bool:=
 cond ((x0.length:Int) != (x1.length:Int)) (
  some false) (
  (zF (zW9 x0 x1) 0).bind fun r4=>
  match r4 with
  |(.inl r4)=>
   some true
  |(.inr r4)=>
   some r4)
def zOV(x0:SPr)(s5:(List Int)×(List Int)×Int)(s6:(List Int)×(List Int)):Option (((List Int)×(List Int))⊕((List Int)×(List Int))):=
 (ixO s6.1 s5.2.2).bind fun v3=>
 cond (v3 != 0) (
  (f_b x0 s6.1 s5.2.2).bind fun r4=>
  (f_b x0 s6.2 s5.2.2).bind fun r5=>
  some (.inl (r4,r5))) (
  some (.inr (s6.1,s6.2)))
def zSf(x0:SPr)(r1:(List Int))(s5:(List Int)×(List Int)×Int):Option (((List Int)×(List Int)×Int)⊕(List Int)):=
 cond (decide (s5.2.2<(r1.length:Int))) (
  (zF (zOV x0 s5) (s5.1,s5.2.1)).bind fun r6=>
  (rng (s5.2.2+1)).bind fun v7=>
  some (.inl (r6.1,r6.2,v7))) (
  some (.inr s5.2.1))
def f_J(x0:SPr)(x1:List Int):Option (List Int):=
 (f_x x1).bind fun r1=>
 (yM (x1.length:Int)).bind fun m2=>
 (zF (zSf x0 r1) (r1,J1 m2 (0:Int),0)).bind fun r8=>
 some r8
def zSg(x0:SPr)(x1:List Int)(x2:List Int):Option (List Int):=
 (f_x x1).bind fun r1=>
 (f_c x0 r1 x2).bind fun r2=>
 some r2
def zSh(x0:SPr)(x1:List Int)(x2:List Int):Option (List Int):=
 (f_J x0 x2).bind fun r1=>
 (zSg x0 x1 x2).bind fun r2=>
 (zSg x0 r1 r2).bind fun r3=>
 some r3
def zJo(x0:Int)(x1:Int):Option (List Int):=
 (yM x0).bind fun m1=>
 (ixO (J1 m1 (0:Int)) x1).bind fun _=>
 some ((J1 m1 (0:Int)).set x1.toNat 1)
def zSi(x0:SPr)(x1:Int)(s1:Int):Option (Int⊕(Unit⊕yV)):=
 cond (decide (s1<(x0.zA.length:Int))) (
  (ixO x0.zB x1).bind fun v2=>
  (rng (s1-x1)).bind fun v3=>
  (rng (v3-1)).bind fun v4=>
  (ixO v2 v4).bind fun v5=>
  (ixO x0.zA s1).bind fun v6=>
  (zUh x0 v5 v6).bind fun r7=>
  (ixO x0.zT s1).bind fun v8=>
  (f_D x0 x1 v8).bind fun r9=>
  (f_X r7 r9).bind fun r10=>
  cond (!r10) (
   some (.inr (.inr (yV.mk 1 x1 s1 0)))) (
   (rng (s1+1)).bind fun v11=>
   some (.inl v11))) (
  some (.inr (.inl ())))
def zSj(x0:SPr)(x1:Int)(s7:Int)(s8:Int):Option (Int⊕(Unit⊕yV)):=
 cond (decide (s8<(x0.zA.length:Int))) (
  (ixO x0.zB x1).bind fun v15=>
  (rng (s8-x1)).bind fun v16=>
  (rng (v16-1)).bind fun v17=>
  (ixO v15 v17).bind fun v18=>
  (ixO x0.zB x1).bind fun v19=>
  (rng (s7-x1)).bind fun v20=>
  (rng (v20-1)).bind fun v21=>
  (ixO v19 v21).bind fun v22=>
  (zSh x0 v18 v22).bind fun r23=>
  (ixO x0.zB s7).bind fun v24=>
  (rng (s8-s7)).bind fun v25=>
  (rng (v25-1)).bind fun v26=>
  (ixO v24 v26).bind fun v27=>
  (f_D x0 x1 v27).bind fun r28=>
  (f_X r23 r28).bind fun r29=>
  cond (!r29) (
   some (.inr (.inr (yV.mk 2 x1 s7 s8)))) (
   (rng (s8+1)).bind fun v30=>
   some (.inl v30))) (
  some (.inr (.inl ())))
def zSk(x0:SPr)(x1:Int)(s7:Int):Option (Int⊕(Unit⊕yV)):=
 cond (decide (s7<(x0.zA.length:Int))) (
  (rng (s7+1)).bind fun v14=>
  (zF (zSj x0 x1 s7) v14).bind fun r31=>
  match r31 with
  |(.inl r31)=>
   (rng (s7+1)).bind fun v32=>
   some (.inl v32)
  |(.inr r31)=>
   some (.inr (.inr r31))) (
  some (.inr (.inl ())))
def zSl(x0:SPr)(x1:Int)(v39:Int)(s16:(List Int)×Int):Option (((List Int)×Int)⊕(List Int)):=
 cond (decide (s16.2<v39)) (
  (f_D x0 x1 s16.1).bind fun r40=>
  (rng (s16.2+1)).bind fun v41=>
  some (.inl (r40,v41))) (
  some (.inr s16.1))
def zSm(x0:SPr)(x1:Int)(v34:List Int)(s15:Int):Option (Int⊕(Unit⊕yV)):=
 cond (decide (s15<(x0.zA.length:Int))) (
  (zJo (x0.zA.length:Int) s15).bind fun r38=>
  (ixO x0.zA x1).bind fun v39=>
  (zF (zSl x0 x1 v39) (r38,0)).bind fun r42=>
  (zJo (x0.zA.length:Int) s15).bind fun r43=>
  (zSh x0 r43 v34).bind fun r44=>
  (f_X r42 r44).bind fun r45=>
  cond (!r45) (
   some (.inr (.inr (yV.mk 4 x1 s15 0)))) (
   (rng (s15+1)).bind fun v46=>
   some (.inl v46))) (
  some (.inr (.inl ())))
def f_k(x0:SPr)(x1:Int):Option yV:=
 (rng (x1+1)).bind fun v1=>
 (zF (zSi x0 x1) v1).bind fun r12=>
 match r12 with
 |(.inl r12)=>
  (rng (x1+1)).bind fun v13=>
  (zF (zSk x0 x1) v13).bind fun r33=>
  match r33 with
  |(.inl r33)=>
   (ixO x0.zT x1).bind fun v34=>
   (f_D x0 x1 v34).bind fun r35=>
   (f_X r35 v34).bind fun r36=>
   cond (!r36) (
    some (yV.mk 3 x1 0 0)) (
    (rng (x1+1)).bind fun v37=>
    (zF (zSm x0 x1 v34) v37).bind fun r47=>
    match r47 with
    |(.inl r47)=>
     some (yV.mk 0 0 0 0)
    |(.inr r47)=>
     some r47)
  |(.inr r33)=>
   some r33
 |(.inr r12)=>
  some r12
def zKU(x0:SPr)(s1:Int):Option (Int⊕Int):=
 cond (decide (s1> 0)) (
  (rng (s1-1)).bind fun v1=>
  (f_k x0 v1).bind fun r2=>
  cond (r2.Kind==0&&(r2.zVs==0&&(r2.zVt==0&&r2.zTf==0))) (
   (rng (s1-1)).bind fun v3=>
   some (.inl v3)) (
   some (.inr s1))) (
  some (.inr s1))
def f_T(x0:SPr):Option Int:=
 (zF (zKU x0) (x0.zA.length:Int)).bind fun r4=>
 some r4
def zUi(x0:SPr):Option Bool:=
 (f_s x0).bind fun r1=>
 cond r1 (
  (f_T x0).bind fun r2=>
  some (r2==0)) (
  some false)
def zM7(x0:zC)(x1:Int):Option zU:=
 (ixO x0.zI x1).bind fun v1=>
 some (zU.mk x0.Prime x0.Dim v1)
def zOf(x0:List Int)(x1:Int)(s1:Int):Option (Int⊕(Unit⊕Bool)):=
 cond (decide (s1<(x0.length:Int))) (
  (ixO x0 s1).bind fun v1=>
  (rng (x1-1)).bind fun v2=>
  (zM4 v1 0 v2).bind fun r3=>
  cond (!r3) (
   some (.inr (.inr false))) (
   (rng (s1+1)).bind fun v4=>
   some (.inl v4))) (
  some (.inr (.inl ())))
def zSn(x0:List Int)(x1:Int)(x2:Int):Option Bool:=
 cond ((x0.length:Int) != x2) (
  some false) (
  (zF (zOf x0 x1) 0).bind fun r5=>
  match r5 with
  |(.inl r5)=>
   some true
  |(.inr r5)=>
   some r5)
def zKV(x0:zU)(s1:Int):Option (Int⊕(Unit⊕Bool)):=
 cond (decide (s1<(x0.Rows.length:Int))) (
  (ixO x0.Rows s1).bind fun v3=>
  (zSn v3 x0.Prime x0.xW).bind fun r4=>
  cond (!r4) (
   some (.inr (.inr false))) (
   (rng (s1+1)).bind fun v5=>
   some (.inl v5))) (
  some (.inr (.inl ())))
def zUj(x0:zU):Option Bool:=
 (zOT x0.Prime).bind fun r1=>
 cond (!r1) (
  some false) (
  (zM4 x0.xW 0 8).bind fun r2=>
  cond (!r2) (
   some false) (
   cond (decide ((x0.Rows.length:Int)> 8)) (
    some false) (
    (zF (zKV x0) 0).bind fun r6=>
    match r6 with
    |(.inl r6)=>
     some true
    |(.inr r6)=>
     some r6)))
def zY0(x0:Int)(x1:Int):Option (Int×Int):=
 some ((IntKind.wrap .u64 ((IntKind.wrap .u64 ((IntKind.wrap .u64 ((Gk x0 (2 ^ (min (32:Int).toNat (IntKind.bits .u64))))*(Gk x1 (2 ^ (min (32:Int).toNat (IntKind.bits .u64))))))+(Gk (IntKind.wrap .u64 ((IntKind.wrap .u64 ((Gk x0 (2 ^ (min (32:Int).toNat (IntKind.bits .u64))))*(zFp .u64 x1 4294967295)))+(Gk (IntKind.wrap .u64 ((zFp .u64 x0 4294967295)*(zFp .u64 x1 4294967295))) (2 ^ (min (32:Int).toNat (IntKind.bits .u64)))))) (2 ^ (min (32:Int).toNat (IntKind.bits .u64))))))+(Gk (IntKind.wrap .u64 ((zFp .u64 (IntKind.wrap .u64 ((IntKind.wrap .u64 ((Gk x0 (2 ^ (min (32:Int).toNat (IntKind.bits .u64))))*(zFp .u64 x1 4294967295)))+(Gk (IntKind.wrap .u64 ((zFp .u64 x0 4294967295)*(zFp .u64 x1 4294967295))) (2 ^ (min (32:Int).toNat (IntKind.bits .u64)))))) 4294967295)+(IntKind.wrap .u64 ((zFp .u64 x0 4294967295)*(Gk x1 (2 ^ (min (32:Int).toNat (IntKind.bits .u64)))))))) (2 ^ (min (32:Int).toNat (IntKind.bits .u64)))))),(IntKind.wrap .u64 (x0*x1)))
def zSo(x0:Int)(x1:Int):Option (Int×Int):=
 (zY0 x0 x1).bind fun r1=>
 some (r1.1,r1.2)
def qF(s1:(List Int)×Int):Option (((List Int)×Int)⊕(List Int)):=
 cond (decide (s1.2<(s1.1.length:Int))) (
  (zQ s1.1 s1.2 s1.1.length).bind fun _=>
  (zQ s1.1 0 s1.2).bind fun v4=>
  (rng (s1.2+((min v4.length (((s1.1.length:Int).toNat)-((s1.2:Int).toNat)):Nat):Int))).bind fun v5=>
  some (.inl (xU s1.1 ((s1.2:Int).toNat) (v4.take (((s1.1.length:Int).toNat)-((s1.2:Int).toNat))),v5))) (
  some (.inr s1.1))
def f_h(x0:List Int)(x1:Int):Option (List Int):=
 cond (decide (x1<0)) (
  none) (
  (zSo (IntKind.wrap .u64 (x0.length:Int)) (IntKind.wrap .u64 x1)).bind fun r1=>
  cond (decide (r1.1> 0)) (
   none) (
   cond (decide (r1.2> 9223372036854775807)) (
    none) (
    (yM (IntKind.wrap .i64 r1.2)).bind fun m2=>
    (zF qF (xU (J1 m2 (0:Int)) 0 (x0.take (((J1 m2 (0:Int)).length)-0)),((min x0.length (((J1 m2 (0:Int)).length)-0):Nat):Int))).bind fun r6=>
    some r6)))
def zSp(s5:(List Int)×Int)(v1:Int)(s6:(List Int)×Int):Option (((List Int)×Int)⊕(List Int)):=
 cond (decide (s6.2<v1)) (
  (rng (s5.2+1)).bind fun v2=>
  (yZ s6.1 [v2]).bind fun v3=>
  (rng (s6.2+1)).bind fun v4=>
  some (.inl (v3,v4))) (
  some (.inr s6.1))
def zSq(x0:List Int)(s5:(List Int)×Int):Option (((List Int)×Int)⊕(List Int)):=
 cond (decide (s5.2<(x0.length:Int))) (
  (ixO x0 s5.2).bind fun v1=>
  (zF (zSp s5 v1) (s5.1,0)).bind fun r5=>
  (rng (s5.2+1)).bind fun v6=>
  some (.inl (r5,v6))) (
  some (.inr s5.1))
def f_M(x0:List Int):Option (List Int):=
 (zF (zSq x0) ([],0)).bind fun r7=>
 some r7
def zSr(x0:SPr)(s1:(List ((List Int)×(List Int)))×Int):Option (((List ((List Int)×(List Int)))×Int)⊕(List ((List Int)×(List Int)))):=
 cond (decide (s1.2<(x0.zA.length:Int))) (
  (ixO x0.zA s1.2).bind fun v1=>
  (rng (s1.2+1)).bind fun v2=>
  (f_h [v2] v1).bind fun r3=>
  (ixO x0.zT s1.2).bind fun v4=>
  (f_M v4).bind fun r5=>
  (yZ s1.1 [(r3,r5)]).bind fun v6=>
  (rng (s1.2+1)).bind fun v7=>
  some (.inl (v6,v7))) (
  some (.inr s1.1))
def zSs(s7:(List ((List Int)×(List Int)))×Int)(v9:List (List Int))(s8:(List ((List Int)×(List Int)))×Int):Option (((List ((List Int)×(List Int)))×Int)⊕(List ((List Int)×(List Int)))):=
 cond (decide (s8.2<(v9.length:Int))) (
  (ixO v9 s8.2).bind fun v10=>
  (rng (s7.2+1)).bind fun v11=>
  (rng (s7.2+s8.2)).bind fun v12=>
  (rng (v12+2)).bind fun v13=>
  (f_M v10).bind fun r14=>
  (yZ [v11] r14).bind fun v15=>
  (yZ s8.1 [([v13,v11],v15)]).bind fun v16=>
  (rng (s8.2+1)).bind fun v17=>
  some (.inl (v16,v17))) (
  some (.inr s8.1))
def zSt(x0:SPr)(s7:(List ((List Int)×(List Int)))×Int):Option (((List ((List Int)×(List Int)))×Int)⊕(List ((List Int)×(List Int)))):=
 cond (decide (s7.2<(x0.zA.length:Int))) (
  (ixO x0.zB s7.2).bind fun v9=>
  (zF (zSs s7 v9) (s7.1,0)).bind fun r18=>
  (rng (s7.2+1)).bind fun v19=>
  some (.inl (r18,v19))) (
  some (.inr s7.1))
def f_y(x0:SPr):Option (List ((List Int)×(List Int))):=
 (zF (zSr x0) ([],0)).bind fun r8=>
 (zF (zSt x0) (r8,0)).bind fun r20=>
 some r20
def zSu(x1:Int)(s1:(List (List Int))×Int):Option (((List (List Int))×Int)⊕(List (List Int))):=
 cond (decide (s1.2<x1)) (
  (yM x1).bind fun m1=>
  (ixO (J1 m1 (0:Int)) s1.2).bind fun _=>
  (yZ s1.1 [(J1 m1 (0:Int)).set s1.2.toNat 1]).bind fun v3=>
  (rng (s1.2+1)).bind fun v4=>
  some (.inl (v3,v4))) (
  some (.inr s1.1))
def f_Z(x0:Int)(x1:Int):Option zU:=
 (zF (zSu x1) ([],0)).bind fun r5=>
 some (zU.mk x0 x1 r5)
def zHu(x0:Int)(x1:Int):Option Int:=
 (vF x0 x1).bind fun v1=>
 (rng (v1+x1)).bind fun v2=>
 (vF v2 x1).bind fun v3=>
 some v3
def zKW(x0:List Int)(x1:List Int)(x2:Int)(x3:Int)(s1:(List Int)×Int):Option (((List Int)×Int)⊕(List Int)):=
 cond (decide (s1.2<(x0.length:Int))) (
  (ixO s1.1 s1.2).bind fun v1=>
  (ixO x1 s1.2).bind fun v2=>
  (rng (x2*v2)).bind fun v3=>
  (rng (v1+v3)).bind fun v4=>
  (zHu v4 x3).bind fun r5=>
  (ixO s1.1 s1.2).bind fun _=>
  (rng (s1.2+1)).bind fun v7=>
  some (.inl (s1.1.set s1.2.toNat r5,v7))) (
  some (.inr s1.1))
def f_t(x0:List Int)(x1:List Int)(x2:Int)(x3:Int):Option (List Int):=
 (zF (zKW x0 x1 x2 x3) (x0,0)).bind fun r8=>
 some r8
def zKX(x0:List Int)(x1:zU)(s1:(List Int)×Int):Option (((List Int)×Int)⊕(List Int)):=
 cond (decide (s1.2<(x0.length:Int))) (
  (ixO x0 s1.2).bind fun v2=>
  (ixO x1.Rows s1.2).bind fun v3=>
  (f_t s1.1 v3 v2 x1.Prime).bind fun r4=>
  (rng (s1.2+1)).bind fun v5=>
  some (.inl (r4,v5))) (
  some (.inr s1.1))
def zSv(x0:List Int)(x1:zU):Option (List Int):=
 (yM x1.xW).bind fun m1=>
 (zF (zKX x0 x1) (J1 m1 (0:Int),0)).bind fun r6=>
 some r6
def zKY(x0:zU)(x1:zU)(s1:(List (List Int))×Int):Option (((List (List Int))×Int)⊕(List (List Int))):=
 cond (decide (s1.2<(x0.Rows.length:Int))) (
  (ixO x0.Rows s1.2).bind fun v1=>
  (zSv v1 x1).bind fun r2=>
  (yZ s1.1 [r2]).bind fun v3=>
  (rng (s1.2+1)).bind fun v4=>
  some (.inl (v3,v4))) (
  some (.inr s1.1))
def zUk(x0:zU)(x1:zU):Option zU:=
 (zF (zKY x0 x1) ([],0)).bind fun r5=>
 some (zU.mk x0.Prime x1.xW r5)
def zKZ(x0:zC)(x1:List Int)(s1:Int×Int×(List (List Int))×Int):Option ((Int×Int×(List (List Int))×Int)⊕(Int×Int×(List (List Int)))):=
 cond (decide (s1.2.2.2<(x1.length:Int))) (
  (ixO x1 s1.2.2.2).bind fun v2=>
  (rng (v2-1)).bind fun v3=>
  (zM7 x0 v3).bind fun r4=>
  (zUk (zU.mk s1.1 s1.2.1 s1.2.2.1) r4).bind fun r5=>
  (rng (s1.2.2.2+1)).bind fun v6=>
  some (.inl (r5.Prime,r5.xW,r5.Rows,v6))) (
  some (.inr (s1.1,s1.2.1,s1.2.2.1)))
def zSw(x0:zC)(x1:List Int):Option zU:=
 (f_Z x0.Prime x0.Dim).bind fun r1=>
 (zF (zKZ x0 x1) (r1.Prime,r1.xW,r1.Rows,0)).bind fun r7=>
 some (zU.mk r7.1 r7.2.1 r7.2.2)
def zSx(x0:List (List Int))(x1:List (List Int))(s1:Int):Option (Int⊕(Unit⊕Bool)):=
 cond (decide (s1<(x0.length:Int))) (
  (ixO x0 s1).bind fun v1=>
  (ixO x1 s1).bind fun v2=>
  (f_X v1 v2).bind fun r3=>
  cond (!r3) (
   some (.inr (.inr false))) (
   (rng (s1+1)).bind fun v4=>
   some (.inl v4))) (
  some (.inr (.inl ())))
def zWA(x0:List (List Int))(x1:List (List Int)):Option Bool:=
 cond ((x0.length:Int) != (x1.length:Int)) (
  some false) (
  (zF (zSx x0 x1) 0).bind fun r5=>
  match r5 with
  |(.inl r5)=>
   some true
  |(.inr r5)=>
   some r5)
def zUl(x0:List (List Int))(x1:List (List Int)):Option Bool:=
 (zWA x0 x1).bind fun r1=>
 some r1
def zSy(x1:zC)(s1:Int):Option (Int⊕(Unit⊕Bool)):=
 cond (decide (s1<(x1.zI.length:Int))) (
  (ixO x1.zI s1).bind fun v4=>
  cond ((v4.length:Int) != x1.Dim) (
   some (.inr (.inr false))) (
   (zM7 x1 s1).bind fun r5=>
   (zUj r5).bind fun r6=>
   cond (!r6) (
    some (.inr (.inr false))) (
    (rng (s1+1)).bind fun v7=>
    some (.inl v7)))) (
  some (.inr (.inl ())))
def zSz(x1:zC)(r9:(List ((List Int)×(List Int))))(s3:Int):Option (Int⊕(Unit⊕Bool)):=
 cond (decide (s3<(r9.length:Int))) (
  (ixO r9 s3).bind fun v10=>
  (zSw x1 v10.1).bind fun r11=>
  (zSw x1 v10.2).bind fun r12=>
  (zUl r11.Rows r12.Rows).bind fun r13=>
  cond (!r13) (
   some (.inr (.inr false))) (
   (rng (s3+1)).bind fun v14=>
   some (.inl v14))) (
  some (.inr (.inl ())))
def f_E(x0:SPr)(x1:zC):Option Bool:=
 (zUi x0).bind fun r1=>
 cond (!r1) (
  some false) (
  (zOT x1.Prime).bind fun r2=>
  cond (!r2) (
   some false) (
   (zM4 x1.Dim 1 3).bind fun r3=>
   cond (!r3) (
    some false) (
    cond ((x1.zI.length:Int) != (x0.zA.length:Int)) (
     some false) (
     (zF (zSy x1) 0).bind fun r8=>
     match r8 with
     |(.inl r8)=>
      (f_y x0).bind fun r9=>
      (zF (zSz x1 r9) 0).bind fun r15=>
      match r15 with
      |(.inl r15)=>
       some true
      |(.inr r15)=>
       some r15
     |(.inr r8)=>
      some r8))))
def zS0(x1:Int):Option (List Int):=
 cond (decide (x1<0)) (
  none) (
  (rng (0-0)).bind fun v1=>
  (rng (x1-v1)).bind fun v2=>
  cond (decide (v2> 0)) (
   (wI [] v2 (0:Int)).bind fun v3=>
   (zQ v3 0 0).bind fun v4=>
   some v4) (
   some []))
def zS1(x0:List (List Int))(s1:Int×Int):Option ((Int×Int)⊕Int):=
 cond (decide (s1.2<(x0.length:Int))) (
  (ixO x0 s1.2).bind fun v1=>
  (rng (s1.1+(v1.length:Int))).bind fun v2=>
  cond (decide (v2<0)) (
   none) (
   (rng (s1.2+1)).bind fun v3=>
   some (.inl (v2,v3)))) (
  some (.inr s1.1))
def zS2(x0:List (List Int))(s3:(List Int)×Int):Option (((List Int)×Int)⊕(List Int)):=
 cond (decide (s3.2<(x0.length:Int))) (
  (ixO x0 s3.2).bind fun v6=>
  (yZ s3.1 v6).bind fun v7=>
  (rng (s3.2+1)).bind fun v8=>
  some (.inl (v7,v8))) (
  some (.inr s3.1))
def f_q(x0:List (List Int)):Option (List Int):=
 (zF (zS1 x0) (0,0)).bind fun r4=>
 (zS0 r4).bind fun r5=>
 (zF (zS2 x0) (r5,0)).bind fun r9=>
 some r9
def zS3(x0:List Int)(x1:Int)(x2:Int):Option (List Int):=
 (yM x1).bind fun m1=>
 (yM x2).bind fun m2=>
 (f_q [J1 m1 (0:Int),x0,J1 m2 (0:Int)]).bind fun r3=>
 some r3
def zS4(x0:List Int)(x1:List Int)(s1:Int):Option (Int⊕(Unit⊕Bool)):=
 cond (decide (s1<(x0.length:Int))) (
  (ixO x0 s1).bind fun v1=>
  (ixO x1 s1).bind fun v2=>
  cond (v1 != v2) (
   some (.inr (.inr false))) (
   (rng (s1+1)).bind fun v3=>
   some (.inl v3))) (
  some (.inr (.inl ())))
def zS5(x0:List Int)(x1:List Int):Option Bool:=
 cond ((x0.length:Int) != (x1.length:Int)) (
  some false) (
  (zF (zS4 x0 x1) 0).bind fun r4=>
  match r4 with
  |(.inl r4)=>
   some true
  |(.inr r4)=>
   some r4)
def zS6(x0:List (List Int))(x1:List (List Int))(s1:Int):Option (Int⊕(Unit⊕Bool)):=
 cond (decide (s1<(x0.length:Int))) (
  (ixO x0 s1).bind fun v1=>
  (ixO x1 s1).bind fun v2=>
  (zS5 v1 v2).bind fun r3=>
  cond (!r3) (
   some (.inr (.inr false))) (
   (rng (s1+1)).bind fun v4=>
   some (.inl v4))) (
  some (.inr (.inl ())))
def zOW(x0:List (List Int))(x1:List (List Int)):Option Bool:=
 cond ((x0.length:Int) != (x1.length:Int)) (
  some false) (
  (zF (zS6 x0 x1) 0).bind fun r5=>
  match r5 with
  |(.inl r5)=>
   some true
  |(.inr r5)=>
   some r5)
def zS7(x0:List (List (List Int)))(x1:List (List (List Int)))(s1:Int):Option (Int⊕(Unit⊕Bool)):=
 cond (decide (s1<(x0.length:Int))) (
  (ixO x0 s1).bind fun v1=>
  (ixO x1 s1).bind fun v2=>
  (zOW v1 v2).bind fun r3=>
  cond (!r3) (
   some (.inr (.inr false))) (
   (rng (s1+1)).bind fun v4=>
   some (.inl v4))) (
  some (.inr (.inl ())))
def zM8(x0:List (List (List Int)))(x1:List (List (List Int))):Option Bool:=
 cond ((x0.length:Int) != (x1.length:Int)) (
  some false) (
  (zF (zS7 x0 x1) 0).bind fun r5=>
  match r5 with
  |(.inl r5)=>
   some true
  |(.inr r5)=>
   some r5)
def zUm(x0:zC)(x1:zC):Option Bool:=
 cond (x0.Prime != x1.Prime) (
  some false) (
  cond (x0.Dim != x1.Dim) (
   some false) (
   (zM8 x0.zI x1.zI).bind fun r1=>
   cond (!r1) (
    some false) (
    some true)))
def zUn(x0:SPr)(x1:SPr):Option Bool:=
 (zS5 x0.zA x1.zA).bind fun r1=>
 cond (!r1) (
  some false) (
  (zOW x0.zT x1.zT).bind fun r2=>
  cond (!r2) (
   some false) (
   (zM8 x0.zB x1.zB).bind fun r3=>
   cond (!r3) (
    some false) (
    some true)))
def zOg(s1:(List Int)×Int×Int):Option (((List Int)×Int×Int)⊕((List Int)×Int)):=
 cond (decide (s1.2.2<(s1.1.length:Int))) (
  (ixO s1.1 s1.2.2).bind fun _=>
  (rng (s1.2.1+1)).bind fun v2=>
  (rng (s1.2.2+1)).bind fun v3=>
  some (.inl (s1.1.set s1.2.2.toNat s1.2.1,v2,v3))) (
  some (.inr (s1.1,s1.2.1)))
def zOX(x0:List Int)(x1:Int):Option (Int×(List Int)):=
 (zF zOg (x0,x1,0)).bind fun r4=>
 some (r4.2,r4.1)
def zS8(s1:(List (List Int))×Int×Int):Option (((List (List Int))×Int×Int)⊕((List (List Int))×Int)):=
 cond (decide (s1.2.2<(s1.1.length:Int))) (
  (ixO s1.1 s1.2.2).bind fun v1=>
  (zOX v1 s1.2.1).bind fun r2=>
  (rng (s1.2.2+1)).bind fun v3=>
  some (.inl (s1.1.set s1.2.2.toNat r2.2,r2.1,v3))) (
  some (.inr (s1.1,s1.2.1)))
def zM9(x0:List (List Int))(x1:Int):Option (Int×(List (List Int))):=
 (zF zS8 (x0,x1,0)).bind fun r4=>
 some (r4.2,r4.1)
def zS9(s1:(List (List (List Int)))×Int×Int):Option (((List (List (List Int)))×Int×Int)⊕((List (List (List Int)))×Int)):=
 cond (decide (s1.2.2<(s1.1.length:Int))) (
  (ixO s1.1 s1.2.2).bind fun v1=>
  (zM9 v1 s1.2.1).bind fun r2=>
  (rng (s1.2.2+1)).bind fun v3=>
  some (.inl (s1.1.set s1.2.2.toNat r2.2,r2.1,v3))) (
  some (.inr (s1.1,s1.2.1)))
def zOY(x0:List (List (List Int)))(x1:Int):Option (Int×(List (List (List Int)))):=
 (zF zS9 (x0,x1,0)).bind fun r4=>
 some (r4.2,r4.1)
def zUo(x0:SPr)(x1:Int):Option (Int×SPr):=
 (zOX x0.zA x1).bind fun r1=>
 (zM9 x0.zT r1.1).bind fun r2=>
 (zOY x0.zB r2.1).bind fun r3=>
 some (r3.1,(SPr.mk r1.2 r2.2 r3.2))
def zUp(x0:zC)(x1:Int):Option (Int×zC):=
 (zOY x0.zI x1).bind fun r1=>
 some (r1.1,(zC.mk x0.Prime x0.Dim r1.2))
def zLa(x0:List Int)(s1:Int×Int):Option ((Int×Int)⊕(Int⊕Int)):=
 cond (decide (s1.2<(x0.length:Int))) (
  (ixO x0 s1.2).bind fun v1=>
  cond (v1 != s1.1) (
   some (.inr (.inr (-1)))) (
   (rng (s1.1+1)).bind fun v2=>
   (rng (s1.2+1)).bind fun v3=>
   some (.inl (v2,v3)))) (
  some (.inr (.inl s1.1)))
def zSA(x0:List Int)(x1:Int):Option Int:=
 (zF (zLa x0) (x1,0)).bind fun r4=>
 match r4 with
 |(.inl r4)=>
  some r4
 |(.inr r4)=>
  some r4
def zSB(x0:List (List Int))(s1:Int×Int):Option ((Int×Int)⊕(Int⊕Int)):=
 cond (decide (s1.2<(x0.length:Int))) (
  (ixO x0 s1.2).bind fun v1=>
  (zSA v1 s1.1).bind fun r2=>
  cond (decide (r2<0)) (
   some (.inr (.inr (-1)))) (
   (rng (s1.2+1)).bind fun v3=>
   some (.inl (r2,v3)))) (
  some (.inr (.inl s1.1)))
def zUq(x0:List (List Int))(x1:Int):Option Int:=
 (zF (zSB x0) (x1,0)).bind fun r4=>
 match r4 with
 |(.inl r4)=>
  some r4
 |(.inr r4)=>
  some r4
def zSC(x0:List (List (List Int)))(s1:Int×Int):Option ((Int×Int)⊕(Int⊕Int)):=
 cond (decide (s1.2<(x0.length:Int))) (
  (ixO x0 s1.2).bind fun v1=>
  (zUq v1 s1.1).bind fun r2=>
  cond (decide (r2<0)) (
   some (.inr (.inr (-1)))) (
   (rng (s1.2+1)).bind fun v3=>
   some (.inl (r2,v3)))) (
  some (.inr (.inl s1.1)))
def zUr(x0:List (List (List Int)))(x1:Int):Option Int:=
 (zF (zSC x0) (x1,0)).bind fun r4=>
 match r4 with
 |(.inl r4)=>
  some r4
 |(.inr r4)=>
  some r4
def zLb(x0:List (List Int))(s1:(List (List Int))×Int):Option (((List (List Int))×Int)⊕(List (List Int))):=
 cond (decide (s1.2<(x0.length:Int))) (
  (ixO x0 s1.2).bind fun v1=>
  (rng ((v1.length:Int)+(x0.length:Int))).bind fun v2=>
  (yM v2).bind fun m3=>
  (rng ((v1.length:Int)+s1.2)).bind fun v4=>
  (ixO (xU (J1 m3 (0:Int)) 0 (v1.take (((J1 m3 (0:Int)).length)-0))) v4).bind fun _=>
  (yZ s1.1 [(xU (J1 m3 (0:Int)) 0 (v1.take (((J1 m3 (0:Int)).length)-0))).set v4.toNat 1]).bind fun v6=>
  (rng (s1.2+1)).bind fun v7=>
  some (.inl (v6,v7))) (
  some (.inr s1.1))
def zSD(x0:List (List Int)):Option (List (List Int)):=
 (zF (zLb x0) ([],0)).bind fun r8=>
 some r8
def zLc(x0:List (List Int))(s1:(List (List Int))×Int):Option (((List (List Int))×Int)⊕(List (List Int))):=
 cond (decide (s1.2<(x0.length:Int))) (
  (ixO x0 s1.2).bind fun v1=>
  (f_x v1).bind fun r2=>
  (yZ s1.1 [r2]).bind fun v3=>
  (rng (s1.2+1)).bind fun v4=>
  some (.inl (v3,v4))) (
  some (.inr s1.1))
def zUs(x0:List (List Int)):Option (List (List Int)):=
 (zF (zLc x0) ([],0)).bind fun r5=>
 some r5
def zOZ(s1:Int×Int×Int×Int):Option ((Int×Int×Int×Int)⊕(Int×Int)):=
 cond (s1.2.1 != 0) (
  (vR s1.1 s1.2.1).bind fun v1=>
  (rng (v1*s1.2.1)).bind fun v2=>
  (rng (s1.1-v2)).bind fun v3=>
  (rng (v1*s1.2.2.2)).bind fun v4=>
  (rng (s1.2.2.1-v4)).bind fun v5=>
  some (.inl (s1.2.1,v3,s1.2.2.2,v5))) (
  some (.inr (s1.1,s1.2.2.1)))
def f_U(x0:Int)(x1:Int):Option (Int×Bool):=
 (zF zOZ (x1,x0,0,1)).bind fun r6=>
 (zHu r6.2 x1).bind fun r7=>
 some (r7,(r6.1==1))
def zHv(s13:(List (List Int))×Int×Int)(s14:Int):Option (Int⊕Int):=
 cond (decide (s14<(s13.1.length:Int))) (
  (ixO s13.1 s14).bind fun v3=>
  (ixO v3 s13.2.2).bind fun v4=>
  cond (v4==0) (
   (rng (s14+1)).bind fun v5=>
   some (.inl v5)) (
   some (.inr s14))) (
  some (.inr s14))
def zLd(x0:Int)(s13:(List (List Int))×Int×Int)(r12:Int×Bool)(v13:List Int)(s16:(List (List Int))×Int):Option (((List (List Int))×Int)⊕(List (List Int))):=
 cond (decide (s16.2<(v13.length:Int))) (
  (ixO s16.1 s13.2.1).bind fun v14=>
  (ixO s16.1 s13.2.1).bind fun v15=>
  (ixO v15 s16.2).bind fun v16=>
  (rng (v16*r12.1)).bind fun v17=>
  (vF v17 x0).bind fun v18=>
  (ixO v14 s16.2).bind fun _=>
  (rng (s16.2+1)).bind fun v20=>
  some (.inl (s16.1.set s13.2.1.toNat (v14.set s16.2.toNat v18),v20))) (
  some (.inr s16.1))
def zMA(x0:Int)(s13:(List (List Int))×Int×Int)(r21:(List (List Int)))(s18:(List (List Int))×Int):Option (((List (List Int))×Int)⊕(List (List Int))):=
 cond (decide (s18.2<(r21.length:Int))) (
  cond (s18.2 != s13.2.1) (
   (ixO s18.1 s18.2).bind fun v22=>
   (ixO s18.1 s13.2.1).bind fun v23=>
   (ixO s18.1 s18.2).bind fun v24=>
   (ixO v24 s13.2.2).bind fun v25=>
   (rng (0-v25)).bind fun v26=>
   (f_t v22 v23 v26 x0).bind fun r27=>
   (rng (s18.2+1)).bind fun v28=>
   some (.inl (s18.1.set s18.2.toNat r27,v28))) (
   (rng (s18.2+1)).bind fun v29=>
   some (.inl (s18.1,v29)))) (
  some (.inr s18.1))
def zMB(x0:Int)(s13:(List (List Int))×Int×Int):Option (((List (List Int))×Int×Int)⊕((List (List Int))×Int)):=
 cond (decide ((s13.1.length:Int)> 0)) (
  (ixO s13.1 0).bind fun v2=>
  cond (decide (s13.2.2<(v2.length:Int))) (
   cond (decide (s13.2.1<(s13.1.length:Int))) (
    (zF (zHv s13) s13.2.1).bind fun r6=>
    cond (r6==(s13.1.length:Int)) (
     (rng (s13.2.2+1)).bind fun v7=>
     some (.inl (s13.1,s13.2.1,v7))) (
     (ixO s13.1 r6).bind fun v8=>
     (ixO s13.1 s13.2.1).bind fun v9=>
     (ixO (qI s13.1 s13.2.1 r6 v8 v9) s13.2.1).bind fun v10=>
     (ixO v10 s13.2.2).bind fun v11=>
     (f_U v11 x0).bind fun r12=>
     (ixO (qI s13.1 s13.2.1 r6 v8 v9) s13.2.1).bind fun v13=>
     (zF (zLd x0 s13 r12 v13) (qI s13.1 s13.2.1 r6 v8 v9,0)).bind fun r21=>
     (zF (zMA x0 s13 r21) (r21,0)).bind fun r30=>
     (rng (s13.2.1+1)).bind fun v31=>
     (rng (s13.2.2+1)).bind fun v32=>
     some (.inl (r30,v31,v32)))) (
    some (.inr (s13.1,s13.2.1)))) (
   some (.inr (s13.1,s13.2.1)))) (
  some (.inr (s13.1,s13.2.1)))
def f_g(x0:Int)(x1:List (List Int)):Option (List (List Int)):=
 (zUs x1).bind fun r1=>
 (zF (zMB x0) (r1,0,0)).bind fun r33=>
 (zQ r33.1 0 r33.2).bind fun v34=>
 some v34
def zSE(x0:Int)(x1:Int):Option Int:=
 (vF x0 x1).bind fun v1=>
 cond (decide (v1<0)) (
  (rng (v1+x1)).bind fun v2=>
  some v2) (
  some v1)
def zHw(x0:List Int)(s1:Int):Option (Int⊕(Unit⊕Int)):=
 cond (decide (s1<(x0.length:Int))) (
  (ixO x0 s1).bind fun v1=>
  cond (v1 != 0) (
   some (.inr (.inr s1))) (
   (rng (s1+1)).bind fun v2=>
   some (.inl v2))) (
  some (.inr (.inl ())))
def f_C(x0:List Int):Option Int:=
 (zF (zHw x0) 0).bind fun r3=>
 match r3 with
 |(.inl r3)=>
  some (x0.length:Int)
 |(.inr r3)=>
  some r3
def zSF(x0:Int)(x2:Int)(x3:List Int)(s1:(List Int)×Int):Option (((List Int)×Int)⊕(List Int)):=
 cond (decide (s1.2<(s1.1.length:Int))) (
  cond (decide (s1.2<(x3.length:Int))) (
   (ixO s1.1 s1.2).bind fun v2=>
   (ixO x3 s1.2).bind fun v3=>
   (rng (x2*v3)).bind fun v4=>
   (rng (v2+v4)).bind fun v5=>
   (zSE v5 x0).bind fun r6=>
   (ixO s1.1 s1.2).bind fun _=>
   (rng (s1.2+1)).bind fun v8=>
   some (.inl (s1.1.set s1.2.toNat r6,v8))) (
   some (.inr s1.1))) (
  some (.inr s1.1))
def f_n(x0:Int)(x1:List Int)(x2:Int)(x3:List Int):Option (List Int):=
 (f_v x1).bind fun r1=>
 (zF (zSF x0 x2 x3) (r1,0)).bind fun r9=>
 some r9
def zLe(x0:Int)(x1:List (List Int))(s1:(List Int)×Int):Option (((List Int)×Int)⊕(List Int)):=
 cond (decide (s1.2<(x1.length:Int))) (
  (ixO x1 s1.2).bind fun v2=>
  (f_C v2).bind fun r3=>
  cond (decide (r3<(s1.1.length:Int))) (
   (ixO s1.1 r3).bind fun v4=>
   cond (v4 != 0) (
    (ixO s1.1 r3).bind fun v5=>
    (rng (x0-v5)).bind fun v6=>
    (ixO x1 s1.2).bind fun v7=>
    (f_n x0 s1.1 v6 v7).bind fun r8=>
    (rng (s1.2+1)).bind fun v9=>
    some (.inl (r8,v9))) (
    (rng (s1.2+1)).bind fun v10=>
    some (.inl (s1.1,v10)))) (
   (rng (s1.2+1)).bind fun v11=>
   some (.inl (s1.1,v11)))) (
  some (.inr s1.1))
def zPa(x0:Int)(x1:List (List Int))(x2:List Int):Option (List Int):=
 (f_v x2).bind fun r1=>
 (zF (zLe x0 x1) (r1,0)).bind fun r12=>
 some r12
def zLf(x0:Int)(x1:Int)(s1:Int):Option (Int⊕(Unit⊕Int)):=
 cond (decide (s1<x1)) (
  (zSE x0 x1).bind fun r1=>
  (rng (r1*s1)).bind fun v2=>
  (vF v2 x1).bind fun v3=>
  cond (v3==1) (
   some (.inr (.inr s1))) (
   (rng (s1+1)).bind fun v4=>
   some (.inl v4))) (
  some (.inr (.inl ())))
def zUt(x0:Int)(x1:Int):Option Int:=
 (zF (zLf x0 x1) 1).bind fun r5=>
 match r5 with
 |(.inl r5)=>
  some 0
 |(.inr r5)=>
  some r5
def zPb(x0:Int)(x1:Int)(x2:List Int):Option (List Int):=
 (yM (x2.length:Int)).bind fun m1=>
 (f_n x0 (J1 m1 (0:Int)) x1 x2).bind fun r2=>
 some r2
def zHx(x0:Int)(s5:(List (List Int))×Int)(r3:Int)(r7:(List Int))(s6:(List (List Int))×Bool×Int):Option (((List (List Int))×Bool×Int)⊕((List (List Int))×Bool)):=
 cond (decide (s6.2.2<(s5.1.length:Int))) (
  cond (!s6.2.1) (
   (ixO s5.1 s6.2.2).bind fun v8=>
   (f_C v8).bind fun r9=>
   cond (decide (r9> r3)) (
    (yZ s6.1 [r7]).bind fun v10=>
    (ixO s5.1 s6.2.2).bind fun v11=>
    (ixO s5.1 s6.2.2).bind fun v12=>
    (ixO v12 r3).bind fun v13=>
    (rng (x0-v13)).bind fun v14=>
    (f_n x0 v11 v14 r7).bind fun r15=>
    (yZ v10 [r15]).bind fun v16=>
    (rng (s6.2.2+1)).bind fun v17=>
    some (.inl (v16,true,v17))) (
    (ixO s5.1 s6.2.2).bind fun v18=>
    (ixO s5.1 s6.2.2).bind fun v19=>
    (ixO v19 r3).bind fun v20=>
    (rng (x0-v20)).bind fun v21=>
    (f_n x0 v18 v21 r7).bind fun r22=>
    (yZ s6.1 [r22]).bind fun v23=>
    (rng (s6.2.2+1)).bind fun v24=>
    some (.inl (v23,s6.2.1,v24)))) (
   (ixO s5.1 s6.2.2).bind fun v25=>
   (ixO s5.1 s6.2.2).bind fun v26=>
   (ixO v26 r3).bind fun v27=>
   (rng (x0-v27)).bind fun v28=>
   (f_n x0 v25 v28 r7).bind fun r29=>
   (yZ s6.1 [r29]).bind fun v30=>
   (rng (s6.2.2+1)).bind fun v31=>
   some (.inl (v30,s6.2.1,v31)))) (
  some (.inr (s6.1,s6.2.1)))
def zPc(x0:Int)(x1:List (List Int))(s5:(List (List Int))×Int):Option (((List (List Int))×Int)⊕(List (List Int))):=
 cond (decide (s5.2<(x1.length:Int))) (
  (ixO x1 s5.2).bind fun v1=>
  (zPa x0 s5.1 v1).bind fun r2=>
  (f_C r2).bind fun r3=>
  cond (r3==(r2.length:Int)) (
   (rng (s5.2+1)).bind fun v4=>
   some (.inl (s5.1,v4))) (
   (ixO r2 r3).bind fun v5=>
   (zUt v5 x0).bind fun r6=>
   (zPb x0 r6 r2).bind fun r7=>
   (zF (zHx x0 s5 r3 r7) ([],false,0)).bind fun r32=>
   cond (!r32.2) (
    (yZ r32.1 [r7]).bind fun v33=>
    (rng (s5.2+1)).bind fun v34=>
    some (.inl (v33,v34))) (
    (rng (s5.2+1)).bind fun v35=>
    some (.inl (r32.1,v35))))) (
  some (.inr s5.1))
def f_o(x0:Int)(x1:List (List Int)):Option (List (List Int)):=
 (zF (zPc x0 x1) ([],0)).bind fun r36=>
 some r36
def zLg(x1:List (List Int))(r1:(List (List Int)))(s1:(List (List Int))×Int):Option (((List (List Int))×Int)⊕(List (List Int))):=
 cond (decide (s1.2<(x1.length:Int))) (
  (ixO x1 s1.2).bind fun v2=>
  (f_v v2).bind fun r3=>
  (ixO r1 s1.2).bind fun v4=>
  (yZ r3 v4).bind fun v5=>
  (yZ s1.1 [v5]).bind fun v6=>
  (rng (s1.2+1)).bind fun v7=>
  some (.inl (v6,v7))) (
  some (.inr s1.1))
def zSG(x0:Int)(x1:List (List Int)):Option (List (List Int)):=
 (f_K (x1.length:Int)).bind fun r1=>
 (zF (zLg x1 r1) ([],0)).bind fun r8=>
 (f_o x0 r8).bind fun r9=>
 some r9
def zPd(x2:Int)(r1:(List (List Int)))(s1:(List (List Int))×Int):Option (((List (List Int))×Int)⊕(List (List Int))):=
 cond (decide (s1.2<(r1.length:Int))) (
  (ixO r1 s1.2).bind fun v2=>
  (f_C v2).bind fun r3=>
  cond (decide (r3≥x2)) (
   (ixO r1 s1.2).bind fun v4=>
   (zQ v4 x2 v4.length).bind fun v5=>
   (f_v v5).bind fun r6=>
   (yZ s1.1 [r6]).bind fun v7=>
   (rng (s1.2+1)).bind fun v8=>
   some (.inl (v7,v8))) (
   (rng (s1.2+1)).bind fun v9=>
   some (.inl (s1.1,v9)))) (
  some (.inr s1.1))
def f_N(x0:Int)(x1:List (List Int))(x2:Int):Option (List (List Int)):=
 (zSG x0 x1).bind fun r1=>
 (zF (zPd x2 r1) ([],0)).bind fun r10=>
 some r10
def zUu(x0:SPr):Option Int:=
 (rng ((x0.zA.length:Int)-1)).bind fun v1=>
 (rng ((x0.zA.length:Int)*v1)).bind fun v2=>
 (vR v2 2).bind fun v3=>
 (rng ((x0.zA.length:Int)+v3)).bind fun v4=>
 some v4
def zWB(x0:Int)(x1:Int)(x2:Int):Option Int:=
 (rng (x1*x0)).bind fun v1=>
 (rng (x0+v1)).bind fun v2=>
 (rng (x1+1)).bind fun v3=>
 (rng (x1*v3)).bind fun v4=>
 (vR v4 2).bind fun v5=>
 (rng (v2-v5)).bind fun v6=>
 (rng (v6+x2)).bind fun v7=>
 (rng (v7-x1)).bind fun v8=>
 (rng (v8-1)).bind fun v9=>
 some v9
def zMC(x0:SPr):Option Int:=
 (rng ((x0.zA.length:Int)+1)).bind fun v1=>
 (rng ((x0.zA.length:Int)*v1)).bind fun v2=>
 (vR v2 2).bind fun v3=>
 some v3
def zPe(x0:List Int)(x1:Int)(s1:(List (List Int))×Int):Option (((List (List Int))×Int)⊕(List (List Int))):=
 cond (decide (s1.2<(x0.length:Int))) (
  (rng (s1.2+x1)).bind fun v1=>
  (zQ x0 s1.2 v1).bind fun v2=>
  (f_x v2).bind fun r3=>
  (yZ s1.1 [r3]).bind fun v4=>
  (rng (s1.2+x1)).bind fun v5=>
  some (.inl (v4,v5))) (
  some (.inr s1.1))
def f_V(x0:List Int)(x1:Int):Option (List (List Int)):=
 (zF (zPe x0 x1) ([],0)).bind fun r6=>
 some r6
def zPf(x0:List Int)(s6:(List (List Int))×Int):Option (((List (List Int))×Int)⊕(List (List Int))):=
 cond (decide (s6.2<(x0.length:Int))) (
  (zJo (x0.length:Int) s6.2).bind fun r5=>
  (yZ s6.1 [r5]).bind fun v6=>
  (rng (s6.2+1)).bind fun v7=>
  some (.inl (v6,v7))) (
  some (.inr s6.1))
def zPg(x0:List Int)(s5:(List (List Int))×(List (List (List Int)))×Int):Option (((List (List Int))×(List (List (List Int)))×Int)⊕((List (List Int))×(List (List (List Int))))):=
 cond (decide (s5.2.2<(x0.length:Int))) (
  (yM (x0.length:Int)).bind fun m2=>
  (yZ s5.1 [J1 m2 (0:Int)]).bind fun v3=>
  (rng (s5.2.2+1)).bind fun v4=>
  (zF (zPf x0) ([],v4)).bind fun r8=>
  (yZ s5.2.1 [r8]).bind fun v9=>
  (rng (s5.2.2+1)).bind fun v10=>
  some (.inl (v3,v9,v10))) (
  some (.inr (s5.1,s5.2.1)))
def f_A(x0:List Int):Option SPr:=
 (f_x x0).bind fun r1=>
 (zF (zPg x0) ([],[],0)).bind fun r11=>
 some (SPr.mk r1 r11.1 r11.2)
def zPh(x0:SPr)(x2:List (List Int))(s1:(List (List Int))×Int×Int):Option (((List (List Int))×Int×Int)⊕((List (List Int))×Int)):=
 cond (decide (s1.2.2<(x0.zT.length:Int))) (
  (ixO x0.zT s1.2.2).bind fun v5=>
  (ixO x2 s1.2.1).bind fun v6=>
  (f_q [v5,v6]).bind fun r7=>
  (ixO s1.1 s1.2.2).bind fun _=>
  (rng (s1.2.1+1)).bind fun v9=>
  (rng (s1.2.2+1)).bind fun v10=>
  some (.inl (s1.1.set s1.2.2.toNat r7,v9,v10))) (
  some (.inr (s1.1,s1.2.1)))
def zPi(x2:List (List Int))(s11:(List (List (List Int)))×Int×Int)(v12:List (List Int))(s12:(List (List (List Int)))×Int×Int):Option (((List (List (List Int)))×Int×Int)⊕((List (List (List Int)))×Int)):=
 cond (decide (s12.2.2<(v12.length:Int))) (
  (ixO v12 s12.2.2).bind fun v13=>
  (ixO s12.1 s11.2.2).bind fun v14=>
  (ixO x2 s12.2.1).bind fun v15=>
  (f_q [v13,v15]).bind fun r16=>
  (ixO v14 s12.2.2).bind fun _=>
  (rng (s12.2.1+1)).bind fun v18=>
  (rng (s12.2.2+1)).bind fun v19=>
  some (.inl (s12.1.set s11.2.2.toNat (v14.set s12.2.2.toNat r16),v18,v19))) (
  some (.inr (s12.1,s12.2.1)))
def zPj(x0:SPr)(s11:(List (List (List Int)))×Int×Int)(v21:List (List Int))(s14:(List (List (List Int)))×Int):Option (((List (List (List Int)))×Int)⊕(List (List (List Int)))):=
 cond (decide (s14.2<(v21.length:Int))) (
  (ixO v21 s14.2).bind fun v22=>
  (ixO s14.1 s11.2.2).bind fun v23=>
  (rng ((x0.zA.length:Int)-1)).bind fun v24=>
  (rng (v24-s11.2.2)).bind fun v25=>
  (rng (v25+s14.2)).bind fun v26=>
  (zS3 v22 (x0.zA.length:Int) 0).bind fun r27=>
  (ixO v23 v26).bind fun _=>
  (rng (s14.2+1)).bind fun v29=>
  some (.inl (s14.1.set s11.2.2.toNat (v23.set v26.toNat r27),v29))) (
  some (.inr s14.1))
def zPk(x0:SPr)(x1:zC)(x2:List (List Int))(s11:(List (List (List Int)))×Int×Int):Option (((List (List (List Int)))×Int×Int)⊕(List (List (List Int)))):=
 cond (decide (s11.2.2<(x0.zA.length:Int))) (
  (ixO x0.zB s11.2.2).bind fun v12=>
  (zF (zPi x2 s11 v12) (s11.1,s11.2.1,0)).bind fun r20=>
  (ixO x1.zI s11.2.2).bind fun v21=>
  (zF (zPj x0 s11 v21) (r20.1,0)).bind fun r30=>
  (rng (s11.2.2+1)).bind fun v31=>
  some (.inl (r30,r20.2,v31))) (
  some (.inr s11.1))
def f_j(x0:SPr)(x1:zC)(x2:List (List Int)):Option SPr:=
 (f_x x0.zA).bind fun r1=>
 (f_h [x1.Prime] x1.Dim).bind fun r2=>
 (yZ r1 r2).bind fun v3=>
 (f_A v3).bind fun r4=>
 (zF (zPh x0 x2) (r4.zT,0,0)).bind fun r11=>
 (zF (zPk x0 x1 x2) (r4.zB,r11.2,0)).bind fun r32=>
 some (SPr.mk r4.zA r11.1 r32)
def zLh(x0:zC)(x1:List (List Int))(s1:Int):Option (Int⊕(Unit⊕Bool)):=
 cond (decide (s1<(x1.length:Int))) (
  (ixO x1 s1).bind fun v1=>
  (zRM x0.Prime x0.Dim v1).bind fun r2=>
  cond (!r2) (
   some (.inr (.inr false))) (
   (rng (s1+1)).bind fun v3=>
   some (.inl v3))) (
  some (.inr (.inl ())))
def zWC(x0:zC)(x1:List (List Int)):Option Bool:=
 (zF (zLh x0 x1) 0).bind fun r4=>
 match r4 with
 |(.inl r4)=>
  some true
 |(.inr r4)=>
  some r4
def zFt(x0:zC)(x1:List (List Int))(x2:List Int)(x3:Int):Option (List Int):=
 (ixO x0.zI x3).bind fun v1=>
 (f_I x0.Prime x2 v1 x0.Dim).bind fun r2=>
 (ixO x1 x3).bind fun v3=>
 (f_n x0.Prime r2 1 v3).bind fun r4=>
 some r4
def zSH(x0:zC)(x1:List (List Int))(x3:List Int)(s5:(List Int)×Int)(s6:(List Int)×Int):Option (((List Int)×Int)⊕(List Int)):=
 (ixO x3 s5.2).bind fun v1=>
 cond (decide (s6.2<v1)) (
  (zFt x0 x1 s6.1 s5.2).bind fun r2=>
  (rng (s6.2+1)).bind fun v3=>
  some (.inl (r2,v3))) (
  some (.inr s6.1))
def zSI(x0:zC)(x1:List (List Int))(x3:List Int)(s5:(List Int)×Int):Option (((List Int)×Int)⊕(List Int)):=
 cond (decide (s5.2<(x3.length:Int))) (
  (zF (zSH x0 x1 x3 s5) (s5.1,0)).bind fun r4=>
  (rng (s5.2+1)).bind fun v5=>
  some (.inl (r4,v5))) (
  some (.inr s5.1))
def f_F(x0:zC)(x1:List (List Int))(x2:List Int)(x3:List Int):Option (List Int):=
 (zF (zSI x0 x1 x3) (x2,0)).bind fun r6=>
 some r6
def zSJ(x0:SPr)(x1:zC)(x2:List (List Int))(s9:(List Int)×Int)(s10:(List Int)×Int):Option (((List Int)×Int)⊕(List Int)):=
 (ixO x0.zA s9.2).bind fun v2=>
 cond (decide (s10.2<v2)) (
  (zFt x1 x2 s10.1 s9.2).bind fun r3=>
  (rng (s10.2+1)).bind fun v4=>
  some (.inl (r3,v4))) (
  some (.inr s10.1))
def zSK(x0:SPr)(x1:zC)(x2:List (List Int))(m1:Nat)(s9:(List Int)×Int)(s12:(List Int)×Int):Option (((List Int)×Int)⊕(List Int)):=
 cond (decide (s12.2<(x0.zA.length:Int))) (
  (zFt x1 x2 (J1 m1 (0:Int)) s12.2).bind fun r12=>
  (zFt x1 x2 r12 s9.2).bind fun r13=>
  (zFt x1 x2 (J1 m1 (0:Int)) s9.2).bind fun r14=>
  (ixO x0.zB s9.2).bind fun v15=>
  (rng (s12.2-s9.2)).bind fun v16=>
  (rng (v16-1)).bind fun v17=>
  (ixO v15 v17).bind fun v18=>
  (f_F x1 x2 r14 v18).bind fun r19=>
  (rng (x1.Prime-1)).bind fun v20=>
  (f_n x1.Prime r13 v20 r19).bind fun r21=>
  (yZ s12.1 r21).bind fun v22=>
  (rng (s12.2+1)).bind fun v23=>
  some (.inl (v22,v23))) (
  some (.inr s12.1))
def zSL(x0:SPr)(x1:zC)(x2:List (List Int))(m1:Nat)(s9:(List Int)×Int):Option (((List Int)×Int)⊕(List Int)):=
 cond (decide (s9.2<(x0.zA.length:Int))) (
  (zF (zSJ x0 x1 x2 s9) (J1 m1 (0:Int),0)).bind fun r5=>
  (rng (x1.Prime-1)).bind fun v6=>
  (ixO x0.zT s9.2).bind fun v7=>
  (f_F x1 x2 (J1 m1 (0:Int)) v7).bind fun r8=>
  (f_n x1.Prime r5 v6 r8).bind fun r9=>
  (yZ s9.1 r9).bind fun v10=>
  (rng (s9.2+1)).bind fun v11=>
  (zF (zSK x0 x1 x2 m1 s9) (v10,v11)).bind fun r24=>
  (rng (s9.2+1)).bind fun v25=>
  some (.inl (r24,v25))) (
  some (.inr s9.1))
def f_z(x0:SPr)(x1:zC)(x2:List (List Int)):Option (List Int):=
 (yM x1.Dim).bind fun m1=>
 (zF (zSL x0 x1 x2 m1) ([],0)).bind fun r26=>
 some r26
def zVr(x0:List Int)(s1:Int):Option (Int⊕(Unit⊕Bool)):=
 cond (decide (s1<(x0.length:Int))) (
  (ixO x0 s1).bind fun v1=>
  cond (v1 != 0) (
   some (.inr (.inr false))) (
   (rng (s1+1)).bind fun v2=>
   some (.inl v2))) (
  some (.inr (.inl ())))
def zSM(x0:List Int):Option Bool:=
 (zF (zVr x0) 0).bind fun r3=>
 match r3 with
 |(.inl r3)=>
  some true
 |(.inr r3)=>
  some r3
def zOh(x0:zC)(x1:List (List Int))(s1:Int):Option (Int⊕(Unit⊕Bool)):=
 cond (decide (s1<(x1.length:Int))) (
  (ixO x1 s1).bind fun v1=>
  (zSn v1 x0.Prime x0.Dim).bind fun r2=>
  cond (!r2) (
   some (.inr (.inr false))) (
   (rng (s1+1)).bind fun v3=>
   some (.inl v3))) (
  some (.inr (.inl ())))
def zWD(x0:zC)(x1:List (List Int)):Option Bool:=
 (zF (zOh x0 x1) 0).bind fun r4=>
 match r4 with
 |(.inl r4)=>
  some true
 |(.inr r4)=>
  some r4
def zLi(x0:zC)(x1:List (List Int))(x2:List Int)(s1:(List Int)×Int):Option (((List Int)×Int)⊕(List Int)):=
 cond (decide (s1.2<(x2.length:Int))) (
  (ixO x2 s1.2).bind fun v2=>
  (rng (v2-1)).bind fun v3=>
  (zM7 x0 v3).bind fun r4=>
  (zSv s1.1 r4).bind fun r5=>
  (rng (v2-1)).bind fun v6=>
  (ixO x1 v6).bind fun v7=>
  (f_t r5 v7 1 x0.Prime).bind fun r8=>
  (rng (s1.2+1)).bind fun v9=>
  some (.inl (r8,v9))) (
  some (.inr s1.1))
def zSN(x0:zC)(x1:List (List Int))(x2:List Int):Option (List Int):=
 (yM x0.Dim).bind fun m1=>
 (zF (zLi x0 x1 x2) (J1 m1 (0:Int),0)).bind fun r10=>
 some r10
def zLj(x1:zC)(x2:List (List Int))(r1:(List ((List Int)×(List Int))))(s1:(List (List Int))×Int):Option (((List (List Int))×Int)⊕(List (List Int))):=
 cond (decide (s1.2<(r1.length:Int))) (
  (ixO r1 s1.2).bind fun v2=>
  (zSN x1 x2 v2.1).bind fun r3=>
  (zSN x1 x2 v2.2).bind fun r4=>
  (f_t r3 r4 (-1) x1.Prime).bind fun r5=>
  (yZ s1.1 [r5]).bind fun v6=>
  (rng (s1.2+1)).bind fun v7=>
  some (.inl (v6,v7))) (
  some (.inr s1.1))
def zUv(x0:SPr)(x1:zC)(x2:List (List Int)):Option (List (List Int)):=
 (f_y x0).bind fun r1=>
 (zF (zLj x1 x2 r1) ([],0)).bind fun r8=>
 some r8
def zSO(x0:SPr)(x1:zC)(x2:List (List Int)):Option Bool:=
 (zUu x0).bind fun r1=>
 cond ((x2.length:Int)==r1) (
  (zWC x1 x2).bind fun r2=>
  some r2) (
  some false)
def zLk(x0:zP):Option zG:=
 cond (decide ((x0.zLt.length:Int)> 0)) (
  (ixO x0.zLt 0).bind fun v1=>
  (yM (x0.p.zA.length:Int)).bind fun m2=>
  (yM (v1.length:Int)).bind fun m3=>
  some (zG.mk (J1 m2 (0:Int)) (J1 m3 (0:Int)))) (
  (yM (x0.p.zA.length:Int)).bind fun m4=>
  (yM 0).bind fun m5=>
  some (zG.mk (J1 m4 (0:Int)) (J1 m5 (0:Int))))
def zJp(x0:zP)(x1:Int)(x2:Int):Option zG:=
 (ixO x0.p.zB x1).bind fun v1=>
 (rng (x2-x1)).bind fun v2=>
 (rng (v2-1)).bind fun v3=>
 (ixO v1 v3).bind fun v4=>
 (zWB (x0.p.zA.length:Int) x1 x2).bind fun r5=>
 (ixO x0.zLt r5).bind fun v6=>
 some (zG.mk v4 v6)
def zIp(x0:zC)(x1:List Int)(x2:Int)(s1:(List Int)×Int):Option (((List Int)×Int)⊕(List Int)):=
 cond (decide (s1.2<(x1.length:Int))) (
  (rng (s1.2+x0.Dim)).bind fun v1=>
  (zQ x1 s1.2 v1).bind fun v2=>
  (ixO x0.zI x2).bind fun v3=>
  (f_I x0.Prime v2 v3 x0.Dim).bind fun r4=>
  (yZ s1.1 r4).bind fun v5=>
  (rng (s1.2+x0.Dim)).bind fun v6=>
  some (.inl (v5,v6))) (
  some (.inr s1.1))
def zUw(x0:zC)(x1:List Int)(x2:Int):Option (List Int):=
 (zF (zIp x0 x1 x2) ([],0)).bind fun r7=>
 some r7
def zMD(x0:zP)(x1:Int):Option zG:=
 (ixO x0.p.zT x1).bind fun v1=>
 (ixO x0.zLt x1).bind fun v2=>
 some (zG.mk v1 v2)
def zUx(g_d:zP→Int→zG→zG→Option zG)(x0:zP)(x1:Int)(x2:zG)(s5:(List Int)×(List Int)×Int)(s6:(List Int)×(List Int)×Int):Option (((List Int)×(List Int)×Int)⊕((List Int)×(List Int))):=
 (ixO x2.x s5.2.2).bind fun v3=>
 cond (decide (s6.2.2<v3)) (
  (rng (x1+1)).bind fun v4=>
  (zJp x0 x1 s5.2.2).bind fun r5=>
  (g_d x0 v4 (zG.mk s6.1 s6.2.1) r5).bind fun r6=>
  (rng (s6.2.2+1)).bind fun v7=>
  some (.inl (r6.x,r6.v,v7))) (
  some (.inr (s6.1,s6.2.1)))
def zSP(g_d:zP→Int→zG→zG→Option zG)(x0:zP)(x1:Int)(x2:zG)(s5:(List Int)×(List Int)×Int):Option (((List Int)×(List Int)×Int)⊕((List Int)×(List Int))):=
 cond (decide (s5.2.2<(x2.x.length:Int))) (
  (zF (zUx g_d x0 x1 x2 s5) (s5.1,s5.2.1,0)).bind fun r8=>
  (rng (s5.2.2+1)).bind fun v9=>
  some (.inl (r8.1,r8.2,v9))) (
  some (.inr (s5.1,s5.2.1)))
def b_f(g_d:zP→Int→zG→zG→Option zG)(x0:zP)(x1:Int)(x2:zG):Option zG:=
 (zLk x0).bind fun r1=>
 (rng (x1+1)).bind fun v2=>
 (zF (zSP g_d x0 x1 x2) (r1.x,r1.v,v2)).bind fun r10=>
 (zUw x0.m x2.v x1).bind fun r11=>
 (f_n x0.m.Prime r10.2 1 r11).bind fun r12=>
 some (zG.mk r10.1 r12)
def zPl(g_f:zP→Int→zG→Option zG)(x0:zP)(x1:Int)(x3:zG)(s1:(List Int)×(List Int)×Int):Option (((List Int)×(List Int)×Int)⊕((List Int)×(List Int))):=
 (ixO x3.x x1).bind fun v7=>
 cond (decide (s1.2.2<v7)) (
  (g_f x0 x1 (zG.mk s1.1 s1.2.1)).bind fun r8=>
  (rng (s1.2.2+1)).bind fun v9=>
  some (.inl (r8.x,r8.v,v9))) (
  some (.inr (s1.1,s1.2.1)))
def b_d(g_f:zP→Int→zG→Option zG)(g_d:zP→Int→zG→zG→Option zG)(x0:zP)(x1:Int)(x2:zG)(x3:zG):Option zG:=
 cond (decide (x1≥(x0.p.zA.length:Int))) (
  (yM (x0.p.zA.length:Int)).bind fun m1=>
  (f_n x0.m.Prime x2.v 1 x3.v).bind fun r2=>
  some (zG.mk (J1 m1 (0:Int)) r2)) (
  (f_v x2.x).bind fun r3=>
  (f_v x3.x).bind fun r4=>
  (ixO r3 x1).bind fun _=>
  (ixO r4 x1).bind fun _=>
  (zF (zPl g_f x0 x1 x3) (r3.set x1.toNat 0,x2.v,0)).bind fun r10=>
  (rng (x1+1)).bind fun v11=>
  (g_d x0 v11 (zG.mk r10.1 r10.2) (zG.mk (r4.set x1.toNat 0) x3.v)).bind fun r12=>
  (ixO x2.x x1).bind fun v13=>
  (ixO x3.x x1).bind fun v14=>
  (rng (v13+v14)).bind fun v15=>
  (ixO x0.p.zA x1).bind fun v16=>
  cond (decide (v15≥v16)) (
   (ixO x0.p.zA x1).bind fun v17=>
   (rng (v15-v17)).bind fun v18=>
   (rng (x1+1)).bind fun v19=>
   (zMD x0 x1).bind fun r20=>
   (g_d x0 v19 r20 r12).bind fun r21=>
   (f_v r21.x).bind fun r22=>
   (ixO r22 x1).bind fun _=>
   some (zG.mk (r22.set x1.toNat v18) r21.v)) (
   (f_v r12.x).bind fun r24=>
   (ixO r24 x1).bind fun _=>
   some (zG.mk (r24.set x1.toNat v15) r12.v)))
mutual
def zME:Nat→zP→Int→zG→Option zG
 |0=>fun _ _ _=>none
 |n+1=>b_f (zMF n)
def zMF:Nat→zP→Int→zG→zG→Option zG
 |0=>fun _ _ _ _=>none
 |n+1=>b_d (zME n) (zMF n)
end
def f_f(x0:zP)(x1:Int)(x2:zG):Option zG:=zCK fun n=>zME n x0 x1 x2
def f_d(x0:zP)(x1:Int)(x2:zG)(x3:zG):Option zG:=zCK fun n=>zMF n x0 x1 x2 x3
def zLl(x0:zP)(x1:zG)(x2:zG):Option (List Int):=
 (rng (x0.m.Prime-1)).bind fun v1=>
 (f_n x0.m.Prime x1.v v1 x2.v).bind fun r2=>
 some r2
def zPm(x0:zP)(x1:Int)(s9:(List (List Int))×Int)(s10:(List Int)×(List Int)×Int):Option (((List Int)×(List Int)×Int)⊕((List Int)×(List Int))):=
 (ixO x0.p.zA s9.2).bind fun v3=>
 cond (decide (s10.2.2<v3)) (
  (rng (x1+1)).bind fun v4=>
  (zJp x0 x1 s9.2).bind fun r5=>
  (f_d x0 v4 (zG.mk s10.1 s10.2.1) r5).bind fun r6=>
  (rng (s10.2.2+1)).bind fun v7=>
  some (.inl (r6.x,r6.v,v7))) (
  some (.inr (s10.1,s10.2.1)))
def zPn(x0:zP)(x1:Int)(s9:(List (List Int))×Int)(s12:(List (List Int))×Int):Option (((List (List Int))×Int)⊕(List (List Int))):=
 cond (decide (s12.2<(x0.p.zA.length:Int))) (
  (zJp x0 x1 s9.2).bind fun r14=>
  (zJp x0 x1 s12.2).bind fun r15=>
  (zJp x0 s9.2 s12.2).bind fun r16=>
  (f_f x0 x1 r16).bind fun r17=>
  (rng (x1+1)).bind fun v18=>
  (f_d x0 v18 r15 r14).bind fun r19=>
  (rng (x1+1)).bind fun v20=>
  (f_d x0 v20 r14 r17).bind fun r21=>
  (zLl x0 r19 r21).bind fun r22=>
  (yZ s12.1 [r22]).bind fun v23=>
  (rng (s12.2+1)).bind fun v24=>
  some (.inl (v23,v24))) (
  some (.inr s12.1))
def zSQ(x0:zP)(x1:Int)(s9:(List (List Int))×Int):Option (((List (List Int))×Int)⊕(List (List Int))):=
 cond (decide (s9.2<(x0.p.zA.length:Int))) (
  (zLk x0).bind fun r2=>
  (zF (zPm x0 x1 s9) (r2.x,r2.v,0)).bind fun r8=>
  (zMD x0 s9.2).bind fun r9=>
  (f_f x0 x1 r9).bind fun r10=>
  (zLl x0 (zG.mk r8.1 r8.2) r10).bind fun r11=>
  (yZ s9.1 [r11]).bind fun v12=>
  (rng (s9.2+1)).bind fun v13=>
  (zF (zPn x0 x1 s9) (v12,v13)).bind fun r25=>
  (rng (s9.2+1)).bind fun v26=>
  some (.inl (r25,v26))) (
  some (.inr s9.1))
def zSR(x0:zP)(x1:Int)(s20:(List Int)×(List Int)×Int):Option (((List Int)×(List Int)×Int)⊕((List Int)×(List Int))):=
 (ixO x0.p.zA x1).bind fun v35=>
 cond (decide (s20.2.2<v35)) (
  (f_f x0 x1 (zG.mk s20.1 s20.2.1)).bind fun r36=>
  (rng (s20.2.2+1)).bind fun v37=>
  some (.inl (r36.x,r36.v,v37))) (
  some (.inr (s20.1,s20.2.1)))
def zPo(x0:zP)(x1:Int)(r28:zG)(s19:(List (List Int))×Int):Option (((List (List Int))×Int)⊕(List (List Int))):=
 cond (decide (s19.2<(x0.p.zA.length:Int))) (
  (zLk x0).bind fun r33=>
  (ixO r33.x s19.2).bind fun _=>
  (zF (zSR x0 x1) (r33.x.set s19.2.toNat 1,r33.v,0)).bind fun r38=>
  (rng (x1+1)).bind fun v39=>
  (f_d x0 v39 r28 (zG.mk r38.1 r38.2)).bind fun r40=>
  (rng (x1+1)).bind fun v41=>
  (f_d x0 v41 (zG.mk (r33.x.set s19.2.toNat 1) r33.v) r28).bind fun r42=>
  (zLl x0 r40 r42).bind fun r43=>
  (yZ s19.1 [r43]).bind fun v44=>
  (rng (s19.2+1)).bind fun v45=>
  some (.inl (v44,v45))) (
  some (.inr s19.1))
def f_i(x0:zP)(x1:Int):Option (List (List Int)):=
 (rng (x1+1)).bind fun v1=>
 (zF (zSQ x0 x1) ([],v1)).bind fun r27=>
 (zMD x0 x1).bind fun r28=>
 (f_f x0 x1 r28).bind fun r29=>
 (zLl x0 r29 r28).bind fun r30=>
 (yZ r27 [r30]).bind fun v31=>
 (rng (x1+1)).bind fun v32=>
 (zF (zPo x0 x1 r28) (v31,v32)).bind fun r46=>
 some r46
def zLm(x0:zP)(s1:(List (List Int))×Int):Option (((List (List Int))×Int)⊕(List (List Int))):=
 cond (decide (s1.2<(x0.p.zA.length:Int))) (
  (f_i x0 s1.2).bind fun r1=>
  (yZ s1.1 r1).bind fun v2=>
  (rng (s1.2+1)).bind fun v3=>
  some (.inl (v2,v3))) (
  some (.inr s1.1))
def zUy(x0:zP):Option (List (List Int)):=
 (zF (zLm x0) ([],0)).bind fun r4=>
 some r4
def zLn(r1:(List (List Int)))(s1:Int):Option (Int⊕(Unit⊕Bool)):=
 cond (decide (s1<(r1.length:Int))) (
  (ixO r1 s1).bind fun v2=>
  (zSM v2).bind fun r3=>
  cond (!r3) (
   some (.inr (.inr false))) (
   (rng (s1+1)).bind fun v4=>
   some (.inl v4))) (
  some (.inr (.inl ())))
def zSS(x0:SPr)(x1:zC)(x2:List (List Int)):Option Bool:=
 (zUy (zP.mk x0 x1 x2)).bind fun r1=>
 (zF (zLn r1) 0).bind fun r5=>
 match r5 with
 |(.inl r5)=>
  some true
 |(.inr r5)=>
  some r5
def zUz(x0:SPr)(x1:zC)(x2:List (List Int)):Option Bool:=
 (zMC x0).bind fun r1=>
 cond ((x2.length:Int)==r1) (
  (zWD x1 x2).bind fun r2=>
  some r2) (
  some false)
def zU0(x0:SPr)(x1:zC)(x2:List (List Int)):Option Bool:=
 (f_j x0 x1 x2).bind fun r1=>
 (f_T r1).bind fun r2=>
 some (r2==0)
def zU1(x0:Int):Option Bool:=
 some (x0 != 0)
def zIq(x0:List Int)(s1:Int):Option (Int⊕(Unit⊕Int)):=
 cond (decide (s1<(x0.length:Int))) (
  (ixO x0 s1).bind fun v1=>
  (zU1 v1).bind fun r2=>
  cond r2 (
   some (.inr (.inr s1))) (
   (rng (s1+1)).bind fun v3=>
   some (.inl v3))) (
  some (.inr (.inl ())))
def zU2(x0:List Int):Option Int:=
 (zF (zIq x0) 0).bind fun r4=>
 match r4 with
 |(.inl r4)=>
  some (-1)
 |(.inr r4)=>
  some r4
def zLo(x0:List (List Int))(s1:(List Int)×Int):Option (((List Int)×Int)⊕(List Int)):=
 cond (decide (s1.2<(x0.length:Int))) (
  (ixO x0 s1.2).bind fun v1=>
  (zU2 v1).bind fun r2=>
  (yZ s1.1 [r2]).bind fun v3=>
  (rng (s1.2+1)).bind fun v4=>
  some (.inl (v3,v4))) (
  some (.inr s1.1))
def zU3(x0:List (List Int)):Option (List Int):=
 (zF (zLo x0) ([],0)).bind fun r5=>
 some r5
def zIr(x0:zU)(r2:(List Int))(s1:(List Int)×Int):Option (((List Int)×Int)⊕(List Int)):=
 cond (decide (s1.2<(r2.length:Int))) (
  (ixO r2 s1.2).bind fun v3=>
  (ixO x0.Rows s1.2).bind fun v4=>
  (ixO s1.1 v3).bind fun v5=>
  (rng (0-v5)).bind fun v6=>
  (f_t s1.1 v4 v6 x0.Prime).bind fun r7=>
  (rng (s1.2+1)).bind fun v8=>
  some (.inl (r7,v8))) (
  some (.inr s1.1))
def zU4(x0:zU)(x1:List Int):Option (List Int):=
 (f_x x1).bind fun r1=>
 (zU3 x0.Rows).bind fun r2=>
 (zF (zIr x0 r2) (r1,0)).bind fun r9=>
 some r9
def zLp(x0:List (List Int))(s1:(List Int)×Int):Option (((List Int)×Int)⊕(List Int)):=
 cond (decide (s1.2<(x0.length:Int))) (
  (ixO x0 s1.2).bind fun v1=>
  (yZ s1.1 v1).bind fun v2=>
  (rng (s1.2+1)).bind fun v3=>
  some (.inl (v2,v3))) (
  some (.inr s1.1))
def zMG(x0:List (List Int)):Option (List Int):=
 (zF (zLp x0) ([],0)).bind fun r4=>
 some r4
def zPp(x2:Int)(r2:(List (List Int)))(s1:(List (List Int))×Int):Option (((List (List Int))×Int)⊕(List (List Int))):=
 cond (decide (s1.2<(r2.length:Int))) (
  (ixO r2 s1.2).bind fun v3=>
  (zQ v3 0 x2).bind fun v4=>
  (f_H v4).bind fun r5=>
  cond r5 (
   (zQ v3 x2 v3.length).bind fun v6=>
   (yZ s1.1 [v6]).bind fun v7=>
   (rng (s1.2+1)).bind fun v8=>
   some (.inl (v7,v8))) (
   (rng (s1.2+1)).bind fun v9=>
   some (.inl (s1.1,v9)))) (
  some (.inr s1.1))
def f_G(x0:Int)(x1:List (List Int))(x2:Int):Option (List (List Int)):=
 (zSD x1).bind fun r1=>
 (f_g x0 r1).bind fun r2=>
 (zF (zPp x2 r2) ([],0)).bind fun r10=>
 (f_g x0 r10).bind fun r11=>
 some r11
def zPq(x0:List Int)(x1:Int)(s1:(List (List Int))×Int):Option (((List (List Int))×Int)⊕(List (List Int))):=
 (rng (s1.2+x1)).bind fun v1=>
 cond (decide (v1≤(x0.length:Int))) (
  (rng (s1.2+x1)).bind fun v2=>
  (zQ x0 s1.2 v2).bind fun v3=>
  (f_v v3).bind fun r4=>
  (yZ s1.1 [r4]).bind fun v5=>
  (rng (s1.2+x1)).bind fun v6=>
  some (.inl (v5,v6))) (
  some (.inr s1.1))
def f_Q(x0:List Int)(x1:Int):Option (List (List Int)):=
 (zF (zPq x0 x1) ([],0)).bind fun r7=>
 some r7
def zST(x0:SPr)(x1:zC)(x2:List (List Int))(s5:(List (List Int))×Int)(s6:(List Int)×Int):Option (((List Int)×Int)⊕(List Int)):=
 (ixO x0.zA s5.2).bind fun v2=>
 cond (decide (s6.2<v2)) (
  (zFt x1 x2 s6.1 s5.2).bind fun r3=>
  (rng (s6.2+1)).bind fun v4=>
  some (.inl (r3,v4))) (
  some (.inr s6.1))
def zSU(x0:SPr)(x1:zC)(x2:List (List Int))(m1:Nat)(s5:(List (List Int))×Int):Option (((List (List Int))×Int)⊕(List (List Int))):=
 cond (decide (s5.2<(x0.zA.length:Int))) (
  (zF (zST x0 x1 x2 s5) (J1 m1 (0:Int),0)).bind fun r5=>
  (rng (x1.Prime-1)).bind fun v6=>
  (ixO x0.zT s5.2).bind fun v7=>
  (f_F x1 x2 (J1 m1 (0:Int)) v7).bind fun r8=>
  (f_n x1.Prime r5 v6 r8).bind fun r9=>
  (yZ s5.1 [r9]).bind fun v10=>
  (rng (s5.2+1)).bind fun v11=>
  some (.inl (v10,v11))) (
  some (.inr s5.1))
def zSV(x0:SPr)(x1:zC)(x2:List (List Int))(m1:Nat)(s13:(List (List Int))×Int)(s14:(List (List Int))×Int):Option (((List (List Int))×Int)⊕(List (List Int))):=
 cond (decide (s14.2<(x0.zA.length:Int))) (
  (zFt x1 x2 (J1 m1 (0:Int)) s14.2).bind fun r14=>
  (zFt x1 x2 r14 s13.2).bind fun r15=>
  (zFt x1 x2 (J1 m1 (0:Int)) s13.2).bind fun r16=>
  (ixO x0.zB s13.2).bind fun v17=>
  (rng (s14.2-s13.2)).bind fun v18=>
  (rng (v18-1)).bind fun v19=>
  (ixO v17 v19).bind fun v20=>
  (f_F x1 x2 r16 v20).bind fun r21=>
  (rng (x1.Prime-1)).bind fun v22=>
  (f_n x1.Prime r15 v22 r21).bind fun r23=>
  (yZ s14.1 [r23]).bind fun v24=>
  (rng (s14.2+1)).bind fun v25=>
  some (.inl (v24,v25))) (
  some (.inr s14.1))
def zPr(x0:SPr)(x1:zC)(x2:List (List Int))(m1:Nat)(s13:(List (List Int))×Int):Option (((List (List Int))×Int)⊕(List (List Int))):=
 cond (decide (s13.2<(x0.zA.length:Int))) (
  (rng (s13.2+1)).bind fun v13=>
  (zF (zSV x0 x1 x2 m1 s13) (s13.1,v13)).bind fun r26=>
  (rng (s13.2+1)).bind fun v27=>
  some (.inl (r26,v27))) (
  some (.inr s13.1))
def f_p(x0:SPr)(x1:zC)(x2:List (List Int)):Option (List (List Int)):=
 (yM x1.Dim).bind fun m1=>
 (zF (zSU x0 x1 x2 m1) ([],0)).bind fun r12=>
 (zF (zPr x0 x1 x2 m1) (r12,0)).bind fun r28=>
 some r28
def zLq(x0:SPr)(x1:zC)(v1:Int)(s1:(List (List Int))×Int):Option (((List (List Int))×Int)⊕(List (List Int))):=
 cond (decide (s1.2<v1)) (
  (yM v1).bind fun m2=>
  (ixO (J1 m2 (0:Int)) s1.2).bind fun _=>
  (f_Q ((J1 m2 (0:Int)).set s1.2.toNat 1) x1.Dim).bind fun r4=>
  (f_p x0 x1 r4).bind fun r5=>
  (zMG r5).bind fun r6=>
  (yZ s1.1 [r6]).bind fun v7=>
  (rng (s1.2+1)).bind fun v8=>
  some (.inl (v7,v8))) (
  some (.inr s1.1))
def zU5(x0:SPr)(x1:zC):Option (List (List Int)):=
 (rng ((x0.zA.length:Int)*x1.Dim)).bind fun v1=>
 (zF (zLq x0 x1 v1) ([],0)).bind fun r9=>
 some r9
def zLr(x0:SPr)(x1:zC)(v1:Int)(s1:(List (List Int))×Int):Option (((List (List Int))×Int)⊕(List (List Int))):=
 cond (decide (s1.2<v1)) (
  (zJo v1 s1.2).bind fun r2=>
  (f_V r2 x1.Dim).bind fun r3=>
  (zUv x0 x1 r3).bind fun r4=>
  (f_q r4).bind fun r5=>
  (yZ s1.1 [r5]).bind fun v6=>
  (rng (s1.2+1)).bind fun v7=>
  some (.inl (v6,v7))) (
  some (.inr s1.1))
def zSW(x0:SPr)(x1:zC):Option (List (List Int)):=
 (rng ((x0.zA.length:Int)*x1.Dim)).bind fun v1=>
 (zF (zLr x0 x1 v1) ([],0)).bind fun r8=>
 some r8
def zIs(x0:SPr)(x1:zC)(v1:Int)(s1:(List (List Int))×Int×Int):Option (((List (List Int))×Int×Int)⊕((List (List Int))×Int)):=
 cond (decide (s1.2.2<v1)) (
  (yM v1).bind fun m2=>
  (ixO (J1 m2 (0:Int)) s1.2.2).bind fun _=>
  (f_Q ((J1 m2 (0:Int)).set s1.2.2.toNat 1) x1.Dim).bind fun r4=>
  (f_z x0 x1 r4).bind fun r5=>
  (yZ s1.1 [r5]).bind fun v6=>
  (rng (s1.2.2+1)).bind fun v7=>
  some (.inl (v6,(r5.length:Int),v7))) (
  some (.inr (s1.1,s1.2.1)))
def zSX(x0:SPr)(x1:zC):Option (List (List Int)):=
 (rng ((x0.zA.length:Int)*x1.Dim)).bind fun v1=>
 (zF (zIs x0 x1 v1) ([],0,0)).bind fun r8=>
 (f_N x1.Prime r8.1 r8.2).bind fun r9=>
 some r9
def zPs(x0:SPr)(x1:zC):Option (List (List Int)):=
 (zSW x0 x1).bind fun r1=>
 (zMC x0).bind fun r2=>
 (rng (r2*x1.Dim)).bind fun v3=>
 (f_G x1.Prime r1 v3).bind fun r4=>
 some r4
def zU6(x0:SPr)(x1:zC)(x2:List (List Int))(x3:List (List Int)):Option Int:=
 (zUf x0 x1).bind fun r1=>
 cond (!r1) (
  some 1) (
  (zSO x0 x1 x2).bind fun r2=>
  cond (!r2) (
   some 1) (
   (zSO x0 x1 x3).bind fun r3=>
   cond (!r3) (
    some 1) (
    (zSS x0 x1 x2).bind fun r4=>
    cond (!r4) (
     some 5) (
     (zSS x0 x1 x3).bind fun r5=>
     cond (!r5) (
      some 5) (
      some 0)))))
def zSY(x0:SPr)(x1:zC)(x2:List (List (List Int)))(s1:Int):Option (Int⊕(Unit⊕Int)):=
 cond (decide (s1<(x2.length:Int))) (
  (ixO x2 s1).bind fun v2=>
  (zUz x0 x1 v2).bind fun r3=>
  cond (!r3) (
   some (.inr (.inr 1))) (
   (rng (s1+1)).bind fun v4=>
   some (.inl v4))) (
  some (.inr (.inl ())))
def zSZ(x0:SPr)(x1:zC)(x2:List (List (List Int)))(s3:Int):Option (Int⊕(Unit⊕Int)):=
 cond (decide (s3<(x2.length:Int))) (
  (ixO x2 s3).bind fun v6=>
  (zU0 x0 x1 v6).bind fun r7=>
  cond (!r7) (
   some (.inr (.inr 5))) (
   (rng (s3+1)).bind fun v8=>
   some (.inl v8))) (
  some (.inr (.inl ())))
def f_O(x0:SPr)(x1:zC)(x2:List (List (List Int))):Option Int:=
 (f_E x0 x1).bind fun r1=>
 cond (!r1) (
  some 1) (
  (zF (zSY x0 x1 x2) 0).bind fun r5=>
  match r5 with
  |(.inl r5)=>
   (zF (zSZ x0 x1 x2) 0).bind fun r9=>
   match r9 with
   |(.inl r9)=>
    some 0
   |(.inr r9)=>
    some r9
  |(.inr r5)=>
   some r5)
def zPt(x2:Int)(r1:(List (List Int)))(s1:(List (List Int))×Int):Option (((List (List Int))×Int)⊕(List (List Int))):=
 cond (decide (s1.2<(r1.length:Int))) (
  (ixO r1 s1.2).bind fun v4=>
  (f_C v4).bind fun r5=>
  cond (decide (r5<x2)) (
   (ixO r1 s1.2).bind fun v6=>
   (yZ s1.1 [v6]).bind fun v7=>
   (rng (s1.2+1)).bind fun v8=>
   some (.inl (v7,v8))) (
   (rng (s1.2+1)).bind fun v9=>
   some (.inl (s1.1,v9)))) (
  some (.inr s1.1))
def f_R(x0:Int)(x1:List (List Int))(x2:Int)(x3:List Int):Option ((List Int)×Bool):=
 (zSG x0 x1).bind fun r1=>
 (f_v x3).bind fun r2=>
 (wI r2 (x1.length:Int) (0:Int)).bind fun v3=>
 (zF (zPt x2 r1) ([],0)).bind fun r10=>
 (zPa x0 r10 v3).bind fun r11=>
 (zQ r11 0 x2).bind fun v12=>
 (zSM v12).bind fun r13=>
 cond (!r13) (
  some ([],false)) (
  (rng (x0-1)).bind fun v14=>
  (zQ r11 x2 r11.length).bind fun v15=>
  (zPb x0 v14 v15).bind fun r16=>
  (f_N x0 x1 x2).bind fun r17=>
  (zPa x0 r17 r16).bind fun r18=>
  some (r18,true))
def zWE(x0:Int)(x1:List (List Int)):Option zU:=
 (ixO x1 0).bind fun v1=>
 some (zU.mk x0 (v1.length:Int) x1)
def zU7(x0:Int):Option Bool:=
 some (x0 != 0)
def zIt(x0:List Int)(s1:Int):Option (Int⊕(Unit⊕Int)):=
 cond (decide (s1<(x0.length:Int))) (
  (ixO x0 s1).bind fun v1=>
  (zU7 v1).bind fun r2=>
  cond r2 (
   some (.inr (.inr s1))) (
   (rng (s1+1)).bind fun v3=>
   some (.inl v3))) (
  some (.inr (.inl ())))
def zU8(x0:List Int):Option Int:=
 (zF (zIt x0) 0).bind fun r4=>
 match r4 with
 |(.inl r4)=>
  some (-1)
 |(.inr r4)=>
  some r4
def zWF(x0:zU):Option zU:=
 (f_G x0.Prime x0.Rows x0.xW).bind fun r1=>
 some (zU.mk x0.Prime (x0.Rows.length:Int) r1)
def zPu(x0:zU)(r4:(List (List Int)))(s1:(List Int)×Int):Option (((List Int)×Int)⊕(List Int)):=
 cond (decide (s1.2<(r4.length:Int))) (
  (ixO r4 s1.2).bind fun v5=>
  (zU8 v5).bind fun r6=>
  cond (decide (r6<x0.xW)) (
   (ixO s1.1 r6).bind fun v7=>
   (rng (0-v7)).bind fun v8=>
   (f_t s1.1 v5 v8 x0.Prime).bind fun r9=>
   (rng (s1.2+1)).bind fun v10=>
   some (.inl (r9,v10))) (
   (rng (s1.2+1)).bind fun v11=>
   some (.inl (s1.1,v11)))) (
  some (.inr s1.1))
def zPv(x0:zU)(r12:(List Int))(s3:(List Int)×Int):Option (((List Int)×Int)⊕(List Int)):=
 cond (decide (s3.2<(((r12.length:Int).toNat-(x0.xW:Int).toNat:Nat):Int))) (
  (zQ s3.1 x0.xW r12.length).bind fun v16=>
  (ixO v16 s3.2).bind fun v17=>
  (rng (0-v17)).bind fun v18=>
  (zHu v18 x0.Prime).bind fun r19=>
  (zQ s3.1 x0.xW r12.length).bind fun v20=>
  (ixO v20 s3.2).bind fun _=>
  (rng (s3.2+1)).bind fun v22=>
  some (.inl (s3.1.set (x0.xW+s3.2).toNat r19,v22))) (
  some (.inr s3.1))
def f_B(x0:zU)(x1:List Int):Option ((List Int)×Bool):=
 (f_x x1).bind fun r1=>
 (wI r1 (x0.Rows.length:Int) (0:Int)).bind fun v2=>
 (zSD x0.Rows).bind fun r3=>
 (f_g x0.Prime r3).bind fun r4=>
 (zF (zPu x0 r4) (v2,0)).bind fun r12=>
 (zQ r12 0 x0.xW).bind fun v13=>
 (f_H v13).bind fun r14=>
 cond (!r14) (
  some ([],false)) (
  (zQ r12 x0.xW r12.length).bind fun _=>
  (zF (zPv x0 r12) (r12,0)).bind fun r23=>
  (zWF x0).bind fun r24=>
  (zQ r23 x0.xW r12.length).bind fun v25=>
  (zU4 r24 v25).bind fun r26=>
  some (r26,true))
def zTa(x0:SPr)(x1:zC)(x2:List Int):Option ((List (List Int))×Bool):=
 cond ((x0.zA.length:Int)==0) (
  some ([],true)) (
  (yM (x2.length:Int)).bind fun m1=>
  (f_t (J1 m1 (0:Int)) x2 (-1) x1.Prime).bind fun r2=>
  (zSW x0 x1).bind fun r3=>
  (zWE x1.Prime r3).bind fun r4=>
  (f_B r4 r2).bind fun r5=>
  cond (!r5.2) (
   some ([],false)) (
   (f_V r5.1 x1.Dim).bind fun r6=>
   some (r6,true)))
def zU9(x0:SPr)(x1:zC)(x2:List (List Int)):Option ((List (List Int))×Bool):=
 (zMG x2).bind fun r1=>
 (zU5 x0 x1).bind fun r2=>
 (rng (x1.Prime-1)).bind fun v3=>
 (zPb x1.Prime v3 r1).bind fun r4=>
 (f_R x1.Prime r2 (r1.length:Int) r4).bind fun r5=>
 cond (!r5.2) (
  some ([],false)) (
  (f_Q r5.1 x1.Dim).bind fun r6=>
  some (r6,true))
def zTb(x1:zC)(r2:(List (List Int)))(s17:(List (List Int))×Int)(s22:(List (List Int))×Int)(s23:(List (List Int))×Int):Option (((List (List Int))×Int)⊕(List (List Int))):=
 cond (decide (s23.2<x1.Prime)) (
  (ixO s17.1 s22.2).bind fun v7=>
  (ixO r2 s17.2).bind fun v8=>
  (f_n x1.Prime v7 s23.2 v8).bind fun r9=>
  (yZ s23.1 [r9]).bind fun v10=>
  (rng (s23.2+1)).bind fun v11=>
  some (.inl (v10,v11))) (
  some (.inr s23.1))
def zTc(x1:zC)(r2:(List (List Int)))(s17:(List (List Int))×Int)(s22:(List (List Int))×Int):Option (((List (List Int))×Int)⊕(List (List Int))):=
 cond (decide (s22.2<(s17.1.length:Int))) (
  (zF (zTb x1 r2 s17 s22) (s22.1,0)).bind fun r12=>
  (rng (s22.2+1)).bind fun v13=>
  some (.inl (r12,v13))) (
  some (.inr s22.1))
def zPw(x1:zC)(r2:(List (List Int)))(s17:(List (List Int))×Int):Option (((List (List Int))×Int)⊕((List (List Int))⊕((List (List (List Int)))×Int))):=
 cond (decide (s17.2<(r2.length:Int))) (
  (rng ((s17.1.length:Int)*x1.Prime)).bind fun v6=>
  cond (decide (v6> 130)) (
   some (.inr (.inr ([],3)))) (
   (zF (zTc x1 r2 s17) ([],0)).bind fun r14=>
   (rng (s17.2+1)).bind fun v15=>
   some (.inl (r14,v15)))) (
  some (.inr (.inl s17.1)))
def zPx(x0:Int)(v2:List Int)(v4:List Int)(s23:(List (List Int))×Int):Option (((List (List Int))×Int)⊕(List (List Int))):=
 cond (decide (s23.2<x0)) (
  (f_x v4).bind fun r5=>
  (f_t r5 v2 s23.2 x0).bind fun r6=>
  (yZ s23.1 [r6]).bind fun v7=>
  (rng (s23.2+1)).bind fun v8=>
  some (.inl (v7,v8))) (
  some (.inr s23.1))
def zPy(x0:Int)(s17:(List (List Int))×Int)(v2:List Int)(s22:(List (List Int))×Int):Option (((List (List Int))×Int)⊕(List (List Int))):=
 cond (decide (s22.2<(s17.1.length:Int))) (
  (ixO s17.1 s22.2).bind fun v4=>
  (zF (zPx x0 v2 v4) (s22.1,0)).bind fun r9=>
  (rng (s22.2+1)).bind fun v10=>
  some (.inl (r9,v10))) (
  some (.inr s22.1))
def zMH(x0:Int)(x1:List (List Int))(s17:(List (List Int))×Int):Option (((List (List Int))×Int)⊕((List (List Int))⊕((List (List Int))×Bool))):=
 cond (decide (s17.2<(x1.length:Int))) (
  (ixO x1 s17.2).bind fun v2=>
  (rng ((s17.1.length:Int)*x0)).bind fun v3=>
  cond (decide (v3> 130)) (
   some (.inr (.inr ([],false)))) (
   (zF (zPy x0 s17 v2) ([],0)).bind fun r11=>
   (rng (s17.2+1)).bind fun v12=>
   some (.inl (r11,v12)))) (
  some (.inr (.inl s17.1)))
def f_u(x0:Int)(x1:List (List Int))(x2:Int):Option ((List (List Int))×Bool):=
 (yM x2).bind fun m1=>
 (zF (zMH x0 x1) ([J1 m1 (0:Int)],0)).bind fun r13=>
 match r13 with
 |(.inl r13)=>
  some (r13,true)
 |(.inr r13)=>
  some r13
def zLs(x0:List Int)(x1:List Int)(s1:Int):Option (Int⊕(Unit⊕Bool)):=
 cond (decide (s1<(x0.length:Int))) (
  cond (decide (s1<(x1.length:Int))) (
   (ixO x0 s1).bind fun v1=>
   (ixO x1 s1).bind fun v2=>
   cond (v1 != v2) (
    (ixO x0 s1).bind fun v3=>
    (ixO x1 s1).bind fun v4=>
    some (.inr (.inr (decide (v3<v4))))) (
    (rng (s1+1)).bind fun v5=>
    some (.inl v5))) (
   some (.inr (.inl ())))) (
  some (.inr (.inl ())))
def zUA(x0:List Int)(x1:List Int):Option Bool:=
 (zF (zLs x0 x1) 0).bind fun r6=>
 match r6 with
 |(.inl r6)=>
  some (decide ((x0.length:Int)<(x1.length:Int)))
 |(.inr r6)=>
  some r6
def zY1(x1:zC)(r4:(List (List Int)))(s17:(List (List Int))×Int)(s22:(List (List Int))×Int)(s23:(List (List Int))×Int):Option (((List (List Int))×Int)⊕(List (List Int))):=
 cond (decide (s23.2<x1.Prime)) (
  (ixO s17.1 s22.2).bind fun v6=>
  (ixO r4 s17.2).bind fun v7=>
  (f_n x1.Prime v6 s23.2 v7).bind fun r8=>
  (yZ s23.1 [r8]).bind fun v9=>
  (rng (s23.2+1)).bind fun v10=>
  some (.inl (v9,v10))) (
  some (.inr s23.1))
def zY2(x1:zC)(r4:(List (List Int)))(s17:(List (List Int))×Int)(s22:(List (List Int))×Int):Option (((List (List Int))×Int)⊕(List (List Int))):=
 cond (decide (s22.2<(s17.1.length:Int))) (
  (zF (zY1 x1 r4 s17 s22) (s22.1,0)).bind fun r11=>
  (rng (s22.2+1)).bind fun v12=>
  some (.inl (r11,v12))) (
  some (.inr s22.1))
def zWG(x1:zC)(r4:(List (List Int)))(s17:(List (List Int))×Int):Option (((List (List Int))×Int)⊕((List (List Int))⊕((List (List (List Int)))×Int))):=
 cond (decide (s17.2<(r4.length:Int))) (
  (rng ((s17.1.length:Int)*x1.Prime)).bind fun v5=>
  cond (decide (v5> 130)) (
   some (.inr (.inr ([],3)))) (
   (zF (zY2 x1 r4 s17) ([],0)).bind fun r13=>
   (rng (s17.2+1)).bind fun v14=>
   some (.inl (r13,v14)))) (
  some (.inr (.inl s17.1)))
def zUB(s32:(List (List Int))×Int):Option (((List (List Int))×Int)⊕(List (List Int))):=
 cond (decide (s32.2> 0)) (
  (ixO s32.1 s32.2).bind fun v16=>
  (rng (s32.2-1)).bind fun v17=>
  (ixO s32.1 v17).bind fun v18=>
  (zUA v16 v18).bind fun r19=>
  cond r19 (
   (ixO s32.1 s32.2).bind fun v20=>
   (rng (s32.2-1)).bind fun v21=>
   (ixO s32.1 v21).bind fun v22=>
   (ixO s32.1 s32.2).bind fun _=>
   (rng (s32.2-1)).bind fun v24=>
   (ixO (s32.1.set s32.2.toNat v22) v24).bind fun _=>
   (rng (s32.2-1)).bind fun v26=>
   some (.inl ((s32.1.set s32.2.toNat v22).set v24.toNat v20,v26))) (
   some (.inr s32.1))) (
  some (.inr s32.1))
def zMI(s31:(List (List Int))×Int):Option (((List (List Int))×Int)⊕(List (List Int))):=
 cond (decide (s31.2<(s31.1.length:Int))) (
  (zF zUB (s31.1,s31.2)).bind fun r16=>
  (rng (s31.2+1)).bind fun v17=>
  some (.inl (r16,v17))) (
  some (.inr s31.1))
def zTd(x1:zC)(r18:(List (List Int)))(s35:(List (List (List Int)))×Int):Option (((List (List (List Int)))×Int)⊕(List (List (List Int)))):=
 cond (decide (s35.2<(r18.length:Int))) (
  (ixO r18 s35.2).bind fun v19=>
  (f_Q v19 x1.Dim).bind fun r20=>
  (yZ s35.1 [r20]).bind fun v21=>
  (rng (s35.2+1)).bind fun v22=>
  some (.inl (v21,v22))) (
  some (.inr s35.1))
def f_m(x0:SPr)(x1:zC)(x2:List (List Int)):Option ((List (List (List Int)))×Int):=
 (zU6 x0 x1 x2 x2).bind fun r1=>
 cond (r1 != 0) (
  some ([],r1)) (
  (zU9 x0 x1 x2).bind fun r2=>
  cond (!r2.2) (
   some ([],4)) (
   (zMG r2.1).bind fun r3=>
   (zSX x0 x1).bind fun r4=>
   (zF (zWG x1 r4) ([r3],0)).bind fun r15=>
   match r15 with
   |(.inl r15)=>
    (zF zMI (r15,1)).bind fun r18=>
    (zF (zTd x1 r18) ([],0)).bind fun r23=>
    some (r23,0)
   |(.inr r15)=>
    some r15))
def zPz(x1:zC)(r3:(List (List Int))×Bool)(r6:(List (List Int))×Bool)(s1:(List (List (List Int)))×(List (List Int))×Int):Option (((List (List (List Int)))×(List (List Int))×Int)⊕(List (List (List Int)))):=
 cond (decide (s1.2.2<(r6.1.length:Int))) (
  (ixO s1.2.1 s1.2.2).bind fun v7=>
  (f_q r3.1).bind fun r8=>
  (f_t v7 r8 1 x1.Prime).bind fun r9=>
  (f_V r9 x1.Dim).bind fun r10=>
  (yZ s1.1 [r10]).bind fun v11=>
  (rng (s1.2.2+1)).bind fun v12=>
  some (.inl (v11,s1.2.1.set s1.2.2.toNat r9,v12))) (
  some (.inr s1.1))
def f_S(x0:SPr)(x1:zC)(x2:List (List Int)):Option ((List (List (List Int)))×Int):=
 (f_O x0 x1 [x2]).bind fun r1=>
 cond (r1 != 0) (
  some ([],r1)) (
  (f_q x2).bind fun r2=>
  (zTa x0 x1 r2).bind fun r3=>
  cond (!r3.2) (
   some ([],4)) (
   (zPs x0 x1).bind fun r4=>
   (rng ((x0.zA.length:Int)*x1.Dim)).bind fun v5=>
   (f_u x1.Prime r4 v5).bind fun r6=>
   cond (!r6.2) (
    some ([],3)) (
    (zF (zPz x1 r3 r6) ([],r6.1,0)).bind fun r13=>
    some (r13,0))))
def zUC(x0:SPr)(x1:zC)(x2:List (List Int)):Option Bool:=
 (zTW x0 1048576).bind fun r1=>
 cond (decide (r1<0)) (
  some true) (
  (zTX x1 r1).bind fun r2=>
  cond (decide (r2<0)) (
   some true) (
   (zR7 x2 r2).bind fun r3=>
   cond (decide (r3<0)) (
    some true) (
    (zMz x0).bind fun r4=>
    (zM0 x1).bind fun r5=>
    (f_W x2).bind fun r6=>
    (f_m r4 r5 r6).bind fun r7=>
    (zMz x0).bind fun r8=>
    (zM0 x1).bind fun r9=>
    (f_W x2).bind fun r10=>
    (f_S r8 r9 r10).bind fun r11=>
    (zM8 r11.1 r7.1).bind fun r12=>
    cond (!r12) (
     some false) (
     cond (r11.2 != r7.2) (
      some false) (
      (zMz x0).bind fun r13=>
      (zUn r8 r13).bind fun r14=>
      cond (!r14) (
       some false) (
       (zM0 x1).bind fun r15=>
       (zUm r9 r15).bind fun r16=>
       cond (!r16) (
        some false) (
        (f_W x2).bind fun r17=>
        (zOW r10 r17).bind fun r18=>
        cond (!r18) (
         some false) (
         (zUo r8 1).bind fun r19=>
         (zUp r9 r19.1).bind fun r20=>
         (zM9 r10 r20.1).bind fun r21=>
         cond (decide (r21.1<0)) (
          some false) (
          (zM8 r11.1 r7.1).bind fun r22=>
          cond (!r22) (
           some false) (
           cond (r11.2 != r7.2) (
            some false) (
            (zOY r11.1 1).bind fun r23=>
            (zUr r23.2 1).bind fun r24=>
            cond (decide (r24<0)) (
             some false) (
             cond (r24 != r23.1) (
              some false) (
              (zMz x0).bind fun r25=>
              (zM0 x1).bind fun r26=>
              (f_W x2).bind fun r27=>
              (f_S r25 r26 r27).bind fun r28=>
              (zM8 r28.1 r7.1).bind fun r29=>
              cond (!r29) (
               some false) (
               cond (r28.2 != r7.2) (
                some false) (
                (zUr r23.2 1).bind fun r30=>
                cond (decide (r30<0)) (
                 some false) (
                 cond (r30 != r23.1) (
                  some false) (
                  some true)))))))))))))))))
end Go.Wk
