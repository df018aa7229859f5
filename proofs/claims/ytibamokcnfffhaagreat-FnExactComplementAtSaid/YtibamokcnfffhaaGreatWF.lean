/- The program's ComplementAt returns what the reference's returns,for all arguments;no conditions. -/
import Derived.Test.YtibamokcnfffhaaGreatAbC
open List renaming replicate→J1
open Int renaming fdiv→Hh
open Option renaming some→ud,none→ue
open Bool renaming true→uf,false→ug
noncomputable section
namespace Go.Wk
open Go Go.Ab
abbrev uj:=List Int
abbrev uk:=List uj
structure SPr where
 zA:uj
 zV:uk
 zD:List uk
abbrev yO(x:SPr):T:=.agg [(L 1 I) x.zA,(L 1 (L 1 I)) x.zV,(L 1 (L 1 (L 1 I))) x.zD]
instance:Enc yO:=.of fun _=>zNo ⟨Enc.t (f:=(L 1 I)) inferInstance _,Enc.t (f:=(L 1 (L 1 I))) inferInstance _,Enc.t (f:=(L 1 (L 1 (L 1 I)))) inferInstance _,trivial⟩
structure zC where
 Prime:Int
 Dim:Int
 zJ:List uk
abbrev yJ(x:zC):T:=.agg [I x.Prime,I x.Dim,(L 1 (L 1 (L 1 I))) x.zJ]
instance:Enc yJ:=.of fun _=>zNo ⟨Enc.t (f:=I) inferInstance _,Enc.t (f:=I) inferInstance _,Enc.t (f:=(L 1 (L 1 (L 1 I)))) inferInstance _,trivial⟩
structure yV where
 Kind:Int
 zTN:Int
 zTM:Int
 zRF:Int
abbrev zFe(x:yV):T:=.agg [I x.Kind,I x.zTN,I x.zTM,I x.zRF]
instance:Enc zFe:=.of fun _=>zNo ⟨Enc.t (f:=I) inferInstance _,Enc.t (f:=I) inferInstance _,Enc.t (f:=I) inferInstance _,Enc.t (f:=I) inferInstance _,trivial⟩
structure yL where
 Prime:Int
 sY:Int
 Rows:uk
abbrev zDK(x:yL):T:=.agg [I x.Prime,I x.sY,(L 1 (L 1 I)) x.Rows]
instance:Enc zDK:=.of fun _=>zNo ⟨Enc.t (f:=I) inferInstance _,Enc.t (f:=I) inferInstance _,Enc.t (f:=(L 1 (L 1 I))) inferInstance _,trivial⟩
structure zP where
 p:SPr
 m:zC
 zKA:uk
structure zF where
 x:uj
 v:uj
abbrev yS(x:zF):T:=.agg [(L 1 I) x.x,(L 1 I) x.v]
instance:Enc yS:=.of fun _=>zNo ⟨Enc.t (f:=(L 1 I)) inferInstance _,Enc.t (f:=(L 1 I)) inferInstance _,trivial⟩
def zQf(x0:uj)(x1:Int):Option Int:=
 (rng (x1-(x0.length:Int))).bind fun v1=>
 cond (decide (v1<0)) (
  ud (-1)) (
  ud v1)
def zTI(x0:uk)(s1:Int×Int):Option ((Int×Int)⊕(Int⊕Int)):=
 cond (decide (s1.2<(x0.length:Int))) (
  (ixO x0 s1.2).bind fun v2=>
  (zQf v2 s1.1).bind fun r3=>
  cond (decide (r3<0)) (
   ud (.inr (.inr (-1)))) (
   (rng (s1.2+1)).bind fun v4=>
   ud (.inl (r3,v4)))) (
  ud (.inr (.inl s1.1)))
def zNL(x0:uk)(x1:Int):Option Int:=
 (rng (x1-(x0.length:Int))).bind fun v1=>
 cond (decide (v1<0)) (
  ud (-1)) (
  (zI (zTI x0) (v1,0)).bind fun r5=>
  match r5 with
  |(.inl r5)=>
   ud r5
  |(.inr r5)=>
   ud r5)
def zTJ(x0:List uk)(s1:Int×Int):Option ((Int×Int)⊕(Int⊕Int)):=
 cond (decide (s1.2<(x0.length:Int))) (
  (ixO x0 s1.2).bind fun v2=>
  (zNL v2 s1.1).bind fun r3=>
  cond (decide (r3<0)) (
   ud (.inr (.inr (-1)))) (
   (rng (s1.2+1)).bind fun v4=>
   ud (.inl (r3,v4)))) (
  ud (.inr (.inl s1.1)))
def zS7(x0:List uk)(x1:Int):Option Int:=
 (rng (x1-(x0.length:Int))).bind fun v1=>
 cond (decide (v1<0)) (
  ud (-1)) (
  (zI (zTJ x0) (v1,0)).bind fun r5=>
  match r5 with
  |(.inl r5)=>
   ud r5
  |(.inr r5)=>
   ud r5)
def zS8(x0:SPr)(x1:Int):Option Int:=
 (zQf x0.zA x1).bind fun r1=>
 cond (decide (r1<0)) (
  ud (-1)) (
  (zNL x0.zV r1).bind fun r2=>
  cond (decide (r2<0)) (
   ud (-1)) (
   (zS7 x0.zD r2).bind fun r3=>
   cond (decide (r3<0)) (
    ud (-1)) (
    ud r3)))
def zS9(x0:zC)(x1:Int):Option Int:=
 (zS7 x0.zJ x1).bind fun r1=>
 cond (decide (r1<0)) (
  ud (-1)) (
  ud r1)
def zQg(x0:uj)(s1:(uj)×Int):Option ((uj×Int)⊕uj):=
 cond (decide (s1.2<(x0.length:Int))) (
  (ixO x0 s1.2).bind fun v2=>
  (ixO s1.1 s1.2).bind fun _=>
  (rng (s1.2+1)).bind fun v4=>
  ud (.inl (s1.1.set s1.2.toNat v2,v4))) (
  ud (.inr s1.1))
def zNM(x0:uj):Option uj:=
 (yT (x0.length:Int)).bind fun m1=>
 (zI (zQg x0) (J1 m1 (0:Int),0)).bind fun r5=>
 ud r5
def zUP(x0:uk)(s1:(uk)×Int):Option ((uk×Int)⊕uk):=
 cond (decide (s1.2<(x0.length:Int))) (
  (ixO x0 s1.2).bind fun v2=>
  (zNM v2).bind fun r3=>
  (ixO s1.1 s1.2).bind fun _=>
  (rng (s1.2+1)).bind fun v5=>
  ud (.inl (s1.1.set s1.2.toNat r3,v5))) (
  ud (.inr s1.1))
def f_r(x0:uk):Option uk:=
 (yT (x0.length:Int)).bind fun m1=>
 (zI (zUP x0) (J1 m1 ([]:uj),0)).bind fun r6=>
 ud r6
def zQh(x0:List uk)(s1:(List uk)×Int):Option (((List uk)×Int)⊕(List uk)):=
 cond (decide (s1.2<(x0.length:Int))) (
  (ixO x0 s1.2).bind fun v2=>
  (f_r v2).bind fun r3=>
  (ixO s1.1 s1.2).bind fun _=>
  (rng (s1.2+1)).bind fun v5=>
  ud (.inl (s1.1.set s1.2.toNat r3,v5))) (
  ud (.inr s1.1))
def zQi(x0:List uk):Option (List uk):=
 (yT (x0.length:Int)).bind fun m1=>
 (zI (zQh x0) (J1 m1 ([]:uk),0)).bind fun r6=>
 ud r6
def zL7(x0:SPr):Option SPr:=
 (zNM x0.zA).bind fun r1=>
 (f_r x0.zV).bind fun r2=>
 (zQi x0.zD).bind fun r3=>
 ud (SPr.mk r1 r2 r3)
def zL8(x0:zC):Option zC:=
 (zQi x0.zJ).bind fun r1=>
 ud (zC.mk x0.Prime x0.Dim r1)
def zSA(x0:Int):Option Bool:=
 cond (x0==2) (
  ud uf) (
  cond (x0==3) (
   ud uf) (
   cond (x0==5) (
    ud uf) (
    ud (x0==7))))
def zKn(x0:uj)(s1:Int×Int):Option ((Int×Int)⊕Int):=
 cond (decide (s1.2<(x0.length:Int))) (
  cond (decide (s1.1≤729)) (
   (ixO x0 s1.2).bind fun v1=>
   (rng (s1.1*v1)).bind fun v2=>
   (rng (s1.2+1)).bind fun v3=>
   ud (.inl (v2,v3))) (
   (rng (s1.2+1)).bind fun v4=>
   ud (.inl (s1.1,v4)))) (
  ud (.inr s1.1))
def zSB(x0:uj):Option Int:=
 (zI (zKn x0) (1,0)).bind fun r5=>
 ud r5
def zQj(x0:Int)(x1:Int)(x2:Int):Option Bool:=
 cond (decide (x0≥x1)) (
  ud (decide (x0≤x2))) (
  ud ug)
def zMV(x0:uj)(x1:uj)(x2:Int)(s1:Int):Option (Int⊕(Unit⊕Bool)):=
 cond (decide (s1<(x1.length:Int))) (
  (ixO x1 s1).bind fun v1=>
  (ixO x0 s1).bind fun v2=>
  (rng (v2-1)).bind fun v3=>
  (zQj v1 0 v3).bind fun r4=>
  cond (!r4) (
   ud (.inr (.inr ug))) (
   cond (decide (s1≤x2)) (
    (ixO x1 s1).bind fun v5=>
    cond (v5 != 0) (
     ud (.inr (.inr ug))) (
     (rng (s1+1)).bind fun v6=>
     ud (.inl v6))) (
    (rng (s1+1)).bind fun v5=>
    ud (.inl v5)))) (
  ud (.inr (.inl ())))
def zQk(x0:uj)(x1:uj)(x2:Int):Option Bool:=
 cond ((x1.length:Int) != (x0.length:Int)) (
  ud ug) (
  (zI (zMV x0 x1 x2) 0).bind fun r6=>
  match r6 with
  |(.inl r6)=>
   ud uf
  |(.inr r6)=>
   ud r6)
def zQl(x0:SPr)(s1:Int):Option (Int⊕(Unit⊕Bool)):=
 cond (decide (s1<(x0.zA.length:Int))) (
  (ixO x0.zA s1).bind fun v1=>
  (zSA v1).bind fun r2=>
  cond (!r2) (
   ud (.inr (.inr ug))) (
   (rng (s1+1)).bind fun v3=>
   ud (.inl v3))) (
  ud (.inr (.inl ())))
def zQm(x0:SPr)(s7:Int)(s8:Int):Option (Int⊕(Unit⊕Bool)):=
 (ixO x0.zD s7).bind fun v11=>
 cond (decide (s8<(v11.length:Int))) (
  (ixO x0.zD s7).bind fun v12=>
  (ixO v12 s8).bind fun v13=>
  (zQk x0.zA v13 s7).bind fun r14=>
  cond (!r14) (
   ud (.inr (.inr ug))) (
   (rng (s8+1)).bind fun v15=>
   ud (.inl v15))) (
  ud (.inr (.inl ())))
def zL9(x0:SPr)(s7:Int):Option (Int⊕(Unit⊕Bool)):=
 cond (decide (s7<(x0.zA.length:Int))) (
  (ixO x0.zV s7).bind fun v6=>
  (zQk x0.zA v6 s7).bind fun r7=>
  cond (!r7) (
   ud (.inr (.inr ug))) (
   (ixO x0.zD s7).bind fun v8=>
   (rng ((x0.zA.length:Int)-1)).bind fun v9=>
   (rng (v9-s7)).bind fun v10=>
   cond ((v8.length:Int) != v10) (
    ud (.inr (.inr ug))) (
    (zI (zQm x0 s7) 0).bind fun r16=>
    match r16 with
    |(.inl r16)=>
     (rng (s7+1)).bind fun v17=>
     ud (.inl v17)
    |(.inr r16)=>
     ud (.inr (.inr r16))))) (
  ud (.inr (.inl ())))
def f_t(x0:SPr):Option Bool:=
 cond (decide ((x0.zA.length:Int)> 6)) (
  ud ug) (
  cond ((x0.zV.length:Int) != (x0.zA.length:Int)) (
   ud ug) (
   cond ((x0.zD.length:Int) != (x0.zA.length:Int)) (
    ud ug) (
    (zI (zQl x0) 0).bind fun r4=>
    match r4 with
    |(.inl r4)=>
     (zSB x0.zA).bind fun r5=>
     cond (decide (r5> 729)) (
      ud ug) (
      (zI (zL9 x0) 0).bind fun r18=>
      match r18 with
      |(.inl r18)=>
       ud uf
      |(.inr r18)=>
       ud r18)
    |(.inr r4)=>
     ud r4)))
def f_o(x0:uj):Option uj:=
 (xM [] x0).bind fun v1=>
 ud v1
def zQn(g_a:SPr→Int→uj→uj→Option uj)(x0:SPr)(x1:Int)(x2:uj)(s5:(uj)×Int)(s6:(uj)×Int):Option ((uj×Int)⊕uj):=
 (ixO x2 s5.2).bind fun v3=>
 cond (decide (s6.2<v3)) (
  (rng (x1+1)).bind fun v4=>
  (ixO x0.zD x1).bind fun v5=>
  (rng (s5.2-x1)).bind fun v6=>
  (rng (v6-1)).bind fun v7=>
  (ixO v5 v7).bind fun v8=>
  (g_a x0 v4 s6.1 v8).bind fun r9=>
  (rng (s6.2+1)).bind fun v10=>
  ud (.inl (r9,v10))) (
  ud (.inr s6.1))
def zQo(g_a:SPr→Int→uj→uj→Option uj)(x0:SPr)(x1:Int)(x2:uj)(s5:(uj)×Int):Option ((uj×Int)⊕uj):=
 cond (decide (s5.2<(x0.zA.length:Int))) (
  (zI (zQn g_a x0 x1 x2 s5) (s5.1,0)).bind fun r11=>
  (rng (s5.2+1)).bind fun v12=>
  ud (.inl (r11,v12))) (
  ud (.inr s5.1))
def b_e(g_a:SPr→Int→uj→uj→Option uj)(x0:SPr)(x1:Int)(x2:uj):Option uj:=
 (yT (x0.zA.length:Int)).bind fun m1=>
 (rng (x1+1)).bind fun v2=>
 (zI (zQo g_a x0 x1 x2) (J1 m1 (0:Int),v2)).bind fun r13=>
 ud r13
def zSC(g_e:SPr→Int→uj→Option uj)(x0:SPr)(x1:Int)(x3:uj)(s1:(uj)×Int):Option ((uj×Int)⊕uj):=
 (ixO x3 x1).bind fun v6=>
 cond (decide (s1.2<v6)) (
  (g_e x0 x1 s1.1).bind fun r7=>
  (rng (s1.2+1)).bind fun v8=>
  ud (.inl (r7,v8))) (
  ud (.inr s1.1))
def b_a(g_e:SPr→Int→uj→Option uj)(g_a:SPr→Int→uj→uj→Option uj)(x0:SPr)(x1:Int)(x2:uj)(x3:uj):Option uj:=
 cond (decide (x1≥(x0.zA.length:Int))) (
  (yT (x0.zA.length:Int)).bind fun m1=>
  ud (J1 m1 (0:Int))) (
  (f_o x2).bind fun r2=>
  (f_o x3).bind fun r3=>
  (ixO r2 x1).bind fun _=>
  (ixO r3 x1).bind fun _=>
  (zI (zSC g_e x0 x1 x3) (r2.set x1.toNat 0,0)).bind fun r9=>
  (rng (x1+1)).bind fun v10=>
  (g_a x0 v10 r9 (r3.set x1.toNat 0)).bind fun r11=>
  (ixO x2 x1).bind fun v12=>
  (ixO x3 x1).bind fun v13=>
  (rng (v12+v13)).bind fun v14=>
  (ixO x0.zA x1).bind fun v15=>
  cond (decide (v14≥v15)) (
   (ixO x0.zA x1).bind fun v16=>
   (rng (v14-v16)).bind fun v17=>
   (rng (x1+1)).bind fun v18=>
   (ixO x0.zV x1).bind fun v19=>
   (g_a x0 v18 v19 r11).bind fun r20=>
   (f_o r20).bind fun r21=>
   (ixO r21 x1).bind fun _=>
   ud (r21.set x1.toNat v17)) (
   (f_o r11).bind fun r23=>
   (ixO r23 x1).bind fun _=>
   ud (r23.set x1.toNat v14)))
mutual
def zLA:Nat→SPr→Int→uj→Option uj
 |0=>fun _ _ _=>ue
 |n+1=>b_e (zLB n)
def zLB:Nat→SPr→Int→uj→uj→Option uj
 |0=>fun _ _ _ _=>ue
 |n+1=>b_a (zLA n) (zLB n)
end
def f_e(x0:SPr)(x1:Int)(x2:uj):Option uj:=zB8 fun n=>zLA n x0 x1 x2
def f_a(x0:SPr)(x1:Int)(x2:uj)(x3:uj):Option uj:=zB8 fun n=>zLB n x0 x1 x2 x3
def zNN(x0:SPr)(x1:Int)(s1:Int×uj×uj):Option ((Int×uj×uj)⊕uj):=
 cond (decide (s1.1> 0)) (
  (uK s1.1 2).bind fun v2=>
  cond (v2==1) (
   (f_a x0 x1 s1.2.1 s1.2.2).bind fun r3=>
   (f_a x0 x1 s1.2.2 s1.2.2).bind fun r4=>
   (tD s1.1 2).bind fun v5=>
   ud (.inl (v5,r3,r4))) (
   (f_a x0 x1 s1.2.2 s1.2.2).bind fun r6=>
   (tD s1.1 2).bind fun v7=>
   ud (.inl (v7,s1.2.1,r6)))) (
  ud (.inr s1.2.1))
def f_K(x0:SPr)(x1:Int)(x2:uj)(x3:Int):Option uj:=
 (yT (x0.zA.length:Int)).bind fun m1=>
 (zI (zNN x0 x1) (x3,J1 m1 (0:Int),x2)).bind fun r8=>
 ud r8
def zTK(x0:uj)(x1:uj)(s1:Int):Option (Int⊕(Unit⊕Bool)):=
 cond (decide (s1<(x0.length:Int))) (
  (ixO x0 s1).bind fun v1=>
  (ixO x1 s1).bind fun v2=>
  cond (v1 != v2) (
   ud (.inr (.inr ug))) (
   (rng (s1+1)).bind fun v3=>
   ud (.inl v3))) (
  ud (.inr (.inl ())))
def zI7(x0:uj)(x1:uj):Option Bool:=
 cond ((x0.length:Int) != (x1.length:Int)) (
  ud ug) (
  (zI (zTK x0 x1) 0).bind fun r4=>
  match r4 with
  |(.inl r4)=>
   ud uf
  |(.inr r4)=>
   ud r4)
def zKo(x0:Int)(x1:Int):Option uj:=
 (yT x0).bind fun m1=>
 (ixO (J1 m1 (0:Int)) x1).bind fun _=>
 ud ((J1 m1 (0:Int)).set x1.toNat 1)
def zQp(x0:SPr)(x1:Int)(s1:Int):Option (Int⊕(Unit⊕yV)):=
 cond (decide (s1<(x0.zA.length:Int))) (
  (rng (x1+1)).bind fun v2=>
  (ixO x0.zD x1).bind fun v3=>
  (rng (s1-x1)).bind fun v4=>
  (rng (v4-1)).bind fun v5=>
  (ixO v3 v5).bind fun v6=>
  (ixO x0.zA s1).bind fun v7=>
  (f_K x0 v2 v6 v7).bind fun r8=>
  (ixO x0.zV s1).bind fun v9=>
  (f_e x0 x1 v9).bind fun r10=>
  (zI7 r8 r10).bind fun r11=>
  cond (!r11) (
   ud (.inr (.inr (yV.mk 1 x1 s1 0)))) (
   (rng (s1+1)).bind fun v12=>
   ud (.inl v12))) (
  ud (.inr (.inl ())))
def zQq(x0:SPr)(x1:Int)(s7:Int)(s8:Int):Option (Int⊕(Unit⊕yV)):=
 cond (decide (s8<(x0.zA.length:Int))) (
  (ixO x0.zD x1).bind fun v16=>
  (rng (s7-x1)).bind fun v17=>
  (rng (v17-1)).bind fun v18=>
  (ixO v16 v18).bind fun v19=>
  (ixO x0.zD x1).bind fun v20=>
  (rng (s8-x1)).bind fun v21=>
  (rng (v21-1)).bind fun v22=>
  (ixO v20 v22).bind fun v23=>
  (ixO x0.zD s7).bind fun v24=>
  (rng (s8-s7)).bind fun v25=>
  (rng (v25-1)).bind fun v26=>
  (ixO v24 v26).bind fun v27=>
  (f_e x0 x1 v27).bind fun r28=>
  (rng (x1+1)).bind fun v29=>
  (f_a x0 v29 v23 v19).bind fun r30=>
  (rng (x1+1)).bind fun v31=>
  (f_a x0 v31 v19 r28).bind fun r32=>
  (zI7 r30 r32).bind fun r33=>
  cond (!r33) (
   ud (.inr (.inr (yV.mk 2 x1 s7 s8)))) (
   (rng (s8+1)).bind fun v34=>
   ud (.inl v34))) (
  ud (.inr (.inl ())))
def zQr(x0:SPr)(x1:Int)(s7:Int):Option (Int⊕(Unit⊕yV)):=
 cond (decide (s7<(x0.zA.length:Int))) (
  (rng (s7+1)).bind fun v15=>
  (zI (zQq x0 x1 s7) v15).bind fun r35=>
  match r35 with
  |(.inl r35)=>
   (rng (s7+1)).bind fun v36=>
   ud (.inl v36)
  |(.inr r35)=>
   ud (.inr (.inr r35))) (
  ud (.inr (.inl ())))
def zQs(x0:SPr)(x1:Int)(s16:(uj)×Int):Option ((uj×Int)⊕uj):=
 (ixO x0.zA x1).bind fun v43=>
 cond (decide (s16.2<v43)) (
  (f_e x0 x1 s16.1).bind fun r44=>
  (rng (s16.2+1)).bind fun v45=>
  ud (.inl (r44,v45))) (
  ud (.inr s16.1))
def zQt(x0:SPr)(x1:Int)(v38:uj)(s15:Int):Option (Int⊕(Unit⊕yV)):=
 cond (decide (s15<(x0.zA.length:Int))) (
  (zKo (x0.zA.length:Int) s15).bind fun r42=>
  (zI (zQs x0 x1) (r42,0)).bind fun r46=>
  (rng (x1+1)).bind fun v47=>
  (f_a x0 v47 v38 r46).bind fun r48=>
  (rng (x1+1)).bind fun v49=>
  (f_a x0 v49 r42 v38).bind fun r50=>
  (zI7 r48 r50).bind fun r51=>
  cond (!r51) (
   ud (.inr (.inr (yV.mk 4 x1 s15 0)))) (
   (rng (s15+1)).bind fun v52=>
   ud (.inl v52))) (
  ud (.inr (.inl ())))
def f_l(x0:SPr)(x1:Int):Option yV:=
 (rng (x1+1)).bind fun v1=>
 (zI (zQp x0 x1) v1).bind fun r13=>
 match r13 with
 |(.inl r13)=>
  (rng (x1+1)).bind fun v14=>
  (zI (zQr x0 x1) v14).bind fun r37=>
  match r37 with
  |(.inl r37)=>
   (ixO x0.zV x1).bind fun v38=>
   (f_e x0 x1 v38).bind fun r39=>
   (zI7 r39 v38).bind fun r40=>
   cond (!r40) (
    ud (yV.mk 3 x1 0 0)) (
    (rng (x1+1)).bind fun v41=>
    (zI (zQt x0 x1 v38) v41).bind fun r53=>
    match r53 with
    |(.inl r53)=>
     ud (yV.mk 0 0 0 0)
    |(.inr r53)=>
     ud r53)
  |(.inr r37)=>
   ud r37
 |(.inr r13)=>
  ud r13
def zKp(x0:SPr)(s1:Int):Option (Int⊕(Unit⊕yV)):=
 cond (decide (s1≥0)) (
  (f_l x0 s1).bind fun r2=>
  cond (r2.Kind != 0) (
   ud (.inr (.inr r2))) (
   (rng (s1-1)).bind fun v3=>
   ud (.inl v3))) (
  ud (.inr (.inl ())))
def zUQ(x0:SPr):Option yV:=
 (rng ((x0.zA.length:Int)-1)).bind fun v1=>
 (zI (zKp x0) v1).bind fun r4=>
 match r4 with
 |(.inl r4)=>
  ud (yV.mk 0 0 0 0)
 |(.inr r4)=>
  ud r4
def zUR(x0:SPr):Option Bool:=
 (zUQ x0).bind fun r1=>
 ud (r1.Kind==0)
def zSD(x0:SPr):Option Bool:=
 (f_t x0).bind fun r1=>
 cond r1 (
  (zUR x0).bind fun r2=>
  ud r2) (
  ud ug)
def zMW(x0:Int)(x2:uj)(s1:Int):Option (Int⊕(Unit⊕Bool)):=
 cond (decide (s1<(x2.length:Int))) (
  (ixO x2 s1).bind fun v1=>
  (rng (x0-1)).bind fun v2=>
  (zQj v1 0 v2).bind fun r3=>
  cond (!r3) (
   ud (.inr (.inr ug))) (
   (rng (s1+1)).bind fun v4=>
   ud (.inl v4))) (
  ud (.inr (.inl ())))
def zQu(x0:Int)(x1:Int)(x2:uj):Option Bool:=
 cond ((x2.length:Int) != x1) (
  ud ug) (
  (zI (zMW x0 x2) 0).bind fun r5=>
  match r5 with
  |(.inl r5)=>
   ud uf
  |(.inr r5)=>
   ud r5)
def zMX(x0:Int)(x1:Int)(x2:uk)(s1:Int):Option (Int⊕(Unit⊕Bool)):=
 cond (decide (s1<(x2.length:Int))) (
  (ixO x2 s1).bind fun v1=>
  (zQu x0 x1 v1).bind fun r2=>
  cond (!r2) (
   ud (.inr (.inr ug))) (
   (rng (s1+1)).bind fun v3=>
   ud (.inl v3))) (
  ud (.inr (.inl ())))
def zSE(x0:Int)(x1:Int)(x2:uk):Option Bool:=
 cond ((x2.length:Int) != x1) (
  ud ug) (
  (zI (zMX x0 x1 x2) 0).bind fun r4=>
  match r4 with
  |(.inl r4)=>
   ud uf
  |(.inr r4)=>
   ud r4)
def zKq(x0:Int)(s1:(uk)×Int):Option ((uk×Int)⊕uk):=
 cond (decide (s1.2<x0)) (
  (yT x0).bind fun m1=>
  (ixO (J1 m1 (0:Int)) s1.2).bind fun _=>
  (xM s1.1 [(J1 m1 (0:Int)).set s1.2.toNat 1]).bind fun v3=>
  (rng (s1.2+1)).bind fun v4=>
  ud (.inl (v3,v4))) (
  ud (.inr s1.1))
def zQv(x0:Int):Option uk:=
 (zI (zKq x0) ([],0)).bind fun r5=>
 ud r5
def zQw(x0:Int)(x1:uj)(x2:uk)(s5:(uj)×Int)(s6:(uj)×Int):Option ((uj×Int)⊕uj):=
 cond (decide (s6.2<(s6.1.length:Int))) (
  (ixO x2 s5.2).bind fun v2=>
  cond (decide (s6.2<(v2.length:Int))) (
   (ixO s6.1 s6.2).bind fun v3=>
   (ixO x1 s5.2).bind fun v4=>
   (ixO x2 s5.2).bind fun v5=>
   (ixO v5 s6.2).bind fun v6=>
   (rng (v4*v6)).bind fun v7=>
   (rng (v3+v7)).bind fun v8=>
   (uK v8 x0).bind fun v9=>
   (ixO s6.1 s6.2).bind fun _=>
   (rng (s6.2+1)).bind fun v11=>
   ud (.inl (s6.1.set s6.2.toNat v9,v11))) (
   ud (.inr s6.1))) (
  ud (.inr s6.1))
def zQx(x0:Int)(x1:uj)(x2:uk)(s5:(uj)×Int):Option ((uj×Int)⊕uj):=
 cond (decide (s5.2<(x1.length:Int))) (
  cond (decide (s5.2<(x2.length:Int))) (
   (zI (zQw x0 x1 x2 s5) (s5.1,0)).bind fun r12=>
   (rng (s5.2+1)).bind fun v13=>
   ud (.inl (r12,v13))) (
   ud (.inr s5.1))) (
  ud (.inr s5.1))
def f_I(x0:Int)(x1:uj)(x2:uk)(x3:Int):Option uj:=
 (yT x3).bind fun m1=>
 (zI (zQx x0 x1 x2) (J1 m1 (0:Int),0)).bind fun r14=>
 ud r14
def zKr(x0:Int)(x1:uk)(x2:uk)(x3:Int)(s1:(uk)×Int):Option ((uk×Int)⊕uk):=
 cond (decide (s1.2<(x1.length:Int))) (
  (ixO x1 s1.2).bind fun v1=>
  (f_I x0 v1 x2 x3).bind fun r2=>
  (xM s1.1 [r2]).bind fun v3=>
  (rng (s1.2+1)).bind fun v4=>
  ud (.inl (v3,v4))) (
  ud (.inr s1.1))
def zLC(x0:Int)(x1:uk)(x2:uk)(x3:Int):Option uk:=
 (zI (zKr x0 x1 x2 x3) ([],0)).bind fun r5=>
 ud r5
def zQy(x0:zC)(x1:uj)(s5:(uk)×Int)(s6:(uk)×Int):Option ((uk×Int)⊕uk):=
 (ixO x1 s5.2).bind fun v2=>
 cond (decide (s6.2<v2)) (
  (ixO x0.zJ s5.2).bind fun v3=>
  (zLC x0.Prime s6.1 v3 x0.Dim).bind fun r4=>
  (rng (s6.2+1)).bind fun v5=>
  ud (.inl (r4,v5))) (
  ud (.inr s6.1))
def zQz(x0:zC)(x1:uj)(s5:(uk)×Int):Option ((uk×Int)⊕uk):=
 cond (decide (s5.2<(x1.length:Int))) (
  (zI (zQy x0 x1 s5) (s5.1,0)).bind fun r6=>
  (rng (s5.2+1)).bind fun v7=>
  ud (.inl (r6,v7))) (
  ud (.inr s5.1))
def f_L(x0:zC)(x1:uj):Option uk:=
 (zQv x0.Dim).bind fun r1=>
 (zI (zQz x0 x1) (r1,0)).bind fun r8=>
 ud r8
def zQ0(x0:uk)(x1:uk)(s1:Int):Option (Int⊕(Unit⊕Bool)):=
 cond (decide (s1<(x0.length:Int))) (
  (ixO x0 s1).bind fun v1=>
  (ixO x1 s1).bind fun v2=>
  (zI7 v1 v2).bind fun r3=>
  cond (!r3) (
   ud (.inr (.inr ug))) (
   (rng (s1+1)).bind fun v4=>
   ud (.inl v4))) (
  ud (.inr (.inl ())))
def zSF(x0:uk)(x1:uk):Option Bool:=
 cond ((x0.length:Int) != (x1.length:Int)) (
  ud ug) (
  (zI (zQ0 x0 x1) 0).bind fun r5=>
  match r5 with
  |(.inl r5)=>
   ud uf
  |(.inr r5)=>
   ud r5)
def zQ1(x0:SPr)(x1:zC)(s1:Int):Option (Int⊕(Unit⊕Bool)):=
 cond (decide (s1<(x0.zA.length:Int))) (
  (ixO x1.zJ s1).bind fun v3=>
  (zSE x1.Prime x1.Dim v3).bind fun r4=>
  cond (!r4) (
   ud (.inr (.inr ug))) (
   (rng (s1+1)).bind fun v5=>
   ud (.inl v5))) (
  ud (.inr (.inl ())))
def zQ2(x0:SPr)(x1:zC)(s11:Int)(s12:(uk)×Int):Option ((uk×Int)⊕uk):=
 (ixO x0.zA s11).bind fun v8=>
 cond (decide (s12.2<v8)) (
  (ixO x1.zJ s11).bind fun v9=>
  (zLC x1.Prime s12.1 v9 x1.Dim).bind fun r10=>
  (rng (s12.2+1)).bind fun v11=>
  ud (.inl (r10,v11))) (
  ud (.inr s12.1))
def zQ3(x0:SPr)(x1:zC)(s11:Int)(s14:Int):Option (Int⊕(Unit⊕Bool)):=
 cond (decide (s14<(x0.zA.length:Int))) (
  (ixO x1.zJ s14).bind fun v17=>
  (ixO x1.zJ s11).bind fun v18=>
  (zLC x1.Prime v17 v18 x1.Dim).bind fun r19=>
  (ixO x1.zJ s11).bind fun v20=>
  (ixO x0.zD s11).bind fun v21=>
  (rng (s14-s11)).bind fun v22=>
  (rng (v22-1)).bind fun v23=>
  (ixO v21 v23).bind fun v24=>
  (f_L x1 v24).bind fun r25=>
  (zLC x1.Prime v20 r25 x1.Dim).bind fun r26=>
  (zSF r19 r26).bind fun r27=>
  cond (!r27) (
   ud (.inr (.inr ug))) (
   (rng (s14+1)).bind fun v28=>
   ud (.inl v28))) (
  ud (.inr (.inl ())))
def zQ4(x0:SPr)(x1:zC)(s11:Int):Option (Int⊕(Unit⊕Bool)):=
 cond (decide (s11<(x0.zA.length:Int))) (
  (zQv x1.Dim).bind fun r7=>
  (zI (zQ2 x0 x1 s11) (r7,0)).bind fun r12=>
  (ixO x0.zV s11).bind fun v13=>
  (f_L x1 v13).bind fun r14=>
  (zSF r12 r14).bind fun r15=>
  cond (!r15) (
   ud (.inr (.inr ug))) (
   (rng (s11+1)).bind fun v16=>
   (zI (zQ3 x0 x1 s11) v16).bind fun r29=>
   match r29 with
   |(.inl r29)=>
    (rng (s11+1)).bind fun v30=>
    ud (.inl v30)
   |(.inr r29)=>
    ud (.inr (.inr r29)))) (
  ud (.inr (.inl ())))
def f_p(x0:SPr)(x1:zC):Option Bool:=
 (zSA x1.Prime).bind fun r1=>
 cond (!r1) (
  ud ug) (
  (zQj x1.Dim 1 3).bind fun r2=>
  cond (!r2) (
   ud ug) (
   cond ((x1.zJ.length:Int) != (x0.zA.length:Int)) (
    ud ug) (
    (zI (zQ1 x0 x1) 0).bind fun r6=>
    match r6 with
    |(.inl r6)=>
     (zI (zQ4 x0 x1) 0).bind fun r31=>
     match r31 with
     |(.inl r31)=>
      ud uf
     |(.inr r31)=>
      ud r31
    |(.inr r6)=>
     ud r6)))
def zQ5(x0:SPr)(x1:zC):Option Bool:=
 (zSD x0).bind fun r1=>
 cond r1 (
  (f_p x0 x1).bind fun r2=>
  ud r2) (
  ud ug)
def zNO(x0:Int):Option Bool:=
 cond (x0==2) (
  ud uf) (
  cond (x0==3) (
   ud uf) (
   cond (x0==5) (
    ud uf) (
    ud (x0==7))))
def zLD(x0:Int)(x1:Int)(x2:Int):Option Bool:=
 cond (decide (x0≥x1)) (
  ud (decide (x0≤x2))) (
  ud ug)
def zMY(x0:SPr)(x1:uj)(s1:Int):Option (Int⊕(Unit⊕Bool)):=
 cond (decide (s1<(x1.length:Int))) (
  (ixO x1 s1).bind fun v1=>
  (ixO x0.zA s1).bind fun v2=>
  (rng (v2-1)).bind fun v3=>
  (zLD v1 0 v3).bind fun r4=>
  cond (!r4) (
   ud (.inr (.inr ug))) (
   (rng (s1+1)).bind fun v5=>
   ud (.inl v5))) (
  ud (.inr (.inl ())))
def zSG(x0:SPr)(x1:uj):Option Bool:=
 cond ((x1.length:Int) != (x0.zA.length:Int)) (
  ud ug) (
  (zI (zMY x0 x1) 0).bind fun r6=>
  match r6 with
  |(.inl r6)=>
   ud uf
  |(.inr r6)=>
   ud r6)
def zNP(x0:uj)(s1:Int):Option (Int⊕(Unit⊕Bool)):=
 cond (decide (s1<(x0.length:Int))) (
  (ixO x0 s1).bind fun v1=>
  cond (v1 != 0) (
   ud (.inr (.inr ug))) (
   (rng (s1+1)).bind fun v2=>
   ud (.inl v2))) (
  ud (.inr (.inl ())))
def f_Y(x0:uj):Option Bool:=
 (zI (zNP x0) 0).bind fun r3=>
 match r3 with
 |(.inl r3)=>
  ud uf
 |(.inr r3)=>
  ud r3
def zQ6(x0:SPr)(x1:Int)(x2:uj):Option Bool:=
 (zSG x0 x2).bind fun r1=>
 cond r1 (
  (rng (x1+1)).bind fun v2=>
  (yB x2 0 v2).bind fun v3=>
  (f_Y v3).bind fun r4=>
  ud r4) (
  ud ug)
def zLE(x0:SPr)(s1:Int×Int):Option ((Int×Int)⊕(Unit⊕Bool)):=
 cond (decide (s1.2<(x0.zA.length:Int))) (
  (ixO x0.zA s1.2).bind fun v1=>
  (zNO v1).bind fun r2=>
  cond (!r2) (
   ud (.inr (.inr ug))) (
   (rng (s1.1*v1)).bind fun v3=>
   cond (decide (v3> 729)) (
    ud (.inr (.inr ug))) (
    (rng (s1.1*v1)).bind fun v4=>
    (rng (s1.2+1)).bind fun v5=>
    ud (.inl (v4,v5))))) (
  ud (.inr (.inl ())))
def zQ7(x0:SPr)(s7:Int)(v12:uk)(s8:Int):Option (Int⊕(Unit⊕Bool)):=
 cond (decide (s8<(v12.length:Int))) (
  (ixO v12 s8).bind fun v13=>
  (zQ6 x0 s7 v13).bind fun r14=>
  cond (!r14) (
   ud (.inr (.inr ug))) (
   (rng (s8+1)).bind fun v15=>
   ud (.inl v15))) (
  ud (.inr (.inl ())))
def zLF(x0:SPr)(s7:Int):Option (Int⊕(Unit⊕Bool)):=
 cond (decide (s7<(x0.zA.length:Int))) (
  (ixO x0.zV s7).bind fun v7=>
  (zQ6 x0 s7 v7).bind fun r8=>
  cond (!r8) (
   ud (.inr (.inr ug))) (
   (ixO x0.zD s7).bind fun v9=>
   (rng ((x0.zA.length:Int)-1)).bind fun v10=>
   (rng (v10-s7)).bind fun v11=>
   cond ((v9.length:Int) != v11) (
    ud (.inr (.inr ug))) (
    (ixO x0.zD s7).bind fun v12=>
    (zI (zQ7 x0 s7 v12) 0).bind fun r16=>
    match r16 with
    |(.inl r16)=>
     (rng (s7+1)).bind fun v17=>
     ud (.inl v17)
    |(.inr r16)=>
     ud (.inr (.inr r16))))) (
  ud (.inr (.inl ())))
def f_n(x0:SPr):Option Bool:=
 cond (decide ((x0.zA.length:Int)> 6)) (
  ud ug) (
  cond ((x0.zV.length:Int) != (x0.zA.length:Int)) (
   ud ug) (
   cond ((x0.zD.length:Int) != (x0.zA.length:Int)) (
    ud ug) (
    (zI (zLE x0) (1,0)).bind fun r6=>
    match r6 with
    |(.inl r6)=>
     (zI (zLF x0) 0).bind fun r18=>
     match r18 with
     |(.inl r18)=>
      ud uf
     |(.inr r18)=>
      ud r18
    |(.inr r6)=>
     ud r6)))
def f_D(x0:uj):Option uj:=
 (xM [] x0).bind fun v2=>
 ud v2
def zQ8(x2:Int)(r3:(uj))(s1:(uj)×Int):Option ((uj×Int)⊕uj):=
 cond (decide (s1.2<(r3.length:Int))) (
  (rng (x2+1)).bind fun v4=>
  (rng (v4+s1.2)).bind fun v5=>
  (ixO s1.1 v5).bind fun _=>
  (rng (s1.2+1)).bind fun v7=>
  ud (.inl (s1.1.set v5.toNat 0,v7))) (
  ud (.inr s1.1))
def zUS(g_b:SPr→uj→uj→Option uj)(x0:SPr)(x2:Int)(s7:(uj)×Int)(v17:Int)(s8:(uj)×Int):Option ((uj×Int)⊕uj):=
 cond (decide (s8.2<v17)) (
  (ixO x0.zD x2).bind fun v18=>
  (ixO v18 s7.2).bind fun v19=>
  (g_b x0 s8.1 v19).bind fun r20=>
  (rng (s8.2+1)).bind fun v21=>
  ud (.inl (r20,v21))) (
  ud (.inr s8.1))
def zUT(g_b:SPr→uj→uj→Option uj)(x0:SPr)(x2:Int)(r3:(uj))(s7:(uj)×Int):Option ((uj×Int)⊕uj):=
 cond (decide (s7.2<(r3.length:Int))) (
  (ixO r3 s7.2).bind fun v17=>
  (zI (zUS g_b x0 x2 s7 v17) (s7.1,0)).bind fun r22=>
  (rng (s7.2+1)).bind fun v23=>
  ud (.inl (r22,v23))) (
  ud (.inr s7.1))
def zUU(g_b:SPr→uj→uj→Option uj)(x0:SPr)(x2:Int)(s15:(uj)×Int)(v25:Int)(s16:(uj)×Int):Option ((uj×Int)⊕uj):=
 cond (decide (s16.2<v25)) (
  (ixO x0.zD x2).bind fun v26=>
  (ixO v26 s15.2).bind fun v27=>
  (g_b x0 s16.1 v27).bind fun r28=>
  (rng (s16.2+1)).bind fun v29=>
  ud (.inl (r28,v29))) (
  ud (.inr s16.1))
def zUV(g_b:SPr→uj→uj→Option uj)(x0:SPr)(x2:Int)(r3:(uj))(s15:(uj)×Int):Option ((uj×Int)⊕uj):=
 cond (decide (s15.2<(r3.length:Int))) (
  (ixO r3 s15.2).bind fun v25=>
  (zI (zUU g_b x0 x2 s15 v25) (s15.1,0)).bind fun r30=>
  (rng (s15.2+1)).bind fun v31=>
  ud (.inl (r30,v31))) (
  ud (.inr s15.1))
def b_c(g_b:SPr→uj→uj→Option uj)(x0:SPr)(x1:uj)(x2:Int):Option uj:=
 (rng (x2+1)).bind fun v1=>
 (yB x1 v1 x1.length).bind fun v2=>
 (f_D v2).bind fun r3=>
 (zI (zQ8 x2 r3) (x1,0)).bind fun r8=>
 (ixO r8 x2).bind fun v9=>
 (rng (v9+1)).bind fun v10=>
 (ixO r8 x2).bind fun _=>
 (ixO (r8.set x2.toNat v10) x2).bind fun v12=>
 (ixO x0.zA x2).bind fun v13=>
 cond (v12==v13) (
  (ixO (r8.set x2.toNat v10) x2).bind fun _=>
  (ixO x0.zV x2).bind fun v15=>
  (g_b x0 ((r8.set x2.toNat v10).set x2.toNat 0) v15).bind fun r16=>
  (zI (zUT g_b x0 x2 r3) (r16,0)).bind fun r24=>
  ud r24) (
  (zI (zUV g_b x0 x2 r3) (r8.set x2.toNat v10,0)).bind fun r32=>
  ud r32)
def zQ9(g_c:SPr→uj→Int→Option uj)(x0:SPr)(s5:(uj)×Int)(v1:Int)(s6:(uj)×Int):Option ((uj×Int)⊕uj):=
 cond (decide (s6.2<v1)) (
  (g_c x0 s6.1 s5.2).bind fun r2=>
  (rng (s6.2+1)).bind fun v3=>
  ud (.inl (r2,v3))) (
  ud (.inr s6.1))
def zQA(g_c:SPr→uj→Int→Option uj)(x0:SPr)(x2:uj)(s5:(uj)×Int):Option ((uj×Int)⊕uj):=
 cond (decide (s5.2<(x2.length:Int))) (
  (ixO x2 s5.2).bind fun v1=>
  (zI (zQ9 g_c x0 s5 v1) (s5.1,0)).bind fun r4=>
  (rng (s5.2+1)).bind fun v5=>
  ud (.inl (r4,v5))) (
  ud (.inr s5.1))
def b_b(g_c:SPr→uj→Int→Option uj)(x0:SPr)(x1:uj)(x2:uj):Option uj:=
 (zI (zQA g_c x0 x2) (x1,0)).bind fun r6=>
 ud r6
mutual
def zQB:Nat→SPr→uj→Int→Option uj
 |0=>fun _ _ _=>ue
 |n+1=>b_c (zNQ n)
def zNQ:Nat→SPr→uj→uj→Option uj
 |0=>fun _ _ _=>ue
 |n+1=>b_b (zQB n)
end
def f_c(x0:SPr)(x1:uj)(x2:Int):Option uj:=zB8 fun n=>zQB n x0 x1 x2
def f_b(x0:SPr)(x1:uj)(x2:uj):Option uj:=zB8 fun n=>zNQ n x0 x1 x2
def zQC(x0:SPr)(x1:uj)(x2:Int)(s1:(uj)×Int):Option ((uj×Int)⊕uj):=
 cond (decide (s1.2<x2)) (
  (f_b x0 s1.1 x1).bind fun r2=>
  (rng (s1.2+1)).bind fun v3=>
  ud (.inl (r2,v3))) (
  ud (.inr s1.1))
def f_E(x0:SPr)(x1:uj)(x2:Int):Option uj:=
 (yT (x1.length:Int)).bind fun m1=>
 (zI (zQC x0 x1 x2) (J1 m1 (0:Int),0)).bind fun r4=>
 ud r4
def zQD(x0:SPr)(v3:uj)(v6:Int)(s6:(uj)×Int):Option ((uj×Int)⊕uj):=
 cond (decide (s6.2<v6)) (
  (f_b x0 s6.1 v3).bind fun r7=>
  (rng (s6.2+1)).bind fun v8=>
  ud (.inl (r7,v8))) (
  ud (.inr s6.1))
def zQE(x0:SPr)(x1:Int)(x2:uj)(v2:uk)(s5:(uj)×Int):Option ((uj×Int)⊕uj):=
 cond (decide (s5.2<(v2.length:Int))) (
  (ixO v2 s5.2).bind fun v3=>
  (rng (x1+1)).bind fun v4=>
  (rng (v4+s5.2)).bind fun v5=>
  (ixO x2 v5).bind fun v6=>
  (zI (zQD x0 v3 v6) (s5.1,0)).bind fun r9=>
  (rng (s5.2+1)).bind fun v10=>
  ud (.inl (r9,v10))) (
  ud (.inr s5.1))
def f_G(x0:SPr)(x1:Int)(x2:uj):Option uj:=
 (yT (x2.length:Int)).bind fun m1=>
 (ixO x0.zD x1).bind fun v2=>
 (zI (zQE x0 x1 x2 v2) (J1 m1 (0:Int),0)).bind fun r11=>
 ud r11
def zUW(x0:uj)(x1:uj)(s1:Int):Option (Int⊕(Unit⊕Bool)):=
 cond (decide (s1<(x0.length:Int))) (
  (ixO x0 s1).bind fun v1=>
  (ixO x1 s1).bind fun v2=>
  cond (v1 != v2) (
   ud (.inr (.inr ug))) (
   (rng (s1+1)).bind fun v3=>
   ud (.inl v3))) (
  ud (.inr (.inl ())))
def f_Z(x0:uj)(x1:uj):Option Bool:=
 cond ((x0.length:Int) != (x1.length:Int)) (
  ud ug) (
  (zI (zUW x0 x1) 0).bind fun r4=>
  match r4 with
  |(.inl r4)=>
   ud uf
  |(.inr r4)=>
   ud r4)
def zNR(x0:SPr)(s5:(uj)×uj×Int)(s6:(uj)×uj):Option ((uj×uj)⊕(uj×uj)):=
 (ixO s6.1 s5.2.2).bind fun v3=>
 cond (v3 != 0) (
  (f_c x0 s6.1 s5.2.2).bind fun r4=>
  (f_c x0 s6.2 s5.2.2).bind fun r5=>
  ud (.inl (r4,r5))) (
  ud (.inr (s6.1,s6.2)))
def zQF(x0:SPr)(r1:(uj))(s5:(uj)×uj×Int):Option ((uj×uj×Int)⊕uj):=
 cond (decide (s5.2.2<(r1.length:Int))) (
  (zI (zNR x0 s5) (s5.1,s5.2.1)).bind fun r6=>
  (rng (s5.2.2+1)).bind fun v7=>
  ud (.inl (r6.1,r6.2,v7))) (
  ud (.inr s5.2.1))
def f_F(x0:SPr)(x1:uj):Option uj:=
 (f_D x1).bind fun r1=>
 (yT (x1.length:Int)).bind fun m2=>
 (zI (zQF x0 r1) (r1,J1 m2 (0:Int),0)).bind fun r8=>
 ud r8
def zI8(x0:SPr)(x1:uj)(x2:uj):Option uj:=
 (f_D x1).bind fun r1=>
 (f_b x0 r1 x2).bind fun r2=>
 ud r2
def zNS(x0:SPr)(x1:uj)(x2:uj):Option uj:=
 (f_F x0 x2).bind fun r1=>
 (zI8 x0 x1 x2).bind fun r2=>
 (zI8 x0 r1 r2).bind fun r3=>
 ud r3
def zI9(x0:Int)(x1:Int):Option uj:=
 (yT x0).bind fun m1=>
 (ixO (J1 m1 (0:Int)) x1).bind fun _=>
 ud ((J1 m1 (0:Int)).set x1.toNat 1)
def zQG(x0:SPr)(x1:Int)(s1:Int):Option (Int⊕(Unit⊕yV)):=
 cond (decide (s1<(x0.zA.length:Int))) (
  (ixO x0.zD x1).bind fun v2=>
  (rng (s1-x1)).bind fun v3=>
  (rng (v3-1)).bind fun v4=>
  (ixO v2 v4).bind fun v5=>
  (ixO x0.zA s1).bind fun v6=>
  (f_E x0 v5 v6).bind fun r7=>
  (ixO x0.zV s1).bind fun v8=>
  (f_G x0 x1 v8).bind fun r9=>
  (f_Z r7 r9).bind fun r10=>
  cond (!r10) (
   ud (.inr (.inr (yV.mk 1 x1 s1 0)))) (
   (rng (s1+1)).bind fun v11=>
   ud (.inl v11))) (
  ud (.inr (.inl ())))
def zQH(x0:SPr)(x1:Int)(s7:Int)(s8:Int):Option (Int⊕(Unit⊕yV)):=
 cond (decide (s8<(x0.zA.length:Int))) (
  (ixO x0.zD x1).bind fun v15=>
  (rng (s8-x1)).bind fun v16=>
  (rng (v16-1)).bind fun v17=>
  (ixO v15 v17).bind fun v18=>
  (ixO x0.zD x1).bind fun v19=>
  (rng (s7-x1)).bind fun v20=>
  (rng (v20-1)).bind fun v21=>
  (ixO v19 v21).bind fun v22=>
  (zNS x0 v18 v22).bind fun r23=>
  (ixO x0.zD s7).bind fun v24=>
  (rng (s8-s7)).bind fun v25=>
  (rng (v25-1)).bind fun v26=>
  (ixO v24 v26).bind fun v27=>
  (f_G x0 x1 v27).bind fun r28=>
  (f_Z r23 r28).bind fun r29=>
  cond (!r29) (
   ud (.inr (.inr (yV.mk 2 x1 s7 s8)))) (
   (rng (s8+1)).bind fun v30=>
   ud (.inl v30))) (
  ud (.inr (.inl ())))
def zQI(x0:SPr)(x1:Int)(s7:Int):Option (Int⊕(Unit⊕yV)):=
 cond (decide (s7<(x0.zA.length:Int))) (
  (rng (s7+1)).bind fun v14=>
  (zI (zQH x0 x1 s7) v14).bind fun r31=>
  match r31 with
  |(.inl r31)=>
   (rng (s7+1)).bind fun v32=>
   ud (.inl v32)
  |(.inr r31)=>
   ud (.inr (.inr r31))) (
  ud (.inr (.inl ())))
def zQJ(x0:SPr)(x1:Int)(v39:Int)(s16:(uj)×Int):Option ((uj×Int)⊕uj):=
 cond (decide (s16.2<v39)) (
  (f_G x0 x1 s16.1).bind fun r40=>
  (rng (s16.2+1)).bind fun v41=>
  ud (.inl (r40,v41))) (
  ud (.inr s16.1))
def zQK(x0:SPr)(x1:Int)(v34:uj)(s15:Int):Option (Int⊕(Unit⊕yV)):=
 cond (decide (s15<(x0.zA.length:Int))) (
  (zI9 (x0.zA.length:Int) s15).bind fun r38=>
  (ixO x0.zA x1).bind fun v39=>
  (zI (zQJ x0 x1 v39) (r38,0)).bind fun r42=>
  (zI9 (x0.zA.length:Int) s15).bind fun r43=>
  (zNS x0 r43 v34).bind fun r44=>
  (f_Z r42 r44).bind fun r45=>
  cond (!r45) (
   ud (.inr (.inr (yV.mk 4 x1 s15 0)))) (
   (rng (s15+1)).bind fun v46=>
   ud (.inl v46))) (
  ud (.inr (.inl ())))
def f_k(x0:SPr)(x1:Int):Option yV:=
 (rng (x1+1)).bind fun v1=>
 (zI (zQG x0 x1) v1).bind fun r12=>
 match r12 with
 |(.inl r12)=>
  (rng (x1+1)).bind fun v13=>
  (zI (zQI x0 x1) v13).bind fun r33=>
  match r33 with
  |(.inl r33)=>
   (ixO x0.zV x1).bind fun v34=>
   (f_G x0 x1 v34).bind fun r35=>
   (f_Z r35 v34).bind fun r36=>
   cond (!r36) (
    ud (yV.mk 3 x1 0 0)) (
    (rng (x1+1)).bind fun v37=>
    (zI (zQK x0 x1 v34) v37).bind fun r47=>
    match r47 with
    |(.inl r47)=>
     ud (yV.mk 0 0 0 0)
    |(.inr r47)=>
     ud r47)
  |(.inr r33)=>
   ud r33
 |(.inr r12)=>
  ud r12
def zKs(x0:SPr)(s1:Int):Option (Int⊕Int):=
 cond (decide (s1> 0)) (
  (rng (s1-1)).bind fun v1=>
  (f_k x0 v1).bind fun r2=>
  cond (r2.Kind==0&&(r2.zTN==0&&(r2.zTM==0&&r2.zRF==0))) (
   (rng (s1-1)).bind fun v3=>
   ud (.inl v3)) (
   ud (.inr s1))) (
  ud (.inr s1))
def f_S(x0:SPr):Option Int:=
 (zI (zKs x0) (x0.zA.length:Int)).bind fun r4=>
 ud r4
def zSH(x0:SPr):Option Bool:=
 (f_n x0).bind fun r1=>
 cond r1 (
  (f_S x0).bind fun r2=>
  ud (r2==0)) (
  ud ug)
def zLG(x0:zC)(x1:Int):Option yL:=
 (ixO x0.zJ x1).bind fun v1=>
 ud (yL.mk x0.Prime x0.Dim v1)
def zMZ(x0:uj)(x1:Int)(s1:Int):Option (Int⊕(Unit⊕Bool)):=
 cond (decide (s1<(x0.length:Int))) (
  (ixO x0 s1).bind fun v1=>
  (rng (x1-1)).bind fun v2=>
  (zLD v1 0 v2).bind fun r3=>
  cond (!r3) (
   ud (.inr (.inr ug))) (
   (rng (s1+1)).bind fun v4=>
   ud (.inl v4))) (
  ud (.inr (.inl ())))
def zQL(x0:uj)(x1:Int)(x2:Int):Option Bool:=
 cond ((x0.length:Int) != x2) (
  ud ug) (
  (zI (zMZ x0 x1) 0).bind fun r5=>
  match r5 with
  |(.inl r5)=>
   ud uf
  |(.inr r5)=>
   ud r5)
def zKt(x0:yL)(s1:Int):Option (Int⊕(Unit⊕Bool)):=
 cond (decide (s1<(x0.Rows.length:Int))) (
  (ixO x0.Rows s1).bind fun v3=>
  (zQL v3 x0.Prime x0.sY).bind fun r4=>
  cond (!r4) (
   ud (.inr (.inr ug))) (
   (rng (s1+1)).bind fun v5=>
   ud (.inl v5))) (
  ud (.inr (.inl ())))
def zSI(x0:yL):Option Bool:=
 (zNO x0.Prime).bind fun r1=>
 cond (!r1) (
  ud ug) (
  (zLD x0.sY 0 8).bind fun r2=>
  cond (!r2) (
   ud ug) (
   cond (decide ((x0.Rows.length:Int)> 8)) (
    ud ug) (
    (zI (zKt x0) 0).bind fun r6=>
    match r6 with
    |(.inl r6)=>
     ud uf
    |(.inr r6)=>
     ud r6)))
def zWW(x0:Int)(x1:Int):Option (Int×Int):=
 ud ((IntKind.wrap .u64 ((IntKind.wrap .u64 ((IntKind.wrap .u64 ((Hh x0 (2 ^ (min (32:Int).toNat (IntKind.bits .u64))))*(Hh x1 (2 ^ (min (32:Int).toNat (IntKind.bits .u64))))))+(Hh (IntKind.wrap .u64 ((IntKind.wrap .u64 ((Hh x0 (2 ^ (min (32:Int).toNat (IntKind.bits .u64))))*(zEO .u64 x1 4294967295)))+(Hh (IntKind.wrap .u64 ((zEO .u64 x0 4294967295)*(zEO .u64 x1 4294967295))) (2 ^ (min (32:Int).toNat (IntKind.bits .u64)))))) (2 ^ (min (32:Int).toNat (IntKind.bits .u64))))))+(Hh (IntKind.wrap .u64 ((zEO .u64 (IntKind.wrap .u64 ((IntKind.wrap .u64 ((Hh x0 (2 ^ (min (32:Int).toNat (IntKind.bits .u64))))*(zEO .u64 x1 4294967295)))+(Hh (IntKind.wrap .u64 ((zEO .u64 x0 4294967295)*(zEO .u64 x1 4294967295))) (2 ^ (min (32:Int).toNat (IntKind.bits .u64)))))) 4294967295)+(IntKind.wrap .u64 ((zEO .u64 x0 4294967295)*(Hh x1 (2 ^ (min (32:Int).toNat (IntKind.bits .u64)))))))) (2 ^ (min (32:Int).toNat (IntKind.bits .u64)))))),(IntKind.wrap .u64 (x0*x1)))
def zQM(x0:Int)(x1:Int):Option (Int×Int):=
 (zWW x0 x1).bind fun r1=>
 ud (r1.1,r1.2)
def zEP(s1:(uj)×Int):Option ((uj×Int)⊕uj):=
 cond (decide (s1.2<(s1.1.length:Int))) (
  (yB s1.1 s1.2 s1.1.length).bind fun _=>
  (yB s1.1 0 s1.2).bind fun v4=>
  (rng (s1.2+((min v4.length (((s1.1.length:Int).toNat)-((s1.2:Int).toNat)):Nat):Int))).bind fun v5=>
  ud (.inl (vS s1.1 ((s1.2:Int).toNat) (v4.take (((s1.1.length:Int).toNat)-((s1.2:Int).toNat))),v5))) (
  ud (.inr s1.1))
def f_u(x0:uj)(x1:Int):Option uj:=
 cond (decide (x1<0)) (
  ue) (
  (zQM (IntKind.wrap .u64 (x0.length:Int)) (IntKind.wrap .u64 x1)).bind fun r1=>
  cond (decide (r1.1> 0)) (
   ue) (
   cond (decide (r1.2> 9223372036854775807)) (
    ue) (
    (yT (IntKind.wrap .i64 r1.2)).bind fun m2=>
    (zI zEP (vS (J1 m2 (0:Int)) 0 (x0.take (((J1 m2 (0:Int)).length)-0)),((min x0.length (((J1 m2 (0:Int)).length)-0):Nat):Int))).bind fun r6=>
    ud r6)))
def zQN(s5:(uj)×Int)(v1:Int)(s6:(uj)×Int):Option ((uj×Int)⊕uj):=
 cond (decide (s6.2<v1)) (
  (rng (s5.2+1)).bind fun v2=>
  (xM s6.1 [v2]).bind fun v3=>
  (rng (s6.2+1)).bind fun v4=>
  ud (.inl (v3,v4))) (
  ud (.inr s6.1))
def zQO(x0:uj)(s5:(uj)×Int):Option ((uj×Int)⊕uj):=
 cond (decide (s5.2<(x0.length:Int))) (
  (ixO x0 s5.2).bind fun v1=>
  (zI (zQN s5 v1) (s5.1,0)).bind fun r5=>
  (rng (s5.2+1)).bind fun v6=>
  ud (.inl (r5,v6))) (
  ud (.inr s5.1))
def f_M(x0:uj):Option uj:=
 (zI (zQO x0) ([],0)).bind fun r7=>
 ud r7
def zQP(x0:SPr)(s1:(List (uj×uj))×Int):Option (((List (uj×uj))×Int)⊕(List (uj×uj))):=
 cond (decide (s1.2<(x0.zA.length:Int))) (
  (ixO x0.zA s1.2).bind fun v1=>
  (rng (s1.2+1)).bind fun v2=>
  (f_u [v2] v1).bind fun r3=>
  (ixO x0.zV s1.2).bind fun v4=>
  (f_M v4).bind fun r5=>
  (xM s1.1 [(r3,r5)]).bind fun v6=>
  (rng (s1.2+1)).bind fun v7=>
  ud (.inl (v6,v7))) (
  ud (.inr s1.1))
def zQQ(s7:(List (uj×uj))×Int)(v9:uk)(s8:(List (uj×uj))×Int):Option (((List (uj×uj))×Int)⊕(List (uj×uj))):=
 cond (decide (s8.2<(v9.length:Int))) (
  (ixO v9 s8.2).bind fun v10=>
  (rng (s7.2+1)).bind fun v11=>
  (rng (s7.2+s8.2)).bind fun v12=>
  (rng (v12+2)).bind fun v13=>
  (f_M v10).bind fun r14=>
  (xM [v11] r14).bind fun v15=>
  (xM s8.1 [([v13,v11],v15)]).bind fun v16=>
  (rng (s8.2+1)).bind fun v17=>
  ud (.inl (v16,v17))) (
  ud (.inr s8.1))
def zQR(x0:SPr)(s7:(List (uj×uj))×Int):Option (((List (uj×uj))×Int)⊕(List (uj×uj))):=
 cond (decide (s7.2<(x0.zA.length:Int))) (
  (ixO x0.zD s7.2).bind fun v9=>
  (zI (zQQ s7 v9) (s7.1,0)).bind fun r18=>
  (rng (s7.2+1)).bind fun v19=>
  ud (.inl (r18,v19))) (
  ud (.inr s7.1))
def f_v(x0:SPr):Option (List (uj×uj)):=
 (zI (zQP x0) ([],0)).bind fun r8=>
 (zI (zQR x0) (r8,0)).bind fun r20=>
 ud r20
def zHD(x1:Int)(s1:(uk)×Int):Option ((uk×Int)⊕uk):=
 cond (decide (s1.2<x1)) (
  (yT x1).bind fun m1=>
  (ixO (J1 m1 (0:Int)) s1.2).bind fun _=>
  (xM s1.1 [(J1 m1 (0:Int)).set s1.2.toNat 1]).bind fun v3=>
  (rng (s1.2+1)).bind fun v4=>
  ud (.inl (v3,v4))) (
  ud (.inr s1.1))
def zSJ(x0:Int)(x1:Int):Option yL:=
 (zI (zHD x1) ([],0)).bind fun r5=>
 ud (yL.mk x0 x1 r5)
def zIA(x0:Int)(x1:Int):Option Int:=
 (uK x0 x1).bind fun v1=>
 (rng (v1+x1)).bind fun v2=>
 (uK v2 x1).bind fun v3=>
 ud v3
def zKu(x0:uj)(x1:uj)(x2:Int)(x3:Int)(s1:(uj)×Int):Option ((uj×Int)⊕uj):=
 cond (decide (s1.2<(x0.length:Int))) (
  (ixO s1.1 s1.2).bind fun v1=>
  (ixO x1 s1.2).bind fun v2=>
  (rng (x2*v2)).bind fun v3=>
  (rng (v1+v3)).bind fun v4=>
  (zIA v4 x3).bind fun r5=>
  (ixO s1.1 s1.2).bind fun _=>
  (rng (s1.2+1)).bind fun v7=>
  ud (.inl (s1.1.set s1.2.toNat r5,v7))) (
  ud (.inr s1.1))
def f_H(x0:uj)(x1:uj)(x2:Int)(x3:Int):Option uj:=
 (zI (zKu x0 x1 x2 x3) (x0,0)).bind fun r8=>
 ud r8
def zKv(x0:uj)(x1:yL)(s1:(uj)×Int):Option ((uj×Int)⊕uj):=
 cond (decide (s1.2<(x0.length:Int))) (
  (ixO x0 s1.2).bind fun v2=>
  (ixO x1.Rows s1.2).bind fun v3=>
  (f_H s1.1 v3 v2 x1.Prime).bind fun r4=>
  (rng (s1.2+1)).bind fun v5=>
  ud (.inl (r4,v5))) (
  ud (.inr s1.1))
def zQS(x0:uj)(x1:yL):Option uj:=
 (yT x1.sY).bind fun m1=>
 (zI (zKv x0 x1) (J1 m1 (0:Int),0)).bind fun r6=>
 ud r6
def zKw(x0:yL)(x1:yL)(s1:(uk)×Int):Option ((uk×Int)⊕uk):=
 cond (decide (s1.2<(x0.Rows.length:Int))) (
  (ixO x0.Rows s1.2).bind fun v1=>
  (zQS v1 x1).bind fun r2=>
  (xM s1.1 [r2]).bind fun v3=>
  (rng (s1.2+1)).bind fun v4=>
  ud (.inl (v3,v4))) (
  ud (.inr s1.1))
def zSK(x0:yL)(x1:yL):Option yL:=
 (zI (zKw x0 x1) ([],0)).bind fun r5=>
 ud (yL.mk x0.Prime x1.sY r5)
def zKx(x0:zC)(x1:uj)(s1:Int×Int×uk×Int):Option ((Int×Int×uk×Int)⊕(Int×Int×uk)):=
 cond (decide (s1.2.2.2<(x1.length:Int))) (
  (ixO x1 s1.2.2.2).bind fun v2=>
  (rng (v2-1)).bind fun v3=>
  (zLG x0 v3).bind fun r4=>
  (zSK (yL.mk s1.1 s1.2.1 s1.2.2.1) r4).bind fun r5=>
  (rng (s1.2.2.2+1)).bind fun v6=>
  ud (.inl (r5.Prime,r5.sY,r5.Rows,v6))) (
  ud (.inr (s1.1,s1.2.1,s1.2.2.1)))
def zQT(x0:zC)(x1:uj):Option yL:=
 (zSJ x0.Prime x0.Dim).bind fun r1=>
 (zI (zKx x0 x1) (r1.Prime,r1.sY,r1.Rows,0)).bind fun r7=>
 ud (yL.mk r7.1 r7.2.1 r7.2.2)
def zQU(x0:uk)(x1:uk)(s1:Int):Option (Int⊕(Unit⊕Bool)):=
 cond (decide (s1<(x0.length:Int))) (
  (ixO x0 s1).bind fun v1=>
  (ixO x1 s1).bind fun v2=>
  (f_Z v1 v2).bind fun r3=>
  cond (!r3) (
   ud (.inr (.inr ug))) (
   (rng (s1+1)).bind fun v4=>
   ud (.inl v4))) (
  ud (.inr (.inl ())))
def zUX(x0:uk)(x1:uk):Option Bool:=
 cond ((x0.length:Int) != (x1.length:Int)) (
  ud ug) (
  (zI (zQU x0 x1) 0).bind fun r5=>
  match r5 with
  |(.inl r5)=>
   ud uf
  |(.inr r5)=>
   ud r5)
def zSL(x0:uk)(x1:uk):Option Bool:=
 (zUX x0 x1).bind fun r1=>
 ud r1
def zQV(x1:zC)(s1:Int):Option (Int⊕(Unit⊕Bool)):=
 cond (decide (s1<(x1.zJ.length:Int))) (
  (ixO x1.zJ s1).bind fun v4=>
  cond ((v4.length:Int) != x1.Dim) (
   ud (.inr (.inr ug))) (
   (zLG x1 s1).bind fun r5=>
   (zSI r5).bind fun r6=>
   cond (!r6) (
    ud (.inr (.inr ug))) (
    (rng (s1+1)).bind fun v7=>
    ud (.inl v7)))) (
  ud (.inr (.inl ())))
def zQW(x1:zC)(r9:(List (uj×uj)))(s3:Int):Option (Int⊕(Unit⊕Bool)):=
 cond (decide (s3<(r9.length:Int))) (
  (ixO r9 s3).bind fun v10=>
  (zQT x1 v10.1).bind fun r11=>
  (zQT x1 v10.2).bind fun r12=>
  (zSL r11.Rows r12.Rows).bind fun r13=>
  cond (!r13) (
   ud (.inr (.inr ug))) (
   (rng (s3+1)).bind fun v14=>
   ud (.inl v14))) (
  ud (.inr (.inl ())))
def f_z(x0:SPr)(x1:zC):Option Bool:=
 (zSH x0).bind fun r1=>
 cond (!r1) (
  ud ug) (
  (zNO x1.Prime).bind fun r2=>
  cond (!r2) (
   ud ug) (
   (zLD x1.Dim 1 3).bind fun r3=>
   cond (!r3) (
    ud ug) (
    cond ((x1.zJ.length:Int) != (x0.zA.length:Int)) (
     ud ug) (
     (zI (zQV x1) 0).bind fun r8=>
     match r8 with
     |(.inl r8)=>
      (f_v x0).bind fun r9=>
      (zI (zQW x1 r9) 0).bind fun r15=>
      match r15 with
      |(.inl r15)=>
       ud uf
      |(.inr r15)=>
       ud r15
     |(.inr r8)=>
      ud r8))))
def zQX(x1:Int):Option uj:=
 cond (decide (x1<0)) (
  ue) (
  (rng (0-0)).bind fun v1=>
  (rng (x1-v1)).bind fun v2=>
  cond (decide (v2> 0)) (
   (uE [] v2 (0:Int)).bind fun v3=>
   (yB v3 0 0).bind fun v4=>
   ud v4) (
   ud []))
def zQY(x0:uk)(s1:Int×Int):Option ((Int×Int)⊕Int):=
 cond (decide (s1.2<(x0.length:Int))) (
  (ixO x0 s1.2).bind fun v1=>
  (rng (s1.1+(v1.length:Int))).bind fun v2=>
  cond (decide (v2<0)) (
   ue) (
   (rng (s1.2+1)).bind fun v3=>
   ud (.inl (v2,v3)))) (
  ud (.inr s1.1))
def zQZ(x0:uk)(s3:(uj)×Int):Option ((uj×Int)⊕uj):=
 cond (decide (s3.2<(x0.length:Int))) (
  (ixO x0 s3.2).bind fun v6=>
  (xM s3.1 v6).bind fun v7=>
  (rng (s3.2+1)).bind fun v8=>
  ud (.inl (v7,v8))) (
  ud (.inr s3.1))
def f_q(x0:uk):Option uj:=
 (zI (zQY x0) (0,0)).bind fun r4=>
 (zQX r4).bind fun r5=>
 (zI (zQZ x0) (r5,0)).bind fun r9=>
 ud r9
def zRa(x0:uj)(x1:Int)(x2:Int):Option uj:=
 (yT x1).bind fun m1=>
 (yT x2).bind fun m2=>
 (f_q [J1 m1 (0:Int),x0,J1 m2 (0:Int)]).bind fun r3=>
 ud r3
def zRb(x0:uj)(x1:uj)(s1:Int):Option (Int⊕(Unit⊕Bool)):=
 cond (decide (s1<(x0.length:Int))) (
  (ixO x0 s1).bind fun v1=>
  (ixO x1 s1).bind fun v2=>
  cond (v1 != v2) (
   ud (.inr (.inr ug))) (
   (rng (s1+1)).bind fun v3=>
   ud (.inl v3))) (
  ud (.inr (.inl ())))
def zRc(x0:uj)(x1:uj):Option Bool:=
 cond ((x0.length:Int) != (x1.length:Int)) (
  ud ug) (
  (zI (zRb x0 x1) 0).bind fun r4=>
  match r4 with
  |(.inl r4)=>
   ud uf
  |(.inr r4)=>
   ud r4)
def zUY(x0:uk)(x1:uk)(s1:Int):Option (Int⊕(Unit⊕Bool)):=
 cond (decide (s1<(x0.length:Int))) (
  (ixO x0 s1).bind fun v1=>
  (ixO x1 s1).bind fun v2=>
  (zRc v1 v2).bind fun r3=>
  cond (!r3) (
   ud (.inr (.inr ug))) (
   (rng (s1+1)).bind fun v4=>
   ud (.inl v4))) (
  ud (.inr (.inl ())))
def f_C(x0:uk)(x1:uk):Option Bool:=
 cond ((x0.length:Int) != (x1.length:Int)) (
  ud ug) (
  (zI (zUY x0 x1) 0).bind fun r5=>
  match r5 with
  |(.inl r5)=>
   ud uf
  |(.inr r5)=>
   ud r5)
def zRd(x0:List uk)(x1:List uk)(s1:Int):Option (Int⊕(Unit⊕Bool)):=
 cond (decide (s1<(x0.length:Int))) (
  (ixO x0 s1).bind fun v1=>
  (ixO x1 s1).bind fun v2=>
  (f_C v1 v2).bind fun r3=>
  cond (!r3) (
   ud (.inr (.inr ug))) (
   (rng (s1+1)).bind fun v4=>
   ud (.inl v4))) (
  ud (.inr (.inl ())))
def zSM(x0:List uk)(x1:List uk):Option Bool:=
 cond ((x0.length:Int) != (x1.length:Int)) (
  ud ug) (
  (zI (zRd x0 x1) 0).bind fun r5=>
  match r5 with
  |(.inl r5)=>
   ud uf
  |(.inr r5)=>
   ud r5)
def zSN(x0:zC)(x1:zC):Option Bool:=
 cond (x0.Prime != x1.Prime) (
  ud ug) (
  cond (x0.Dim != x1.Dim) (
   ud ug) (
   (zSM x0.zJ x1.zJ).bind fun r1=>
   cond (!r1) (
    ud ug) (
    ud uf)))
def zSO(x0:SPr)(x1:SPr):Option Bool:=
 (zRc x0.zA x1.zA).bind fun r1=>
 cond (!r1) (
  ud ug) (
  (f_C x0.zV x1.zV).bind fun r2=>
  cond (!r2) (
   ud ug) (
   (zSM x0.zD x1.zD).bind fun r3=>
   cond (!r3) (
    ud ug) (
    ud uf)))
def zNa(s1:(uj)×Int×Int):Option ((uj×Int×Int)⊕(uj×Int)):=
 cond (decide (s1.2.2<(s1.1.length:Int))) (
  (ixO s1.1 s1.2.2).bind fun _=>
  (rng (s1.2.1+1)).bind fun v2=>
  (rng (s1.2.2+1)).bind fun v3=>
  ud (.inl (s1.1.set s1.2.2.toNat s1.2.1,v2,v3))) (
  ud (.inr (s1.1,s1.2.1)))
def zNT(x0:uj)(x1:Int):Option (Int×uj):=
 (zI zNa (x0,x1,0)).bind fun r4=>
 ud (r4.2,r4.1)
def zUZ(s1:(uk)×Int×Int):Option ((uk×Int×Int)⊕(uk×Int)):=
 cond (decide (s1.2.2<(s1.1.length:Int))) (
  (ixO s1.1 s1.2.2).bind fun v1=>
  (zNT v1 s1.2.1).bind fun r2=>
  (rng (s1.2.2+1)).bind fun v3=>
  ud (.inl (s1.1.set s1.2.2.toNat r2.2,r2.1,v3))) (
  ud (.inr (s1.1,s1.2.1)))
def f_Q(x0:uk)(x1:Int):Option (Int×uk):=
 (zI zUZ (x0,x1,0)).bind fun r4=>
 ud (r4.2,r4.1)
def zRe(s1:(List uk)×Int×Int):Option (((List uk)×Int×Int)⊕((List uk)×Int)):=
 cond (decide (s1.2.2<(s1.1.length:Int))) (
  (ixO s1.1 s1.2.2).bind fun v1=>
  (f_Q v1 s1.2.1).bind fun r2=>
  (rng (s1.2.2+1)).bind fun v3=>
  ud (.inl (s1.1.set s1.2.2.toNat r2.2,r2.1,v3))) (
  ud (.inr (s1.1,s1.2.1)))
def zRf(x0:List uk)(x1:Int):Option (Int×(List uk)):=
 (zI zRe (x0,x1,0)).bind fun r4=>
 ud (r4.2,r4.1)
def zSP(x0:SPr)(x1:Int):Option (Int×SPr):=
 (zNT x0.zA x1).bind fun r1=>
 (f_Q x0.zV r1.1).bind fun r2=>
 (zRf x0.zD r2.1).bind fun r3=>
 ud (r3.1,(SPr.mk r1.2 r2.2 r3.2))
def zSQ(x0:zC)(x1:Int):Option (Int×zC):=
 (zRf x0.zJ x1).bind fun r1=>
 ud (r1.1,(zC.mk x0.Prime x0.Dim r1.2))
def zKy(x0:uj)(s1:Int×Int):Option ((Int×Int)⊕(Int⊕Int)):=
 cond (decide (s1.2<(x0.length:Int))) (
  (ixO x0 s1.2).bind fun v1=>
  cond (v1 != s1.1) (
   ud (.inr (.inr (-1)))) (
   (rng (s1.1+1)).bind fun v2=>
   (rng (s1.2+1)).bind fun v3=>
   ud (.inl (v2,v3)))) (
  ud (.inr (.inl s1.1)))
def zRg(x0:uj)(x1:Int):Option Int:=
 (zI (zKy x0) (x1,0)).bind fun r4=>
 match r4 with
 |(.inl r4)=>
  ud r4
 |(.inr r4)=>
  ud r4
def zRh(x0:uk)(s1:Int×Int):Option ((Int×Int)⊕(Int⊕Int)):=
 cond (decide (s1.2<(x0.length:Int))) (
  (ixO x0 s1.2).bind fun v1=>
  (zRg v1 s1.1).bind fun r2=>
  cond (decide (r2<0)) (
   ud (.inr (.inr (-1)))) (
   (rng (s1.2+1)).bind fun v3=>
   ud (.inl (r2,v3)))) (
  ud (.inr (.inl s1.1)))
def zSR(x0:uk)(x1:Int):Option Int:=
 (zI (zRh x0) (x1,0)).bind fun r4=>
 match r4 with
 |(.inl r4)=>
  ud r4
 |(.inr r4)=>
  ud r4
def b_j(g_j:SPr→Int→uj→Option uj)(x0:SPr)(x1:Int)(x2:uj):Option uj:=
 cond (decide (x1≥(x0.zA.length:Int))) (
  (yT (x0.zA.length:Int)).bind fun m1=>
  ud (J1 m1 (0:Int))) (
  (f_o x2).bind fun r2=>
  (ixO r2 x1).bind fun _=>
  (rng (x1+1)).bind fun v4=>
  (g_j x0 v4 (r2.set x1.toNat 0)).bind fun r5=>
  (ixO x2 x1).bind fun v6=>
  cond (v6==0) (
   ud r5) (
   (yT (x0.zA.length:Int)).bind fun m7=>
   (ixO x0.zA x1).bind fun v8=>
   (ixO x2 x1).bind fun v9=>
   (rng (v8-v9)).bind fun v10=>
   (ixO (J1 m7 (0:Int)) x1).bind fun _=>
   (f_a x0 x1 r5 ((J1 m7 (0:Int)).set x1.toNat v10)).bind fun r12=>
   (rng (x1+1)).bind fun v13=>
   (ixO x0.zV x1).bind fun v14=>
   (g_j x0 v13 v14).bind fun r15=>
   (f_a x0 x1 r12 r15).bind fun r16=>
   ud r16))
def zLH:Nat→SPr→Int→uj→Option uj
 |0=>fun _ _ _=>ue
 |n+1=>b_j (zLH n)
def f_j(x0:SPr)(x1:Int)(x2:uj):Option uj:=zB8 fun n=>zLH n x0 x1 x2
def zNU(x0:SPr)(x1:uj):Option uj:=
 (f_j x0 0 x1).bind fun r1=>
 ud r1
def zNV(s1:Int×Int×Int×Int):Option ((Int×Int×Int×Int)⊕(Int×Int)):=
 cond (s1.2.1 != 0) (
  (tD s1.1 s1.2.1).bind fun v1=>
  (rng (v1*s1.2.1)).bind fun v2=>
  (rng (s1.1-v2)).bind fun v3=>
  (rng (v1*s1.2.2.2)).bind fun v4=>
  (rng (s1.2.2.1-v4)).bind fun v5=>
  ud (.inl (s1.2.1,v3,s1.2.2.2,v5))) (
  ud (.inr (s1.1,s1.2.2.1)))
def f_U(x0:Int)(x1:Int):Option (Int×Bool):=
 (zI zNV (x1,x0,0,1)).bind fun r6=>
 (zIA r6.2 x1).bind fun r7=>
 ud (r7,(r6.1==1))
def zRi(x0:Int)(x1:Int):Option Int:=
 (uK x0 x1).bind fun v1=>
 cond (decide (v1<0)) (
  (rng (v1+x1)).bind fun v2=>
  ud v2) (
  ud v1)
def zRj(x0:Int)(x2:Int)(x3:uj)(s1:(uj)×Int):Option ((uj×Int)⊕uj):=
 cond (decide (s1.2<(s1.1.length:Int))) (
  cond (decide (s1.2<(x3.length:Int))) (
   (ixO s1.1 s1.2).bind fun v2=>
   (ixO x3 s1.2).bind fun v3=>
   (rng (x2*v3)).bind fun v4=>
   (rng (v2+v4)).bind fun v5=>
   (zRi v5 x0).bind fun r6=>
   (ixO s1.1 s1.2).bind fun _=>
   (rng (s1.2+1)).bind fun v8=>
   ud (.inl (s1.1.set s1.2.toNat r6,v8))) (
   ud (.inr s1.1))) (
  ud (.inr s1.1))
def f_A(x0:Int)(x1:uj)(x2:Int)(x3:uj):Option uj:=
 (f_o x1).bind fun r1=>
 (zI (zRj x0 x2 x3) (r1,0)).bind fun r9=>
 ud r9
def zKz(x0:Int)(x1:Int)(s1:Int):Option (Int⊕(Unit⊕Int)):=
 cond (decide (s1<x1)) (
  (zRi x0 x1).bind fun r1=>
  (rng (r1*s1)).bind fun v2=>
  (uK v2 x1).bind fun v3=>
  cond (v3==1) (
   ud (.inr (.inr s1))) (
   (rng (s1+1)).bind fun v4=>
   ud (.inl v4))) (
  ud (.inr (.inl ())))
def zSS(x0:Int)(x1:Int):Option Int:=
 (zI (zKz x0 x1) 1).bind fun r5=>
 match r5 with
 |(.inl r5)=>
  ud 0
 |(.inr r5)=>
  ud r5
def zST(x0:SPr):Option Int:=
 (rng ((x0.zA.length:Int)-1)).bind fun v1=>
 (rng ((x0.zA.length:Int)*v1)).bind fun v2=>
 (tD v2 2).bind fun v3=>
 (rng ((x0.zA.length:Int)+v3)).bind fun v4=>
 ud v4
def zSU(x0:Int)(x1:Int)(x2:Int):Option Int:=
 (rng (x1*x0)).bind fun v1=>
 (rng (x0+v1)).bind fun v2=>
 (rng (x1+1)).bind fun v3=>
 (rng (x1*v3)).bind fun v4=>
 (tD v4 2).bind fun v5=>
 (rng (v2-v5)).bind fun v6=>
 (rng (v6+x2)).bind fun v7=>
 (rng (v7-x1)).bind fun v8=>
 (rng (v8-1)).bind fun v9=>
 ud v9
def zRk(x1:zC)(s1:(uj)×Int):Option ((uj×Int)⊕uj):=
 cond (decide (s1.2<x1.Dim)) (
  (xM s1.1 [x1.Prime]).bind fun v2=>
  (rng (s1.2+1)).bind fun v3=>
  ud (.inl (v2,v3))) (
  ud (.inr s1.1))
def zNW(x0:SPr)(x2:uk)(s11:(uk)×(List uk)×Int)(s12:(uk)×Int):Option ((uk×Int)⊕uk):=
 cond (decide (s12.2<(x0.zA.length:Int))) (
  (ixO x0.zD s11.2.2).bind fun v11=>
  (rng (s12.2-s11.2.2)).bind fun v12=>
  (rng (v12-1)).bind fun v13=>
  (ixO v11 v13).bind fun v14=>
  (f_o v14).bind fun r15=>
  (zSU (x0.zA.length:Int) s11.2.2 s12.2).bind fun r16=>
  (ixO x2 r16).bind fun v17=>
  (xM r15 v17).bind fun v18=>
  (xM s12.1 [v18]).bind fun v19=>
  (rng (s12.2+1)).bind fun v20=>
  ud (.inl (v19,v20))) (
  ud (.inr s12.1))
def zNX(x0:SPr)(x1:zC)(s11:(uk)×(List uk)×Int)(s14:(uk)×Int):Option ((uk×Int)⊕uk):=
 cond (decide (s14.2<x1.Dim)) (
  (yT (x0.zA.length:Int)).bind fun m22=>
  (ixO x1.zJ s11.2.2).bind fun v23=>
  (ixO v23 s14.2).bind fun v24=>
  (xM (J1 m22 (0:Int)) v24).bind fun v25=>
  (xM s14.1 [v25]).bind fun v26=>
  (rng (s14.2+1)).bind fun v27=>
  ud (.inl (v26,v27))) (
  ud (.inr s14.1))
def zLI(x0:SPr)(x1:zC)(x2:uk)(s11:(uk)×(List uk)×Int):Option ((uk×(List uk)×Int)⊕(uk×(List uk))):=
 cond (decide (s11.2.2<(x0.zA.length:Int))) (
  (ixO x0.zV s11.2.2).bind fun v5=>
  (f_o v5).bind fun r6=>
  (ixO x2 s11.2.2).bind fun v7=>
  (xM r6 v7).bind fun v8=>
  (xM s11.1 [v8]).bind fun v9=>
  (rng (s11.2.2+1)).bind fun v10=>
  (zI (zNW x0 x2 s11) ([],v10)).bind fun r21=>
  (zI (zNX x0 x1 s11) (r21,0)).bind fun r28=>
  (xM s11.2.1 [r28]).bind fun v29=>
  (rng (s11.2.2+1)).bind fun v30=>
  ud (.inl (v9,v29,v30))) (
  ud (.inr (s11.1,s11.2.1)))
def zNY(x0:SPr)(x1:zC)(s22:(uk)×Int):Option ((uk×Int)⊕uk):=
 cond (decide (s22.2<x1.Dim)) (
  (rng ((x0.zA.length:Int)+x1.Dim)).bind fun v36=>
  (rng ((x0.zA.length:Int)+s22.2)).bind fun v37=>
  (zKo v36 v37).bind fun r38=>
  (xM s22.1 [r38]).bind fun v39=>
  (rng (s22.2+1)).bind fun v40=>
  ud (.inl (v39,v40))) (
  ud (.inr s22.1))
def zLJ(x0:SPr)(x1:zC)(s21:(uk)×(List uk)×Int):Option ((uk×(List uk)×Int)⊕(uk×(List uk))):=
 cond (decide (s21.2.2<x1.Dim)) (
  (rng ((x0.zA.length:Int)+x1.Dim)).bind fun v32=>
  (yT v32).bind fun m33=>
  (xM s21.1 [J1 m33 (0:Int)]).bind fun v34=>
  (rng (s21.2.2+1)).bind fun v35=>
  (zI (zNY x0 x1) ([],v35)).bind fun r41=>
  (xM s21.2.1 [r41]).bind fun v42=>
  (rng (s21.2.2+1)).bind fun v43=>
  ud (.inl (v34,v42,v43))) (
  ud (.inr (s21.1,s21.2.1)))
def f_g(x0:SPr)(x1:zC)(x2:uk):Option SPr:=
 (f_o x0.zA).bind fun r1=>
 (zI (zRk x1) (r1,0)).bind fun r4=>
 (zI (zLI x0 x1 x2) ([],[],0)).bind fun r31=>
 (zI (zLJ x0 x1) (r31.1,r31.2,0)).bind fun r44=>
 ud (SPr.mk r4 r44.1 r44.2)
def zVa(x0:SPr)(x1:zC)(x2:uk):Option (SPr×Int):=
 (f_g x0 x1 x2).bind fun r1=>
 (f_t r1).bind fun r2=>
 cond (!r2) (
  ud ((SPr.mk [] [] []),3)) (
  ud (r1,0))
def zSV(x0:SPr):Option Int:=
 (rng ((x0.zA.length:Int)+1)).bind fun v1=>
 (rng ((x0.zA.length:Int)*v1)).bind fun v2=>
 (tD v2 2).bind fun v3=>
 ud v3
def zNZ(x0:uj)(s6:(uk)×Int):Option ((uk×Int)⊕uk):=
 cond (decide (s6.2<(x0.length:Int))) (
  (zI9 (x0.length:Int) s6.2).bind fun r5=>
  (xM s6.1 [r5]).bind fun v6=>
  (rng (s6.2+1)).bind fun v7=>
  ud (.inl (v6,v7))) (
  ud (.inr s6.1))
def zOa(x0:uj)(s5:(uk)×(List uk)×Int):Option ((uk×(List uk)×Int)⊕(uk×(List uk))):=
 cond (decide (s5.2.2<(x0.length:Int))) (
  (yT (x0.length:Int)).bind fun m2=>
  (xM s5.1 [J1 m2 (0:Int)]).bind fun v3=>
  (rng (s5.2.2+1)).bind fun v4=>
  (zI (zNZ x0) ([],v4)).bind fun r8=>
  (xM s5.2.1 [r8]).bind fun v9=>
  (rng (s5.2.2+1)).bind fun v10=>
  ud (.inl (v3,v9,v10))) (
  ud (.inr (s5.1,s5.2.1)))
def f_J(x0:uj):Option SPr:=
 (f_D x0).bind fun r1=>
 (zI (zOa x0) ([],[],0)).bind fun r11=>
 ud (SPr.mk r1 r11.1 r11.2)
def zLK(x0:SPr)(x2:uk)(s1:(uk)×Int×Int):Option ((uk×Int×Int)⊕(uk×Int)):=
 cond (decide (s1.2.2<(x0.zV.length:Int))) (
  (ixO x0.zV s1.2.2).bind fun v5=>
  (ixO x2 s1.2.1).bind fun v6=>
  (f_q [v5,v6]).bind fun r7=>
  (ixO s1.1 s1.2.2).bind fun _=>
  (rng (s1.2.1+1)).bind fun v9=>
  (rng (s1.2.2+1)).bind fun v10=>
  ud (.inl (s1.1.set s1.2.2.toNat r7,v9,v10))) (
  ud (.inr (s1.1,s1.2.1)))
def zLL(x2:uk)(s11:(List uk)×Int×Int)(v12:uk)(s12:(List uk)×Int×Int):Option (((List uk)×Int×Int)⊕((List uk)×Int)):=
 cond (decide (s12.2.2<(v12.length:Int))) (
  (ixO v12 s12.2.2).bind fun v13=>
  (ixO s12.1 s11.2.2).bind fun v14=>
  (ixO x2 s12.2.1).bind fun v15=>
  (f_q [v13,v15]).bind fun r16=>
  (ixO v14 s12.2.2).bind fun _=>
  (rng (s12.2.1+1)).bind fun v18=>
  (rng (s12.2.2+1)).bind fun v19=>
  ud (.inl (s12.1.set s11.2.2.toNat (v14.set s12.2.2.toNat r16),v18,v19))) (
  ud (.inr (s12.1,s12.2.1)))
def zLM(x0:SPr)(s11:(List uk)×Int×Int)(v21:uk)(s14:(List uk)×Int):Option (((List uk)×Int)⊕(List uk)):=
 cond (decide (s14.2<(v21.length:Int))) (
  (ixO v21 s14.2).bind fun v22=>
  (ixO s14.1 s11.2.2).bind fun v23=>
  (rng ((x0.zA.length:Int)-1)).bind fun v24=>
  (rng (v24-s11.2.2)).bind fun v25=>
  (rng (v25+s14.2)).bind fun v26=>
  (zRa v22 (x0.zA.length:Int) 0).bind fun r27=>
  (ixO v23 v26).bind fun _=>
  (rng (s14.2+1)).bind fun v29=>
  ud (.inl (s14.1.set s11.2.2.toNat (v23.set v26.toNat r27),v29))) (
  ud (.inr s14.1))
def zLN(x0:SPr)(x1:zC)(x2:uk)(s11:(List uk)×Int×Int):Option (((List uk)×Int×Int)⊕(List uk)):=
 cond (decide (s11.2.2<(x0.zA.length:Int))) (
  (ixO x0.zD s11.2.2).bind fun v12=>
  (zI (zLL x2 s11 v12) (s11.1,s11.2.1,0)).bind fun r20=>
  (ixO x1.zJ s11.2.2).bind fun v21=>
  (zI (zLM x0 s11 v21) (r20.1,0)).bind fun r30=>
  (rng (s11.2.2+1)).bind fun v31=>
  ud (.inl (r30,r20.2,v31))) (
  ud (.inr s11.1))
def f_i(x0:SPr)(x1:zC)(x2:uk):Option SPr:=
 (f_D x0.zA).bind fun r1=>
 (f_u [x1.Prime] x1.Dim).bind fun r2=>
 (xM r1 r2).bind fun v3=>
 (f_J v3).bind fun r4=>
 (zI (zLK x0 x2) (r4.zV,0,0)).bind fun r11=>
 (zI (zLN x0 x1 x2) (r4.zD,r11.2,0)).bind fun r32=>
 ud (SPr.mk r4.zA r11.1 r32)
def zSW(x0:SPr)(x1:zC)(x2:uk):Option (SPr×Int):=
 (f_i x0 x1 x2).bind fun r1=>
 (f_n r1).bind fun r2=>
 cond (!r2) (
  ud ((SPr.mk [] [] []),3)) (
  ud (r1,0))
def zLO(x0:zC)(x1:uk)(s1:Int):Option (Int⊕(Unit⊕Bool)):=
 cond (decide (s1<(x1.length:Int))) (
  (ixO x1 s1).bind fun v1=>
  (zQu x0.Prime x0.Dim v1).bind fun r2=>
  cond (!r2) (
   ud (.inr (.inr ug))) (
   (rng (s1+1)).bind fun v3=>
   ud (.inl v3))) (
  ud (.inr (.inl ())))
def f_T(x0:zC)(x1:uk):Option Bool:=
 (zI (zLO x0 x1) 0).bind fun r4=>
 match r4 with
 |(.inl r4)=>
  ud uf
 |(.inr r4)=>
  ud r4
def zRl(x0:SPr)(x1:zC)(x2:uk):Option Bool:=
 cond ((x2.length:Int)==(x0.zA.length:Int)) (
  (f_T x1 x2).bind fun r1=>
  ud r1) (
  ud ug)
def zK0(x0:zC)(x1:uk)(x2:uj)(x3:Int):Option uj:=
 (ixO x0.zJ x3).bind fun v1=>
 (f_I x0.Prime x2 v1 x0.Dim).bind fun r2=>
 (ixO x1 x3).bind fun v3=>
 (f_A x0.Prime r2 1 v3).bind fun r4=>
 ud r4
def zRm(x0:zC)(x1:uk)(x3:uj)(s5:(uj)×Int)(s6:(uj)×Int):Option ((uj×Int)⊕uj):=
 (ixO x3 s5.2).bind fun v1=>
 cond (decide (s6.2<v1)) (
  (zK0 x0 x1 s6.1 s5.2).bind fun r2=>
  (rng (s6.2+1)).bind fun v3=>
  ud (.inl (r2,v3))) (
  ud (.inr s6.1))
def zRn(x0:zC)(x1:uk)(x3:uj)(s5:(uj)×Int):Option ((uj×Int)⊕uj):=
 cond (decide (s5.2<(x3.length:Int))) (
  (zI (zRm x0 x1 x3 s5) (s5.1,0)).bind fun r4=>
  (rng (s5.2+1)).bind fun v5=>
  ud (.inl (r4,v5))) (
  ud (.inr s5.1))
def f_N(x0:zC)(x1:uk)(x2:uj)(x3:uj):Option uj:=
 (zI (zRn x0 x1 x3) (x2,0)).bind fun r6=>
 ud r6
def zTL(x0:uj)(s1:Int):Option (Int⊕(Unit⊕Bool)):=
 cond (decide (s1<(x0.length:Int))) (
  (ixO x0 s1).bind fun v1=>
  cond (v1 != 0) (
   ud (.inr (.inr ug))) (
   (rng (s1+1)).bind fun v2=>
   ud (.inl v2))) (
  ud (.inr (.inl ())))
def zSX(x0:uj):Option Bool:=
 (zI (zTL x0) 0).bind fun r3=>
 match r3 with
 |(.inl r3)=>
  ud uf
 |(.inr r3)=>
  ud r3
def zNb(x0:zC)(x1:uk)(s1:Int):Option (Int⊕(Unit⊕Bool)):=
 cond (decide (s1<(x1.length:Int))) (
  (ixO x1 s1).bind fun v1=>
  (zQL v1 x0.Prime x0.Dim).bind fun r2=>
  cond (!r2) (
   ud (.inr (.inr ug))) (
   (rng (s1+1)).bind fun v3=>
   ud (.inl v3))) (
  ud (.inr (.inl ())))
def zSY(x0:zC)(x1:uk):Option Bool:=
 (zI (zNb x0 x1) 0).bind fun r4=>
 match r4 with
 |(.inl r4)=>
  ud uf
 |(.inr r4)=>
  ud r4
def zRo(x0:SPr)(x1:zC)(x2:uk):Option Bool:=
 cond ((x2.length:Int)==(x0.zA.length:Int)) (
  (zSY x1 x2).bind fun r1=>
  ud r1) (
  ud ug)
def zK1(x0:zC)(x1:uk)(x2:uj)(s1:(uj)×Int):Option ((uj×Int)⊕uj):=
 cond (decide (s1.2<(x2.length:Int))) (
  (ixO x2 s1.2).bind fun v2=>
  (rng (v2-1)).bind fun v3=>
  (zLG x0 v3).bind fun r4=>
  (zQS s1.1 r4).bind fun r5=>
  (rng (v2-1)).bind fun v6=>
  (ixO x1 v6).bind fun v7=>
  (f_H r5 v7 1 x0.Prime).bind fun r8=>
  (rng (s1.2+1)).bind fun v9=>
  ud (.inl (r8,v9))) (
  ud (.inr s1.1))
def zRp(x0:zC)(x1:uk)(x2:uj):Option uj:=
 (yT x0.Dim).bind fun m1=>
 (zI (zK1 x0 x1 x2) (J1 m1 (0:Int),0)).bind fun r10=>
 ud r10
def zK2(x1:zC)(x2:uk)(r1:(List (uj×uj)))(s1:(uk)×Int):Option ((uk×Int)⊕uk):=
 cond (decide (s1.2<(r1.length:Int))) (
  (ixO r1 s1.2).bind fun v2=>
  (zRp x1 x2 v2.1).bind fun r3=>
  (zRp x1 x2 v2.2).bind fun r4=>
  (f_H r3 r4 (-1) x1.Prime).bind fun r5=>
  (xM s1.1 [r5]).bind fun v6=>
  (rng (s1.2+1)).bind fun v7=>
  ud (.inl (v6,v7))) (
  ud (.inr s1.1))
def zSZ(x0:SPr)(x1:zC)(x2:uk):Option uk:=
 (f_v x0).bind fun r1=>
 (zI (zK2 x1 x2 r1) ([],0)).bind fun r8=>
 ud r8
def zRq(x0:SPr)(x1:zC)(x2:uk):Option Bool:=
 (zST x0).bind fun r1=>
 cond ((x2.length:Int)==r1) (
  (f_T x1 x2).bind fun r2=>
  ud r2) (
  ud ug)
def zK3(x0:zP):Option zF:=
 cond (decide ((x0.zKA.length:Int)> 0)) (
  (ixO x0.zKA 0).bind fun v1=>
  (yT (x0.p.zA.length:Int)).bind fun m2=>
  (yT (v1.length:Int)).bind fun m3=>
  ud (zF.mk (J1 m2 (0:Int)) (J1 m3 (0:Int)))) (
  (yT (x0.p.zA.length:Int)).bind fun m4=>
  (yT 0).bind fun m5=>
  ud (zF.mk (J1 m4 (0:Int)) (J1 m5 (0:Int))))
def zIB(x0:zP)(x1:Int)(x2:Int):Option zF:=
 (ixO x0.p.zD x1).bind fun v1=>
 (rng (x2-x1)).bind fun v2=>
 (rng (v2-1)).bind fun v3=>
 (ixO v1 v3).bind fun v4=>
 (zSU (x0.p.zA.length:Int) x1 x2).bind fun r5=>
 (ixO x0.zKA r5).bind fun v6=>
 ud (zF.mk v4 v6)
def zHE(x0:zC)(x1:uj)(x2:Int)(s1:(uj)×Int):Option ((uj×Int)⊕uj):=
 cond (decide (s1.2<(x1.length:Int))) (
  (rng (s1.2+x0.Dim)).bind fun v1=>
  (yB x1 s1.2 v1).bind fun v2=>
  (ixO x0.zJ x2).bind fun v3=>
  (f_I x0.Prime v2 v3 x0.Dim).bind fun r4=>
  (xM s1.1 r4).bind fun v5=>
  (rng (s1.2+x0.Dim)).bind fun v6=>
  ud (.inl (v5,v6))) (
  ud (.inr s1.1))
def zTa(x0:zC)(x1:uj)(x2:Int):Option uj:=
 (zI (zHE x0 x1 x2) ([],0)).bind fun r7=>
 ud r7
def zLP(x0:zP)(x1:Int):Option zF:=
 (ixO x0.p.zV x1).bind fun v1=>
 (ixO x0.zKA x1).bind fun v2=>
 ud (zF.mk v1 v2)
def zTb(g_d:zP→Int→zF→zF→Option zF)(x0:zP)(x1:Int)(x2:zF)(s5:(uj)×uj×Int)(s6:(uj)×uj×Int):Option ((uj×uj×Int)⊕(uj×uj)):=
 (ixO x2.x s5.2.2).bind fun v3=>
 cond (decide (s6.2.2<v3)) (
  (rng (x1+1)).bind fun v4=>
  (zIB x0 x1 s5.2.2).bind fun r5=>
  (g_d x0 v4 (zF.mk s6.1 s6.2.1) r5).bind fun r6=>
  (rng (s6.2.2+1)).bind fun v7=>
  ud (.inl (r6.x,r6.v,v7))) (
  ud (.inr (s6.1,s6.2.1)))
def zRr(g_d:zP→Int→zF→zF→Option zF)(x0:zP)(x1:Int)(x2:zF)(s5:(uj)×uj×Int):Option ((uj×uj×Int)⊕(uj×uj)):=
 cond (decide (s5.2.2<(x2.x.length:Int))) (
  (zI (zTb g_d x0 x1 x2 s5) (s5.1,s5.2.1,0)).bind fun r8=>
  (rng (s5.2.2+1)).bind fun v9=>
  ud (.inl (r8.1,r8.2,v9))) (
  ud (.inr (s5.1,s5.2.1)))
def b_f(g_d:zP→Int→zF→zF→Option zF)(x0:zP)(x1:Int)(x2:zF):Option zF:=
 (zK3 x0).bind fun r1=>
 (rng (x1+1)).bind fun v2=>
 (zI (zRr g_d x0 x1 x2) (r1.x,r1.v,v2)).bind fun r10=>
 (zTa x0.m x2.v x1).bind fun r11=>
 (f_A x0.m.Prime r10.2 1 r11).bind fun r12=>
 ud (zF.mk r10.1 r12)
def zOb(g_f:zP→Int→zF→Option zF)(x0:zP)(x1:Int)(x3:zF)(s1:(uj)×uj×Int):Option ((uj×uj×Int)⊕(uj×uj)):=
 (ixO x3.x x1).bind fun v7=>
 cond (decide (s1.2.2<v7)) (
  (g_f x0 x1 (zF.mk s1.1 s1.2.1)).bind fun r8=>
  (rng (s1.2.2+1)).bind fun v9=>
  ud (.inl (r8.x,r8.v,v9))) (
  ud (.inr (s1.1,s1.2.1)))
def b_d(g_f:zP→Int→zF→Option zF)(g_d:zP→Int→zF→zF→Option zF)(x0:zP)(x1:Int)(x2:zF)(x3:zF):Option zF:=
 cond (decide (x1≥(x0.p.zA.length:Int))) (
  (yT (x0.p.zA.length:Int)).bind fun m1=>
  (f_A x0.m.Prime x2.v 1 x3.v).bind fun r2=>
  ud (zF.mk (J1 m1 (0:Int)) r2)) (
  (f_o x2.x).bind fun r3=>
  (f_o x3.x).bind fun r4=>
  (ixO r3 x1).bind fun _=>
  (ixO r4 x1).bind fun _=>
  (zI (zOb g_f x0 x1 x3) (r3.set x1.toNat 0,x2.v,0)).bind fun r10=>
  (rng (x1+1)).bind fun v11=>
  (g_d x0 v11 (zF.mk r10.1 r10.2) (zF.mk (r4.set x1.toNat 0) x3.v)).bind fun r12=>
  (ixO x2.x x1).bind fun v13=>
  (ixO x3.x x1).bind fun v14=>
  (rng (v13+v14)).bind fun v15=>
  (ixO x0.p.zA x1).bind fun v16=>
  cond (decide (v15≥v16)) (
   (ixO x0.p.zA x1).bind fun v17=>
   (rng (v15-v17)).bind fun v18=>
   (rng (x1+1)).bind fun v19=>
   (zLP x0 x1).bind fun r20=>
   (g_d x0 v19 r20 r12).bind fun r21=>
   (f_o r21.x).bind fun r22=>
   (ixO r22 x1).bind fun _=>
   ud (zF.mk (r22.set x1.toNat v18) r21.v)) (
   (f_o r12.x).bind fun r24=>
   (ixO r24 x1).bind fun _=>
   ud (zF.mk (r24.set x1.toNat v15) r12.v)))
mutual
def zLQ:Nat→zP→Int→zF→Option zF
 |0=>fun _ _ _=>ue
 |n+1=>b_f (zLR n)
def zLR:Nat→zP→Int→zF→zF→Option zF
 |0=>fun _ _ _ _=>ue
 |n+1=>b_d (zLQ n) (zLR n)
end
def f_f(x0:zP)(x1:Int)(x2:zF):Option zF:=zB8 fun n=>zLQ n x0 x1 x2
def f_d(x0:zP)(x1:Int)(x2:zF)(x3:zF):Option zF:=zB8 fun n=>zLR n x0 x1 x2 x3
def zK4(x0:zP)(x1:zF)(x2:zF):Option uj:=
 (rng (x0.m.Prime-1)).bind fun v1=>
 (f_A x0.m.Prime x1.v v1 x2.v).bind fun r2=>
 ud r2
def zOc(x0:zP)(x1:Int)(s9:(uk)×Int)(s10:(uj)×uj×Int):Option ((uj×uj×Int)⊕(uj×uj)):=
 (ixO x0.p.zA s9.2).bind fun v3=>
 cond (decide (s10.2.2<v3)) (
  (rng (x1+1)).bind fun v4=>
  (zIB x0 x1 s9.2).bind fun r5=>
  (f_d x0 v4 (zF.mk s10.1 s10.2.1) r5).bind fun r6=>
  (rng (s10.2.2+1)).bind fun v7=>
  ud (.inl (r6.x,r6.v,v7))) (
  ud (.inr (s10.1,s10.2.1)))
def zOd(x0:zP)(x1:Int)(s9:(uk)×Int)(s12:(uk)×Int):Option ((uk×Int)⊕uk):=
 cond (decide (s12.2<(x0.p.zA.length:Int))) (
  (zIB x0 x1 s9.2).bind fun r14=>
  (zIB x0 x1 s12.2).bind fun r15=>
  (zIB x0 s9.2 s12.2).bind fun r16=>
  (f_f x0 x1 r16).bind fun r17=>
  (rng (x1+1)).bind fun v18=>
  (f_d x0 v18 r15 r14).bind fun r19=>
  (rng (x1+1)).bind fun v20=>
  (f_d x0 v20 r14 r17).bind fun r21=>
  (zK4 x0 r19 r21).bind fun r22=>
  (xM s12.1 [r22]).bind fun v23=>
  (rng (s12.2+1)).bind fun v24=>
  ud (.inl (v23,v24))) (
  ud (.inr s12.1))
def zRs(x0:zP)(x1:Int)(s9:(uk)×Int):Option ((uk×Int)⊕uk):=
 cond (decide (s9.2<(x0.p.zA.length:Int))) (
  (zK3 x0).bind fun r2=>
  (zI (zOc x0 x1 s9) (r2.x,r2.v,0)).bind fun r8=>
  (zLP x0 s9.2).bind fun r9=>
  (f_f x0 x1 r9).bind fun r10=>
  (zK4 x0 (zF.mk r8.1 r8.2) r10).bind fun r11=>
  (xM s9.1 [r11]).bind fun v12=>
  (rng (s9.2+1)).bind fun v13=>
  (zI (zOd x0 x1 s9) (v12,v13)).bind fun r25=>
  (rng (s9.2+1)).bind fun v26=>
  ud (.inl (r25,v26))) (
  ud (.inr s9.1))
def zRt(x0:zP)(x1:Int)(s20:(uj)×uj×Int):Option ((uj×uj×Int)⊕(uj×uj)):=
 (ixO x0.p.zA x1).bind fun v35=>
 cond (decide (s20.2.2<v35)) (
  (f_f x0 x1 (zF.mk s20.1 s20.2.1)).bind fun r36=>
  (rng (s20.2.2+1)).bind fun v37=>
  ud (.inl (r36.x,r36.v,v37))) (
  ud (.inr (s20.1,s20.2.1)))
def zOe(x0:zP)(x1:Int)(r28:zF)(s19:(uk)×Int):Option ((uk×Int)⊕uk):=
 cond (decide (s19.2<(x0.p.zA.length:Int))) (
  (zK3 x0).bind fun r33=>
  (ixO r33.x s19.2).bind fun _=>
  (zI (zRt x0 x1) (r33.x.set s19.2.toNat 1,r33.v,0)).bind fun r38=>
  (rng (x1+1)).bind fun v39=>
  (f_d x0 v39 r28 (zF.mk r38.1 r38.2)).bind fun r40=>
  (rng (x1+1)).bind fun v41=>
  (f_d x0 v41 (zF.mk (r33.x.set s19.2.toNat 1) r33.v) r28).bind fun r42=>
  (zK4 x0 r40 r42).bind fun r43=>
  (xM s19.1 [r43]).bind fun v44=>
  (rng (s19.2+1)).bind fun v45=>
  ud (.inl (v44,v45))) (
  ud (.inr s19.1))
def f_h(x0:zP)(x1:Int):Option uk:=
 (rng (x1+1)).bind fun v1=>
 (zI (zRs x0 x1) ([],v1)).bind fun r27=>
 (zLP x0 x1).bind fun r28=>
 (f_f x0 x1 r28).bind fun r29=>
 (zK4 x0 r29 r28).bind fun r30=>
 (xM r27 [r30]).bind fun v31=>
 (rng (x1+1)).bind fun v32=>
 (zI (zOe x0 x1 r28) (v31,v32)).bind fun r46=>
 ud r46
def zK5(x0:zP)(s1:(uk)×Int):Option ((uk×Int)⊕uk):=
 cond (decide (s1.2<(x0.p.zA.length:Int))) (
  (f_h x0 s1.2).bind fun r1=>
  (xM s1.1 r1).bind fun v2=>
  (rng (s1.2+1)).bind fun v3=>
  ud (.inl (v2,v3))) (
  ud (.inr s1.1))
def zTc(x0:zP):Option uk:=
 (zI (zK5 x0) ([],0)).bind fun r4=>
 ud r4
def zK6(r1:(uk))(s1:Int):Option (Int⊕(Unit⊕Bool)):=
 cond (decide (s1<(r1.length:Int))) (
  (ixO r1 s1).bind fun v2=>
  (zSX v2).bind fun r3=>
  cond (!r3) (
   ud (.inr (.inr ug))) (
   (rng (s1+1)).bind fun v4=>
   ud (.inl v4))) (
  ud (.inr (.inl ())))
def zRu(x0:SPr)(x1:zC)(x2:uk):Option Bool:=
 (zTc (zP.mk x0 x1 x2)).bind fun r1=>
 (zI (zK6 r1) 0).bind fun r5=>
 match r5 with
 |(.inl r5)=>
  ud uf
 |(.inr r5)=>
  ud r5
def zRv(x0:SPr)(x1:zC)(x2:uk):Option Bool:=
 (zSV x0).bind fun r1=>
 cond ((x2.length:Int)==r1) (
  (zSY x1 x2).bind fun r2=>
  ud r2) (
  ud ug)
def zTd(x0:SPr)(x1:zC)(x2:uk):Option Bool:=
 (f_i x0 x1 x2).bind fun r1=>
 (f_S r1).bind fun r2=>
 ud (r2==0)
def zK7(x0:uk)(s1:(uk)×Int):Option ((uk×Int)⊕uk):=
 cond (decide (s1.2<(x0.length:Int))) (
  (ixO x0 s1.2).bind fun v1=>
  (f_o v1).bind fun r2=>
  (xM s1.1 [r2]).bind fun v3=>
  (rng (s1.2+1)).bind fun v4=>
  ud (.inl (v3,v4))) (
  ud (.inr s1.1))
def zTe(x0:uk):Option uk:=
 (zI (zK7 x0) ([],0)).bind fun r5=>
 ud r5
def zTf(x0:Int):Option Bool:=
 ud (x0 != 0)
def zK8(x0:uj)(s1:Int):Option (Int⊕(Unit⊕Int)):=
 cond (decide (s1<(x0.length:Int))) (
  (ixO x0 s1).bind fun v1=>
  (zTf v1).bind fun r2=>
  cond r2 (
   ud (.inr (.inr s1))) (
   (rng (s1+1)).bind fun v3=>
   ud (.inl v3))) (
  ud (.inr (.inl ())))
def zTg(x0:uj):Option Int:=
 (zI (zK8 x0) 0).bind fun r4=>
 match r4 with
 |(.inl r4)=>
  ud (-1)
 |(.inr r4)=>
  ud r4
def zG6(x0:uk)(s1:(uj)×Int):Option ((uj×Int)⊕uj):=
 cond (decide (s1.2<(x0.length:Int))) (
  (ixO x0 s1.2).bind fun v1=>
  (zTg v1).bind fun r2=>
  (xM s1.1 [r2]).bind fun v3=>
  (rng (s1.2+1)).bind fun v4=>
  ud (.inl (v3,v4))) (
  ud (.inr s1.1))
def zTh(x0:uk):Option uj:=
 (zI (zG6 x0) ([],0)).bind fun r5=>
 ud r5
def zRw(x0:uk)(s1:(uj)×Int):Option ((uj×Int)⊕uj):=
 cond (decide (s1.2<(x0.length:Int))) (
  (ixO x0 s1.2).bind fun v1=>
  (xM s1.1 v1).bind fun v2=>
  (rng (s1.2+1)).bind fun v3=>
  ud (.inl (v2,v3))) (
  ud (.inr s1.1))
def f_V(x0:uk):Option uj:=
 (zI (zRw x0) ([],0)).bind fun r4=>
 ud r4
def zRx(x0:SPr)(x1:zC)(x2:uk)(s5:(uk)×Int)(s6:(uj)×Int):Option ((uj×Int)⊕uj):=
 (ixO x0.zA s5.2).bind fun v2=>
 cond (decide (s6.2<v2)) (
  (zK0 x1 x2 s6.1 s5.2).bind fun r3=>
  (rng (s6.2+1)).bind fun v4=>
  ud (.inl (r3,v4))) (
  ud (.inr s6.1))
def zRy(x0:SPr)(x1:zC)(x2:uk)(m1:Nat)(s5:(uk)×Int):Option ((uk×Int)⊕uk):=
 cond (decide (s5.2<(x0.zA.length:Int))) (
  (zI (zRx x0 x1 x2 s5) (J1 m1 (0:Int),0)).bind fun r5=>
  (rng (x1.Prime-1)).bind fun v6=>
  (ixO x0.zV s5.2).bind fun v7=>
  (f_N x1 x2 (J1 m1 (0:Int)) v7).bind fun r8=>
  (f_A x1.Prime r5 v6 r8).bind fun r9=>
  (xM s5.1 [r9]).bind fun v10=>
  (rng (s5.2+1)).bind fun v11=>
  ud (.inl (v10,v11))) (
  ud (.inr s5.1))
def zRz(x0:SPr)(x1:zC)(x2:uk)(m1:Nat)(s13:(uk)×Int)(s14:(uk)×Int):Option ((uk×Int)⊕uk):=
 cond (decide (s14.2<(x0.zA.length:Int))) (
  (zK0 x1 x2 (J1 m1 (0:Int)) s14.2).bind fun r14=>
  (zK0 x1 x2 r14 s13.2).bind fun r15=>
  (zK0 x1 x2 (J1 m1 (0:Int)) s13.2).bind fun r16=>
  (ixO x0.zD s13.2).bind fun v17=>
  (rng (s14.2-s13.2)).bind fun v18=>
  (rng (v18-1)).bind fun v19=>
  (ixO v17 v19).bind fun v20=>
  (f_N x1 x2 r16 v20).bind fun r21=>
  (rng (x1.Prime-1)).bind fun v22=>
  (f_A x1.Prime r15 v22 r21).bind fun r23=>
  (xM s14.1 [r23]).bind fun v24=>
  (rng (s14.2+1)).bind fun v25=>
  ud (.inl (v24,v25))) (
  ud (.inr s14.1))
def zR0(x0:SPr)(x1:zC)(x2:uk)(m1:Nat)(s13:(uk)×Int):Option ((uk×Int)⊕uk):=
 cond (decide (s13.2<(x0.zA.length:Int))) (
  (rng (s13.2+1)).bind fun v13=>
  (zI (zRz x0 x1 x2 m1 s13) (s13.1,v13)).bind fun r26=>
  (rng (s13.2+1)).bind fun v27=>
  ud (.inl (r26,v27))) (
  ud (.inr s13.1))
def f_m(x0:SPr)(x1:zC)(x2:uk):Option uk:=
 (yT x1.Dim).bind fun m1=>
 (zI (zRy x0 x1 x2 m1) ([],0)).bind fun r12=>
 (zI (zR0 x0 x1 x2 m1) (r12,0)).bind fun r28=>
 ud r28
def zR1(x0:SPr)(x1:zC)(x2:uk)(x3:uk):Option Int:=
 (zQ5 x0 x1).bind fun r1=>
 cond (!r1) (
  ud 1) (
  (zRq x0 x1 x2).bind fun r2=>
  cond (!r2) (
   ud 1) (
   (zRq x0 x1 x3).bind fun r3=>
   cond (!r3) (
    ud 1) (
    (zRu x0 x1 x2).bind fun r4=>
    cond (!r4) (
     ud 5) (
     (zRu x0 x1 x3).bind fun r5=>
     cond (!r5) (
      ud 5) (
      ud 0)))))
def zR2(x0:SPr)(x1:zC)(x2:List uk)(s1:Int):Option (Int⊕(Unit⊕Int)):=
 cond (decide (s1<(x2.length:Int))) (
  (ixO x2 s1).bind fun v2=>
  (zRv x0 x1 v2).bind fun r3=>
  cond (!r3) (
   ud (.inr (.inr 1))) (
   (rng (s1+1)).bind fun v4=>
   ud (.inl v4))) (
  ud (.inr (.inl ())))
def zR3(x0:SPr)(x1:zC)(x2:List uk)(s3:Int):Option (Int⊕(Unit⊕Int)):=
 cond (decide (s3<(x2.length:Int))) (
  (ixO x2 s3).bind fun v6=>
  (zTd x0 x1 v6).bind fun r7=>
  cond (!r7) (
   ud (.inr (.inr 5))) (
   (rng (s3+1)).bind fun v8=>
   ud (.inl v8))) (
  ud (.inr (.inl ())))
def f_O(x0:SPr)(x1:zC)(x2:List uk):Option Int:=
 (f_z x0 x1).bind fun r1=>
 cond (!r1) (
  ud 1) (
  (zI (zR2 x0 x1 x2) 0).bind fun r5=>
  match r5 with
  |(.inl r5)=>
   (zI (zR3 x0 x1 x2) 0).bind fun r9=>
   match r9 with
   |(.inl r9)=>
    ud 0
   |(.inr r9)=>
    ud r9
  |(.inr r5)=>
   ud r5)
def zTi(x0:SPr)(x1:zC)(x2:uk):Option (SPr×Int):=
 (f_O x0 x1 [x2]).bind fun r1=>
 cond (r1 != 0) (
  ud ((SPr.mk [] [] []),r1)) (
  (zSW x0 x1 x2).bind fun r2=>
  ud (r2.1,r2.2))
def zK9(x0:SPr)(x2:uk)(s1:(uk)×Int):Option ((uk×Int)⊕uk):=
 cond (decide (s1.2<(x2.length:Int))) (
  (zKo (x0.zA.length:Int) s1.2).bind fun r1=>
  (ixO x2 s1.2).bind fun v2=>
  (xM r1 v2).bind fun v3=>
  (xM s1.1 [v3]).bind fun v4=>
  (rng (s1.2+1)).bind fun v5=>
  ud (.inl (v4,v5))) (
  ud (.inr s1.1))
def zTj(x0:SPr)(x1:zC)(x2:uk):Option uk:=
 (zI (zK9 x0 x2) ([],0)).bind fun r6=>
 ud r6
def zR4(x0:Int)(x1:uk)(s1:(uk)×Int):Option ((uk×Int)⊕uk):=
 cond (decide (s1.2<(x1.length:Int))) (
  (ixO x1 s1.2).bind fun v1=>
  (zI9 x0 s1.2).bind fun r2=>
  (f_q [r2,v1]).bind fun r3=>
  (xM s1.1 [r3]).bind fun v4=>
  (rng (s1.2+1)).bind fun v5=>
  ud (.inl (v4,v5))) (
  ud (.inr s1.1))
def f_X(x0:Int)(x1:uk):Option uk:=
 (zI (zR4 x0 x1) ([],0)).bind fun r6=>
 ud r6
structure xC where
 p:SPr
 base:uk
abbrev kW(x:xC):T:=.agg [(Pt yO) x.p,(L 1 (Nz 1 I)) x.base]
instance:Enc kW:=.of fun _=>zNo ⟨Enc.t (f:=(Pt yO)) inferInstance _,Enc.t (f:=(L 1 (Nz 1 I))) inferInstance _,trivial⟩
def f_P(x0:SPr)(x1:uj)(x2:Int):Option uj:=
 cond (decide (x2<0)) (
  (zNU x0 x1).bind fun r1=>
  (rng (0-x2)).bind fun v2=>
  (f_K x0 0 r1 v2).bind fun r3=>
  ud r3) (
  (f_K x0 0 x1 x2).bind fun r4=>
  ud r4)
def f_R(x0:SPr)(x1:uj)(x2:uj):Option uj:=
 (f_a x0 0 x1 x2).bind fun r1=>
 ud r1
def zR5(x0:SPr)(x1:uk)(s1:(uj)×Int):Option ((uj×Int)⊕(uj⊕(Int×uj))):=
 cond (decide (s1.2<(x1.length:Int))) (
  (ixO s1.1 s1.2).bind fun v2=>
  cond (v2==0) (
   (rng (s1.2+1)).bind fun v3=>
   ud (.inl (s1.1,v3))) (
   (ixO x1 s1.2).bind fun v4=>
   cond ((v4.length:Int)==0) (
    ud (.inr (.inr (s1.2,s1.1)))) (
    (ixO x1 s1.2).bind fun v5=>
    (ixO s1.1 s1.2).bind fun v6=>
    (rng (0-v6)).bind fun v7=>
    (f_P x0 v5 v7).bind fun r8=>
    (f_R x0 s1.1 r8).bind fun r9=>
    (rng (s1.2+1)).bind fun v10=>
    ud (.inl (r9,v10))))) (
  ud (.inr (.inl s1.1)))
def f_W(x0:SPr)(x1:uk)(x2:uj):Option (Int×uj):=
 (f_o x2).bind fun r1=>
 (zI (zR5 x0 x1) (r1,0)).bind fun r11=>
 match r11 with
 |(.inl r11)=>
  ud ((x1.length:Int),r11)
 |(.inr r11)=>
  ud r11
def zR6(x0:SPr)(x1:uj)(x2:uj):Option uj:=
 (f_R x0 x2 x1).bind fun r1=>
 (zNU x0 r1).bind fun r2=>
 (f_R x0 x1 x2).bind fun r3=>
 (f_R x0 r2 r3).bind fun r4=>
 ud r4
def zR7(x0:SPr)(x1:uk)(s5:(uk)×Int)(s6:(uj)×Int):Option ((uj×Int)⊕uj):=
 cond (decide (s6.2<(x1.length:Int))) (
  (ixO s5.1 s6.2).bind fun v7=>
  cond (decide ((v7.length:Int)> 0)) (
   (ixO s6.1 s6.2).bind fun v8=>
   cond (v8 != 0) (
    (ixO s5.1 s6.2).bind fun v9=>
    (ixO s6.1 s6.2).bind fun v10=>
    (rng (0-v10)).bind fun v11=>
    (f_P x0 v9 v11).bind fun r12=>
    (f_R x0 s6.1 r12).bind fun r13=>
    (rng (s6.2+1)).bind fun v14=>
    ud (.inl (r13,v14))) (
    (rng (s6.2+1)).bind fun v15=>
    ud (.inl (s6.1,v15)))) (
   (rng (s6.2+1)).bind fun v16=>
   ud (.inl (s6.1,v16)))) (
  ud (.inr s6.1))
def zTk(x0:SPr)(x1:uk)(s5:(uk)×Int):Option ((uk×Int)⊕uk):=
 cond (decide (s5.2≥0)) (
  (ixO x1 s5.2).bind fun v3=>
  cond ((v3.length:Int)==0) (
   (rng (s5.2-1)).bind fun v4=>
   ud (.inl (s5.1,v4))) (
   (ixO x1 s5.2).bind fun v5=>
   (rng (s5.2+1)).bind fun v6=>
   (zI (zR7 x0 x1 s5) (v5,v6)).bind fun r17=>
   (ixO s5.1 s5.2).bind fun _=>
   (rng (s5.2-1)).bind fun v19=>
   ud (.inl (s5.1.set s5.2.toNat r17,v19)))) (
  ud (.inr s5.1))
def zOf(r20:(uk))(s9:(uk)×Int):Option ((uk×Int)⊕uk):=
 cond (decide (s9.2<(r20.length:Int))) (
  (ixO r20 s9.2).bind fun v21=>
  cond (decide ((v21.length:Int)> 0)) (
   (ixO r20 s9.2).bind fun v22=>
   (xM s9.1 [v22]).bind fun v23=>
   (rng (s9.2+1)).bind fun v24=>
   ud (.inl (v23,v24))) (
   (rng (s9.2+1)).bind fun v25=>
   ud (.inl (s9.1,v25)))) (
  ud (.inr s9.1))
def f_s(x0:SPr)(x1:uk):Option uk:=
 (yT (x1.length:Int)).bind fun m1=>
 (rng ((x1.length:Int)-1)).bind fun v2=>
 (zI (zTk x0 x1) (J1 m1 ([]:uj),v2)).bind fun r20=>
 (zI (zOf r20) ([],0)).bind fun r26=>
 ud r26
def zOg(x0:SPr)(s5:(uk)×uk)(r6:Int×uj)(r10:(uj))(s6:(uk)×Int):Option ((uk×Int)⊕uk):=
 cond (decide (s6.2<(x0.zA.length:Int))) (
  cond (s6.2 != r6.1) (
   (ixO (s5.1.set r6.1.toNat r10) s6.2).bind fun v15=>
   cond (decide ((v15.length:Int)> 0)) (
    (zR6 x0 r10 v15).bind fun r16=>
    (xM s6.1 [r16]).bind fun v17=>
    (rng (s6.2+1)).bind fun v18=>
    ud (.inl (v17,v18))) (
    (rng (s6.2+1)).bind fun v19=>
    ud (.inl (s6.1,v19)))) (
   (rng (s6.2+1)).bind fun v20=>
   ud (.inl (s6.1,v20)))) (
  ud (.inr s6.1))
def zOh(x0:SPr)(s5:(uk)×uk):Option ((uk×uk)⊕uk):=
 cond (decide ((s5.2.length:Int)> 0)) (
  (rng ((s5.2.length:Int)-1)).bind fun v3=>
  (ixO s5.2 v3).bind fun v4=>
  (yB s5.2 0 v3).bind fun v5=>
  (f_W x0 s5.1 v4).bind fun r6=>
  cond (r6.1==(x0.zA.length:Int)) (
   ud (.inl (s5.1,v5))) (
   (ixO r6.2 r6.1).bind fun v7=>
   (ixO x0.zA r6.1).bind fun v8=>
   (zSS v7 v8).bind fun r9=>
   (f_P x0 r6.2 r9).bind fun r10=>
   (ixO s5.1 r6.1).bind fun _=>
   (xM v5 [r6.2]).bind fun v12=>
   (f_P x0 r10 v8).bind fun r13=>
   (xM v12 [r13]).bind fun v14=>
   (zI (zOg x0 s5 r6 r10) (v14,0)).bind fun r21=>
   ud (.inl (s5.1.set r6.1.toNat r10,r21)))) (
  ud (.inr s5.1))
def f_x(x0:SPr)(x1:uk):Option uk:=
 (yT (x0.zA.length:Int)).bind fun m1=>
 (zTe x1).bind fun r2=>
 (zI (zOh x0) (J1 m1 ([]:uj),r2)).bind fun r22=>
 (f_s x0 r22).bind fun r23=>
 ud r23
def zOi(x0:SPr)(x1:zC)(x2:uk)(x3:uk):Option (uk×Int):=
 (zQ5 x0 x1).bind fun r1=>
 cond (!r1) (
  ud ([],1)) (
  (zRl x0 x1 x3).bind fun r2=>
  cond (!r2) (
   ud ([],1)) (
   (zR1 x0 x1 x2 x2).bind fun r3=>
   cond (r3 != 0) (
    ud ([],r3)) (
    (zVa x0 x1 x2).bind fun r4=>
    cond (r4.2 != 0) (
     ud ([],r4.2)) (
     (f_V x2).bind fun r5=>
     (f_m x0 x1 x3).bind fun r6=>
     (f_V r6).bind fun r7=>
     (f_A x1.Prime r5 1 r7).bind fun r8=>
     (zSX r8).bind fun r9=>
     cond (!r9) (
      ud ([],4)) (
      (zTj x0 x1 x3).bind fun r10=>
      (f_x r4.1 r10).bind fun r11=>
      ud (r11,0))))))
def zTl(x0:SPr):Option xC:=
 (yT (x0.zA.length:Int)).bind fun m1=>
 ud (xC.mk x0 (J1 m1 ([]:uj)))
def zR8(x0:uk):Option uk:=
 (xM [] x0).bind fun v2=>
 ud v2
def zR9(x0:uj)(s1:Int):Option (Int⊕(Unit⊕Int)):=
 cond (decide (s1<(x0.length:Int))) (
  (ixO x0 s1).bind fun v1=>
  cond (v1 != 0) (
   ud (.inr (.inr s1))) (
   (rng (s1+1)).bind fun v2=>
   ud (.inl v2))) (
  ud (.inr (.inl ())))
def f_B(x0:uj):Option Int:=
 (zI (zR9 x0) 0).bind fun r3=>
 match r3 with
 |(.inl r3)=>
  ud (x0.length:Int)
 |(.inr r3)=>
  ud r3
def zNc(x0:xC)(s1:(uj)×Int):Option ((uj×Int)⊕uj):=
 cond (decide (s1.2<(s1.1.length:Int))) (
  (ixO x0.base s1.2).bind fun v2=>
  cond (!v2.isEmpty) (
   (ixO x0.base s1.2).bind fun v3=>
   (ixO x0.p.zA s1.2).bind fun v4=>
   (ixO s1.1 s1.2).bind fun v5=>
   (rng (v4-v5)).bind fun v6=>
   (f_E x0.p v3 v6).bind fun r7=>
   (zI8 x0.p r7 s1.1).bind fun r8=>
   (ixO r8 s1.2).bind fun v9=>
   cond (v9 != 0) (
    (ixO x0.base s1.2).bind fun v10=>
    (ixO x0.p.zA s1.2).bind fun v11=>
    (ixO r8 s1.2).bind fun v12=>
    (rng (v11-v12)).bind fun v13=>
    (f_E x0.p v10 v13).bind fun r14=>
    (zI8 x0.p r14 r8).bind fun r15=>
    (f_B r15).bind fun r16=>
    ud (.inl (r15,r16))) (
    (f_B r8).bind fun r17=>
    ud (.inl (r8,r17)))) (
   ud (.inr s1.1))) (
  ud (.inr s1.1))
def zRA(x0:xC)(x1:uj):Option (uj×xC):=
 (f_B x1).bind fun r1=>
 (zI (zNc x0) (x1,r1)).bind fun r18=>
 ud (r18,x0)
def zRB(x0:SPr)(x1:uj)(x2:uj):Option uj:=
 (f_F x0 x1).bind fun r1=>
 (zNS x0 x1 x2).bind fun r2=>
 (zI8 x0 r1 r2).bind fun r3=>
 ud r3
def zOj(r3:(uj)×xC)(r10:(uj))(s6:(uk)×Int):Option ((uk×Int)⊕uk):=
 cond (decide (s6.2<(r3.2.base.length:Int))) (
  (ixO r3.2.base s6.2).bind fun v14=>
  cond (!v14.isEmpty) (
   (zRB r3.2.p v14 r10).bind fun r15=>
   (xM s6.1 [r15]).bind fun v16=>
   (rng (s6.2+1)).bind fun v17=>
   ud (.inl (v16,v17))) (
   (rng (s6.2+1)).bind fun v18=>
   ud (.inl (s6.1,v18)))) (
  ud (.inr s6.1))
def zOl(s5:SPr×uk×Bool×uk):Option ((SPr×uk×Bool×uk)⊕(SPr×uk×Bool)):=
 cond (decide ((s5.2.2.2.length:Int)> 0)) (
  (ixO s5.2.2.2 0).bind fun v2=>
  (zRA (xC.mk s5.1 s5.2.1) v2).bind fun r3=>
  (yB s5.2.2.2 1 s5.2.2.2.length).bind fun v4=>
  (f_B r3.1).bind fun r5=>
  cond (r5==(r3.1.length:Int)) (
   ud (.inl (r3.2.p,r3.2.base,s5.2.2.1,v4))) (
   (ixO r3.1 r5).bind fun v6=>
   (ixO r3.2.p.zA r5).bind fun v7=>
   (f_U v6 v7).bind fun r8=>
   (xM v4 [r3.1]).bind fun v9=>
   (f_E r3.2.p r3.1 r8.1).bind fun r10=>
   (ixO r3.2.p.zA r5).bind fun v11=>
   (f_E r3.2.p r10 v11).bind fun r12=>
   (xM v9 [r12]).bind fun v13=>
   (zI (zOj r3 r10) (v13,0)).bind fun r19=>
   (ixO r3.2.base r5).bind fun _=>
   (neO r10).bind fun _=>
   ud (.inl (r3.2.p,r3.2.base.set r5.toNat r10,uf,r19)))) (
  ud (.inr (s5.1,s5.2.1,s5.2.2.1)))
def f_y(x0:xC)(x1:uk):Option (Bool×xC):=
 (zR8 x1).bind fun r1=>
 (zI zOl (x0.p,x0.base,ug,r1)).bind fun r22=>
 ud (r22.2.2,(xC.mk r22.1 r22.2.1))
def zOm(x0:SPr)(x1:uk)(s5:(uj)×Int)(v3:Int)(s6:(uj)):Option (uj⊕uj):=
 (ixO s6 v3).bind fun v4=>
 cond (v4 != 0) (
  (ixO x1 s5.2).bind fun v5=>
  (f_b x0 s6 v5).bind fun r6=>
  ud (.inl r6)) (
  ud (.inr s6))
def zLS(x0:SPr)(x1:uk)(r2:(uj))(s5:(uj)×Int):Option ((uj×Int)⊕uj):=
 cond (decide (s5.2<(r2.length:Int))) (
  (ixO r2 s5.2).bind fun v3=>
  (zI (zOm x0 x1 s5 v3) s5.1).bind fun r7=>
  (rng (s5.2+1)).bind fun v8=>
  ud (.inl (r7,v8))) (
  ud (.inr s5.1))
def f_w(x0:SPr)(x1:uk)(x2:uj):Option uj:=
 (f_D x2).bind fun r1=>
 (zTh x1).bind fun r2=>
 (zI (zLS x0 x1 r2) (r1,0)).bind fun r9=>
 ud r9
def zNd(x0:xC)(s1:(uk)×Int):Option ((uk×Int)⊕uk):=
 cond (decide (s1.2≥0)) (
  (ixO x0.base s1.2).bind fun v2=>
  cond (!v2.isEmpty) (
   (ixO x0.base s1.2).bind fun v3=>
   (f_w x0.p s1.1 v3).bind fun r4=>
   (xM [r4] s1.1).bind fun v5=>
   (rng (s1.2-1)).bind fun v6=>
   ud (.inl (v5,v6))) (
   (rng (s1.2-1)).bind fun v7=>
   ud (.inl (s1.1,v7)))) (
  ud (.inr s1.1))
def zRC(x0:xC):Option uk:=
 (rng ((x0.base.length:Int)-1)).bind fun v1=>
 (zI (zNd x0) ([],v1)).bind fun r8=>
 ud r8
def zOn(x0:SPr)(x1:uk):Option uk:=
 (zTl x0).bind fun r1=>
 (f_y r1 x1).bind fun r2=>
 (zRC r2.2).bind fun r3=>
 ud r3
def zLT(x0:SPr)(x1:zC)(x2:uk)(x3:uk):Option (uk×Int):=
 (f_z x0 x1).bind fun r1=>
 cond (!r1) (
  ud ([],1)) (
  (zRv x0 x1 x2).bind fun r2=>
  cond (!r2) (
   ud ([],1)) (
   (zRo x0 x1 x3).bind fun r3=>
   cond (!r3) (
    ud ([],1)) (
    (zTi x0 x1 x2).bind fun r4=>
    cond (r4.2 != 0) (
     ud ([],r4.2)) (
     (zSZ x0 x1 x3).bind fun r5=>
     (f_q r5).bind fun r6=>
     (f_q x2).bind fun r7=>
     (f_H r6 r7 1 x1.Prime).bind fun r8=>
     (f_Y r8).bind fun r9=>
     cond (!r9) (
      ud ([],4)) (
      (f_X (x0.zA.length:Int) x3).bind fun r10=>
      (zOn r4.1 r10).bind fun r11=>
      ud (r11,0))))))
def zRD(x0:SPr)(x1:zC)(x2:uk)(x3:uk):Option Bool:=
 (zS8 x0 1048576).bind fun r1=>
 cond (decide (r1<0)) (
  ud uf) (
  (zS9 x1 r1).bind fun r2=>
  cond (decide (r2<0)) (
   ud uf) (
   (zNL x2 r2).bind fun r3=>
   cond (decide (r3<0)) (
    ud uf) (
    (zNL x3 r3).bind fun r4=>
    cond (decide (r4<0)) (
     ud uf) (
     (zL7 x0).bind fun r5=>
     (zL8 x1).bind fun r6=>
     (f_r x2).bind fun r7=>
     (f_r x3).bind fun r8=>
     (zOi r5 r6 r7 r8).bind fun r9=>
     (zL7 x0).bind fun r10=>
     (zL8 x1).bind fun r11=>
     (f_r x2).bind fun r12=>
     (f_r x3).bind fun r13=>
     (zLT r10 r11 r12 r13).bind fun r14=>
     (f_C r14.1 r9.1).bind fun r15=>
     cond (!r15) (
      ud ug) (
      cond (r14.2 != r9.2) (
       ud ug) (
       (zL7 x0).bind fun r16=>
       (zSO r10 r16).bind fun r17=>
       cond (!r17) (
        ud ug) (
        (zL8 x1).bind fun r18=>
        (zSN r11 r18).bind fun r19=>
        cond (!r19) (
         ud ug) (
         (f_r x2).bind fun r20=>
         (f_C r12 r20).bind fun r21=>
         cond (!r21) (
          ud ug) (
          (f_r x3).bind fun r22=>
          (f_C r13 r22).bind fun r23=>
          cond (!r23) (
           ud ug) (
           (zSP r10 1).bind fun r24=>
           (zSQ r11 r24.1).bind fun r25=>
           (f_Q r12 r25.1).bind fun r26=>
           (f_Q r13 r26.1).bind fun r27=>
           cond (decide (r27.1<0)) (
            ud ug) (
            (f_C r14.1 r9.1).bind fun r28=>
            cond (!r28) (
             ud ug) (
             cond (r14.2 != r9.2) (
              ud ug) (
              (f_Q r14.1 1).bind fun r29=>
              (zSR r29.2 1).bind fun r30=>
              cond (decide (r30<0)) (
               ud ug) (
               cond (r30 != r29.1) (
                ud ug) (
                (zL7 x0).bind fun r31=>
                (zL8 x1).bind fun r32=>
                (f_r x2).bind fun r33=>
                (f_r x3).bind fun r34=>
                (zLT r31 r32 r33 r34).bind fun r35=>
                (f_C r35.1 r9.1).bind fun r36=>
                cond (!r36) (
                 ud ug) (
                 cond (r35.2 != r9.2) (
                  ud ug) (
                  (zSR r29.2 1).bind fun r37=>
                  cond (decide (r37<0)) (
                   ud ug) (
                   cond (r37 != r29.1) (
                    ud ug) (
                    ud uf)))))))))))))))))))
end Go.Wk
