/- The program's KeepsRank returns what the reference's returns,for all arguments;no conditions. -/
import Derived.Test.YtmoaeebpmcafpaaGreatAbC
open List renaming replicate→J1
open Int renaming fdiv→Gg
open Option renaming some→iG,none→iH
open Bool renaming true→iI,false→iJ
noncomputable section
namespace Go.Wk
open Go Go.Ab
abbrev iN:=List Int
abbrev iO:=List iN
structure SPr where
 zA:iN
 zS:iO
 zG:List iO
abbrev yL(x:SPr):T:=.agg [(L 1 I) x.zA,(L 1 (L 1 I)) x.zS,(L 1 (L 1 (L 1 I))) x.zG]
instance:Enc yL:=.of fun _=>zNS ⟨Enc.t (f:=(L 1 I)) inferInstance _,Enc.t (f:=(L 1 (L 1 I))) inferInstance _,Enc.t (f:=(L 1 (L 1 (L 1 I)))) inferInstance _,trivial⟩
structure zB where
 Prime:Int
 Dim:Int
 zF:List iO
abbrev zV(x:zB):T:=.agg [I x.Prime,I x.Dim,(L 1 (L 1 (L 1 I))) x.zF]
instance:Enc zV:=.of fun _=>zNS ⟨Enc.t (f:=I) inferInstance _,Enc.t (f:=I) inferInstance _,Enc.t (f:=(L 1 (L 1 (L 1 I)))) inferInstance _,trivial⟩
structure xL where
 Kind:Int
 zYq:Int
 zYs:Int
 zVK:Int
abbrev zHd(x:xL):T:=.agg [I x.Kind,I x.zYq,I x.zYs,I x.zVK]
instance:Enc zHd:=.of fun _=>zNS ⟨Enc.t (f:=I) inferInstance _,Enc.t (f:=I) inferInstance _,Enc.t (f:=I) inferInstance _,Enc.t (f:=I) inferInstance _,trivial⟩
structure zQ where
 Prime:Int
 xJ:Int
 Rows:iO
abbrev zP(x:zQ):T:=.agg [I x.Prime,I x.xJ,(L 1 (L 1 I)) x.Rows]
instance:Enc zP:=.of fun _=>zNS ⟨Enc.t (f:=I) inferInstance _,Enc.t (f:=I) inferInstance _,Enc.t (f:=(L 1 (L 1 I))) inferInstance _,trivial⟩
structure yA where
 p:SPr
 m:zB
 zND:iO
structure zJ where
 x:iN
 v:iN
abbrev xF(x:zJ):T:=.agg [(L 1 I) x.x,(L 1 I) x.v]
instance:Enc xF:=.of fun _=>zNS ⟨Enc.t (f:=(L 1 I)) inferInstance _,Enc.t (f:=(L 1 I)) inferInstance _,trivial⟩
def zUg(x0:iN)(x1:Int):Option Int:=
 (rng (x1-(x0.length:Int))).bind fun v1=>
 cond (decide (v1<0)) (
  iG (-1)) (
  iG v1)
def zYk(x0:iO)(s1:Int×Int):Option ((Int×Int)⊕(Int⊕Int)):=
 cond (decide (s1.2<(x0.length:Int))) (
  (ixO x0 s1.2).bind fun v2=>
  (zUg v2 s1.1).bind fun r3=>
  cond (decide (r3<0)) (
   iG (.inr (.inr (-1)))) (
   (rng (s1.2+1)).bind fun v4=>
   iG (.inl (r3,v4)))) (
  iG (.inr (.inl s1.1)))
def zUh(x0:iO)(x1:Int):Option Int:=
 (rng (x1-(x0.length:Int))).bind fun v1=>
 cond (decide (v1<0)) (
  iG (-1)) (
  (zI (zYk x0) (v1,0)).bind fun r5=>
  match r5 with
  |(.inl r5)=>
   iG r5
  |(.inr r5)=>
   iG r5)
def zYl(x0:List iO)(s1:Int×Int):Option ((Int×Int)⊕(Int⊕Int)):=
 cond (decide (s1.2<(x0.length:Int))) (
  (ixO x0 s1.2).bind fun v2=>
  (zUh v2 s1.1).bind fun r3=>
  cond (decide (r3<0)) (
   iG (.inr (.inr (-1)))) (
   (rng (s1.2+1)).bind fun v4=>
   iG (.inl (r3,v4)))) (
  iG (.inr (.inl s1.1)))
def zWI(x0:List iO)(x1:Int):Option Int:=
 (rng (x1-(x0.length:Int))).bind fun v1=>
 cond (decide (v1<0)) (
  iG (-1)) (
  (zI (zYl x0) (v1,0)).bind fun r5=>
  match r5 with
  |(.inl r5)=>
   iG r5
  |(.inr r5)=>
   iG r5)
def zWJ(x0:SPr)(x1:Int):Option Int:=
 (zUg x0.zA x1).bind fun r1=>
 cond (decide (r1<0)) (
  iG (-1)) (
  (zUh x0.zS r1).bind fun r2=>
  cond (decide (r2<0)) (
   iG (-1)) (
   (zWI x0.zG r2).bind fun r3=>
   cond (decide (r3<0)) (
    iG (-1)) (
    iG r3)))
def zWK(x0:zB)(x1:Int):Option Int:=
 (zWI x0.zF x1).bind fun r1=>
 cond (decide (r1<0)) (
  iG (-1)) (
  iG r1)
def zUi(x0:iN)(s1:(iN)×Int):Option ((iN×Int)⊕iN):=
 cond (decide (s1.2<(x0.length:Int))) (
  (ixO x0 s1.2).bind fun v2=>
  (ixO s1.1 s1.2).bind fun _=>
  (rng (s1.2+1)).bind fun v4=>
  iG (.inl (s1.1.set s1.2.toNat v2,v4))) (
  iG (.inr s1.1))
def zRx(x0:iN):Option iN:=
 (xG (x0.length:Int)).bind fun m1=>
 (zI (zUi x0) (J1 m1 (0:Int),0)).bind fun r5=>
 iG r5
def zZG(x0:iO)(s1:(iO)×Int):Option ((iO×Int)⊕iO):=
 cond (decide (s1.2<(x0.length:Int))) (
  (ixO x0 s1.2).bind fun v2=>
  (zRx v2).bind fun r3=>
  (ixO s1.1 s1.2).bind fun _=>
  (rng (s1.2+1)).bind fun v5=>
  iG (.inl (s1.1.set s1.2.toNat r3,v5))) (
  iG (.inr s1.1))
def f_Z(x0:iO):Option iO:=
 (xG (x0.length:Int)).bind fun m1=>
 (zI (zZG x0) (J1 m1 ([]:iN),0)).bind fun r6=>
 iG r6
def zUj(x0:List iO)(s1:(List iO)×Int):Option (((List iO)×Int)⊕(List iO)):=
 cond (decide (s1.2<(x0.length:Int))) (
  (ixO x0 s1.2).bind fun v2=>
  (f_Z v2).bind fun r3=>
  (ixO s1.1 s1.2).bind fun _=>
  (rng (s1.2+1)).bind fun v5=>
  iG (.inl (s1.1.set s1.2.toNat r3,v5))) (
  iG (.inr s1.1))
def zUk(x0:List iO):Option (List iO):=
 (xG (x0.length:Int)).bind fun m1=>
 (zI (zUj x0) (J1 m1 ([]:iO),0)).bind fun r6=>
 iG r6
def zRy(x0:SPr):Option SPr:=
 (zRx x0.zA).bind fun r1=>
 (f_Z x0.zS).bind fun r2=>
 (zUk x0.zG).bind fun r3=>
 iG (SPr.mk r1 r2 r3)
def zRz(x0:zB):Option zB:=
 (zUk x0.zF).bind fun r1=>
 iG (zB.mk x0.Prime x0.Dim r1)
def zWL(x0:Int):Option Bool:=
 cond (x0==2) (
  iG iI) (
  cond (x0==3) (
   iG iI) (
   cond (x0==5) (
    iG iI) (
    iG (x0==7))))
def zNe(x0:iN)(s1:Int×Int):Option ((Int×Int)⊕Int):=
 cond (decide (s1.2<(x0.length:Int))) (
  cond (decide (s1.1≤729)) (
   (ixO x0 s1.2).bind fun v1=>
   (rng (s1.1*v1)).bind fun v2=>
   (rng (s1.2+1)).bind fun v3=>
   iG (.inl (v2,v3))) (
   (rng (s1.2+1)).bind fun v4=>
   iG (.inl (s1.1,v4)))) (
  iG (.inr s1.1))
def zWM(x0:iN):Option Int:=
 (zI (zNe x0) (1,0)).bind fun r5=>
 iG r5
def zUl(x0:Int)(x1:Int)(x2:Int):Option Bool:=
 cond (decide (x0≥x1)) (
  iG (decide (x0≤x2))) (
  iG iJ)
def zQy(x0:iN)(x1:iN)(x2:Int)(s1:Int):Option (Int⊕(Unit⊕Bool)):=
 cond (decide (s1<(x1.length:Int))) (
  (ixO x1 s1).bind fun v1=>
  (ixO x0 s1).bind fun v2=>
  (rng (v2-1)).bind fun v3=>
  (zUl v1 0 v3).bind fun r4=>
  cond (!r4) (
   iG (.inr (.inr iJ))) (
   cond (decide (s1≤x2)) (
    (ixO x1 s1).bind fun v5=>
    cond (v5 != 0) (
     iG (.inr (.inr iJ))) (
     (rng (s1+1)).bind fun v6=>
     iG (.inl v6))) (
    (rng (s1+1)).bind fun v5=>
    iG (.inl v5)))) (
  iG (.inr (.inl ())))
def zUm(x0:iN)(x1:iN)(x2:Int):Option Bool:=
 cond ((x1.length:Int) != (x0.length:Int)) (
  iG iJ) (
  (zI (zQy x0 x1 x2) 0).bind fun r6=>
  match r6 with
  |(.inl r6)=>
   iG iI
  |(.inr r6)=>
   iG r6)
def zUn(x0:SPr)(s1:Int):Option (Int⊕(Unit⊕Bool)):=
 cond (decide (s1<(x0.zA.length:Int))) (
  (ixO x0.zA s1).bind fun v1=>
  (zWL v1).bind fun r2=>
  cond (!r2) (
   iG (.inr (.inr iJ))) (
   (rng (s1+1)).bind fun v3=>
   iG (.inl v3))) (
  iG (.inr (.inl ())))
def zUo(x0:SPr)(s7:Int)(s8:Int):Option (Int⊕(Unit⊕Bool)):=
 (ixO x0.zG s7).bind fun v11=>
 cond (decide (s8<(v11.length:Int))) (
  (ixO x0.zG s7).bind fun v12=>
  (ixO v12 s8).bind fun v13=>
  (zUm x0.zA v13 s7).bind fun r14=>
  cond (!r14) (
   iG (.inr (.inr iJ))) (
   (rng (s8+1)).bind fun v15=>
   iG (.inl v15))) (
  iG (.inr (.inl ())))
def zOH(x0:SPr)(s7:Int):Option (Int⊕(Unit⊕Bool)):=
 cond (decide (s7<(x0.zA.length:Int))) (
  (ixO x0.zS s7).bind fun v6=>
  (zUm x0.zA v6 s7).bind fun r7=>
  cond (!r7) (
   iG (.inr (.inr iJ))) (
   (ixO x0.zG s7).bind fun v8=>
   (rng ((x0.zA.length:Int)-1)).bind fun v9=>
   (rng (v9-s7)).bind fun v10=>
   cond ((v8.length:Int) != v10) (
    iG (.inr (.inr iJ))) (
    (zI (zUo x0 s7) 0).bind fun r16=>
    match r16 with
    |(.inl r16)=>
     (rng (s7+1)).bind fun v17=>
     iG (.inl v17)
    |(.inr r16)=>
     iG (.inr (.inr r16))))) (
  iG (.inr (.inl ())))
def f_A(x0:SPr):Option Bool:=
 cond (decide ((x0.zA.length:Int)> 6)) (
  iG iJ) (
  cond ((x0.zS.length:Int) != (x0.zA.length:Int)) (
   iG iJ) (
   cond ((x0.zG.length:Int) != (x0.zA.length:Int)) (
    iG iJ) (
    (zI (zUn x0) 0).bind fun r4=>
    match r4 with
    |(.inl r4)=>
     (zWM x0.zA).bind fun r5=>
     cond (decide (r5> 729)) (
      iG iJ) (
      (zI (zOH x0) 0).bind fun r18=>
      match r18 with
      |(.inl r18)=>
       iG iI
      |(.inr r18)=>
       iG r18)
    |(.inr r4)=>
     iG r4)))
def f_B(x0:iN):Option iN:=
 (xT [] x0).bind fun v1=>
 iG v1
def zUp(g_a:SPr→Int→iN→iN→Option iN)(x0:SPr)(x1:Int)(x2:iN)(s5:(iN)×Int)(s6:(iN)×Int):Option ((iN×Int)⊕iN):=
 (ixO x2 s5.2).bind fun v3=>
 cond (decide (s6.2<v3)) (
  (rng (x1+1)).bind fun v4=>
  (ixO x0.zG x1).bind fun v5=>
  (rng (s5.2-x1)).bind fun v6=>
  (rng (v6-1)).bind fun v7=>
  (ixO v5 v7).bind fun v8=>
  (g_a x0 v4 s6.1 v8).bind fun r9=>
  (rng (s6.2+1)).bind fun v10=>
  iG (.inl (r9,v10))) (
  iG (.inr s6.1))
def zUq(g_a:SPr→Int→iN→iN→Option iN)(x0:SPr)(x1:Int)(x2:iN)(s5:(iN)×Int):Option ((iN×Int)⊕iN):=
 cond (decide (s5.2<(x0.zA.length:Int))) (
  (zI (zUp g_a x0 x1 x2 s5) (s5.1,0)).bind fun r11=>
  (rng (s5.2+1)).bind fun v12=>
  iG (.inl (r11,v12))) (
  iG (.inr s5.1))
def b_g(g_a:SPr→Int→iN→iN→Option iN)(x0:SPr)(x1:Int)(x2:iN):Option iN:=
 (xG (x0.zA.length:Int)).bind fun m1=>
 (rng (x1+1)).bind fun v2=>
 (zI (zUq g_a x0 x1 x2) (J1 m1 (0:Int),v2)).bind fun r13=>
 iG r13
def zWN(g_g:SPr→Int→iN→Option iN)(x0:SPr)(x1:Int)(x3:iN)(s1:(iN)×Int):Option ((iN×Int)⊕iN):=
 (ixO x3 x1).bind fun v6=>
 cond (decide (s1.2<v6)) (
  (g_g x0 x1 s1.1).bind fun r7=>
  (rng (s1.2+1)).bind fun v8=>
  iG (.inl (r7,v8))) (
  iG (.inr s1.1))
def b_a(g_g:SPr→Int→iN→Option iN)(g_a:SPr→Int→iN→iN→Option iN)(x0:SPr)(x1:Int)(x2:iN)(x3:iN):Option iN:=
 cond (decide (x1≥(x0.zA.length:Int))) (
  (xG (x0.zA.length:Int)).bind fun m1=>
  iG (J1 m1 (0:Int))) (
  (f_B x2).bind fun r2=>
  (f_B x3).bind fun r3=>
  (ixO r2 x1).bind fun _=>
  (ixO r3 x1).bind fun _=>
  (zI (zWN g_g x0 x1 x3) (r2.set x1.toNat 0,0)).bind fun r9=>
  (rng (x1+1)).bind fun v10=>
  (g_a x0 v10 r9 (r3.set x1.toNat 0)).bind fun r11=>
  (ixO x2 x1).bind fun v12=>
  (ixO x3 x1).bind fun v13=>
  (rng (v12+v13)).bind fun v14=>
  (ixO x0.zA x1).bind fun v15=>
  cond (decide (v14≥v15)) (
   (ixO x0.zA x1).bind fun v16=>
   (rng (v14-v16)).bind fun v17=>
   (rng (x1+1)).bind fun v18=>
   (ixO x0.zS x1).bind fun v19=>
   (g_a x0 v18 v19 r11).bind fun r20=>
   (f_B r20).bind fun r21=>
   (ixO r21 x1).bind fun _=>
   iG (r21.set x1.toNat v17)) (
   (f_B r11).bind fun r23=>
   (ixO r23 x1).bind fun _=>
   iG (r23.set x1.toNat v14)))
mutual
def zOI:Nat→SPr→Int→iN→Option iN
 |0=>fun _ _ _=>iH
 |n+1=>b_g (zOJ n)
def zOJ:Nat→SPr→Int→iN→iN→Option iN
 |0=>fun _ _ _ _=>iH
 |n+1=>b_a (zOI n) (zOJ n)
end
def f_g(x0:SPr)(x1:Int)(x2:iN):Option iN:=zDI fun n=>zOI n x0 x1 x2
def f_a(x0:SPr)(x1:Int)(x2:iN)(x3:iN):Option iN:=zDI fun n=>zOJ n x0 x1 x2 x3
def zQz(x0:SPr)(x1:Int)(s1:Int×iN×iN):Option ((Int×iN×iN)⊕iN):=
 cond (decide (s1.1> 0)) (
  (tR s1.1 2).bind fun v2=>
  cond (v2==1) (
   (f_a x0 x1 s1.2.1 s1.2.2).bind fun r3=>
   (f_a x0 x1 s1.2.2 s1.2.2).bind fun r4=>
   (sH s1.1 2).bind fun v5=>
   iG (.inl (v5,r3,r4))) (
   (f_a x0 x1 s1.2.2 s1.2.2).bind fun r6=>
   (sH s1.1 2).bind fun v7=>
   iG (.inl (v7,s1.2.1,r6)))) (
  iG (.inr s1.2.1))
def zWO(x0:SPr)(x1:Int)(x2:iN)(x3:Int):Option iN:=
 (xG (x0.zA.length:Int)).bind fun m1=>
 (zI (zQz x0 x1) (x3,J1 m1 (0:Int),x2)).bind fun r8=>
 iG r8
def zYm(x0:iN)(x1:iN)(s1:Int):Option (Int⊕(Unit⊕Bool)):=
 cond (decide (s1<(x0.length:Int))) (
  (ixO x0 s1).bind fun v1=>
  (ixO x1 s1).bind fun v2=>
  cond (v1 != v2) (
   iG (.inr (.inr iJ))) (
   (rng (s1+1)).bind fun v3=>
   iG (.inl v3))) (
  iG (.inr (.inl ())))
def zLk(x0:iN)(x1:iN):Option Bool:=
 cond ((x0.length:Int) != (x1.length:Int)) (
  iG iJ) (
  (zI (zYm x0 x1) 0).bind fun r4=>
  match r4 with
  |(.inl r4)=>
   iG iI
  |(.inr r4)=>
   iG r4)
def zZH(x0:Int)(x1:Int):Option iN:=
 (xG x0).bind fun m1=>
 (ixO (J1 m1 (0:Int)) x1).bind fun _=>
 iG ((J1 m1 (0:Int)).set x1.toNat 1)
def zUr(x0:SPr)(x1:Int)(s1:Int):Option (Int⊕(Unit⊕xL)):=
 cond (decide (s1<(x0.zA.length:Int))) (
  (rng (x1+1)).bind fun v2=>
  (ixO x0.zG x1).bind fun v3=>
  (rng (s1-x1)).bind fun v4=>
  (rng (v4-1)).bind fun v5=>
  (ixO v3 v5).bind fun v6=>
  (ixO x0.zA s1).bind fun v7=>
  (zWO x0 v2 v6 v7).bind fun r8=>
  (ixO x0.zS s1).bind fun v9=>
  (f_g x0 x1 v9).bind fun r10=>
  (zLk r8 r10).bind fun r11=>
  cond (!r11) (
   iG (.inr (.inr (xL.mk 1 x1 s1 0)))) (
   (rng (s1+1)).bind fun v12=>
   iG (.inl v12))) (
  iG (.inr (.inl ())))
def zUs(x0:SPr)(x1:Int)(s7:Int)(s8:Int):Option (Int⊕(Unit⊕xL)):=
 cond (decide (s8<(x0.zA.length:Int))) (
  (ixO x0.zG x1).bind fun v16=>
  (rng (s7-x1)).bind fun v17=>
  (rng (v17-1)).bind fun v18=>
  (ixO v16 v18).bind fun v19=>
  (ixO x0.zG x1).bind fun v20=>
  (rng (s8-x1)).bind fun v21=>
  (rng (v21-1)).bind fun v22=>
  (ixO v20 v22).bind fun v23=>
  (ixO x0.zG s7).bind fun v24=>
  (rng (s8-s7)).bind fun v25=>
  (rng (v25-1)).bind fun v26=>
  (ixO v24 v26).bind fun v27=>
  (f_g x0 x1 v27).bind fun r28=>
  (rng (x1+1)).bind fun v29=>
  (f_a x0 v29 v23 v19).bind fun r30=>
  (rng (x1+1)).bind fun v31=>
  (f_a x0 v31 v19 r28).bind fun r32=>
  (zLk r30 r32).bind fun r33=>
  cond (!r33) (
   iG (.inr (.inr (xL.mk 2 x1 s7 s8)))) (
   (rng (s8+1)).bind fun v34=>
   iG (.inl v34))) (
  iG (.inr (.inl ())))
def zUt(x0:SPr)(x1:Int)(s7:Int):Option (Int⊕(Unit⊕xL)):=
 cond (decide (s7<(x0.zA.length:Int))) (
  (rng (s7+1)).bind fun v15=>
  (zI (zUs x0 x1 s7) v15).bind fun r35=>
  match r35 with
  |(.inl r35)=>
   (rng (s7+1)).bind fun v36=>
   iG (.inl v36)
  |(.inr r35)=>
   iG (.inr (.inr r35))) (
  iG (.inr (.inl ())))
def zUu(x0:SPr)(x1:Int)(s16:(iN)×Int):Option ((iN×Int)⊕iN):=
 (ixO x0.zA x1).bind fun v43=>
 cond (decide (s16.2<v43)) (
  (f_g x0 x1 s16.1).bind fun r44=>
  (rng (s16.2+1)).bind fun v45=>
  iG (.inl (r44,v45))) (
  iG (.inr s16.1))
def zUv(x0:SPr)(x1:Int)(v38:iN)(s15:Int):Option (Int⊕(Unit⊕xL)):=
 cond (decide (s15<(x0.zA.length:Int))) (
  (zZH (x0.zA.length:Int) s15).bind fun r42=>
  (zI (zUu x0 x1) (r42,0)).bind fun r46=>
  (rng (x1+1)).bind fun v47=>
  (f_a x0 v47 v38 r46).bind fun r48=>
  (rng (x1+1)).bind fun v49=>
  (f_a x0 v49 r42 v38).bind fun r50=>
  (zLk r48 r50).bind fun r51=>
  cond (!r51) (
   iG (.inr (.inr (xL.mk 4 x1 s15 0)))) (
   (rng (s15+1)).bind fun v52=>
   iG (.inl v52))) (
  iG (.inr (.inl ())))
def f_p(x0:SPr)(x1:Int):Option xL:=
 (rng (x1+1)).bind fun v1=>
 (zI (zUr x0 x1) v1).bind fun r13=>
 match r13 with
 |(.inl r13)=>
  (rng (x1+1)).bind fun v14=>
  (zI (zUt x0 x1) v14).bind fun r37=>
  match r37 with
  |(.inl r37)=>
   (ixO x0.zS x1).bind fun v38=>
   (f_g x0 x1 v38).bind fun r39=>
   (zLk r39 v38).bind fun r40=>
   cond (!r40) (
    iG (xL.mk 3 x1 0 0)) (
    (rng (x1+1)).bind fun v41=>
    (zI (zUv x0 x1 v38) v41).bind fun r53=>
    match r53 with
    |(.inl r53)=>
     iG (xL.mk 0 0 0 0)
    |(.inr r53)=>
     iG r53)
  |(.inr r37)=>
   iG r37
 |(.inr r13)=>
  iG r13
def zNf(x0:SPr)(s1:Int):Option (Int⊕(Unit⊕xL)):=
 cond (decide (s1≥0)) (
  (f_p x0 s1).bind fun r2=>
  cond (r2.Kind != 0) (
   iG (.inr (.inr r2))) (
   (rng (s1-1)).bind fun v3=>
   iG (.inl v3))) (
  iG (.inr (.inl ())))
def zZI(x0:SPr):Option xL:=
 (rng ((x0.zA.length:Int)-1)).bind fun v1=>
 (zI (zNf x0) v1).bind fun r4=>
 match r4 with
 |(.inl r4)=>
  iG (xL.mk 0 0 0 0)
 |(.inr r4)=>
  iG r4
def zZJ(x0:SPr):Option Bool:=
 (zZI x0).bind fun r1=>
 iG (r1.Kind==0)
def zUw(x0:SPr):Option Bool:=
 (f_A x0).bind fun r1=>
 cond r1 (
  (zZJ x0).bind fun r2=>
  iG r2) (
  iG iJ)
def zQ0(x0:Int)(x2:iN)(s1:Int):Option (Int⊕(Unit⊕Bool)):=
 cond (decide (s1<(x2.length:Int))) (
  (ixO x2 s1).bind fun v1=>
  (rng (x0-1)).bind fun v2=>
  (zUl v1 0 v2).bind fun r3=>
  cond (!r3) (
   iG (.inr (.inr iJ))) (
   (rng (s1+1)).bind fun v4=>
   iG (.inl v4))) (
  iG (.inr (.inl ())))
def zUx(x0:Int)(x1:Int)(x2:iN):Option Bool:=
 cond ((x2.length:Int) != x1) (
  iG iJ) (
  (zI (zQ0 x0 x2) 0).bind fun r5=>
  match r5 with
  |(.inl r5)=>
   iG iI
  |(.inr r5)=>
   iG r5)
def zQ1(x0:Int)(x1:Int)(x2:iO)(s1:Int):Option (Int⊕(Unit⊕Bool)):=
 cond (decide (s1<(x2.length:Int))) (
  (ixO x2 s1).bind fun v1=>
  (zUx x0 x1 v1).bind fun r2=>
  cond (!r2) (
   iG (.inr (.inr iJ))) (
   (rng (s1+1)).bind fun v3=>
   iG (.inl v3))) (
  iG (.inr (.inl ())))
def zWP(x0:Int)(x1:Int)(x2:iO):Option Bool:=
 cond ((x2.length:Int) != x1) (
  iG iJ) (
  (zI (zQ1 x0 x1 x2) 0).bind fun r4=>
  match r4 with
  |(.inl r4)=>
   iG iI
  |(.inr r4)=>
   iG r4)
def zIJ(x0:Int)(s1:(iO)×Int):Option ((iO×Int)⊕iO):=
 cond (decide (s1.2<x0)) (
  (xG x0).bind fun m1=>
  (ixO (J1 m1 (0:Int)) s1.2).bind fun _=>
  (xT s1.1 [(J1 m1 (0:Int)).set s1.2.toNat 1]).bind fun v3=>
  (rng (s1.2+1)).bind fun v4=>
  iG (.inl (v3,v4))) (
  iG (.inr s1.1))
def f_C(x0:Int):Option iO:=
 (zI (zIJ x0) ([],0)).bind fun r5=>
 iG r5
def zUy(x0:Int)(x1:iN)(x2:iO)(s5:(iN)×Int)(s6:(iN)×Int):Option ((iN×Int)⊕iN):=
 cond (decide (s6.2<(s6.1.length:Int))) (
  (ixO x2 s5.2).bind fun v2=>
  cond (decide (s6.2<(v2.length:Int))) (
   (ixO s6.1 s6.2).bind fun v3=>
   (ixO x1 s5.2).bind fun v4=>
   (ixO x2 s5.2).bind fun v5=>
   (ixO v5 s6.2).bind fun v6=>
   (rng (v4*v6)).bind fun v7=>
   (rng (v3+v7)).bind fun v8=>
   (tR v8 x0).bind fun v9=>
   (ixO s6.1 s6.2).bind fun _=>
   (rng (s6.2+1)).bind fun v11=>
   iG (.inl (s6.1.set s6.2.toNat v9,v11))) (
   iG (.inr s6.1))) (
  iG (.inr s6.1))
def zUz(x0:Int)(x1:iN)(x2:iO)(s5:(iN)×Int):Option ((iN×Int)⊕iN):=
 cond (decide (s5.2<(x1.length:Int))) (
  cond (decide (s5.2<(x2.length:Int))) (
   (zI (zUy x0 x1 x2 s5) (s5.1,0)).bind fun r12=>
   (rng (s5.2+1)).bind fun v13=>
   iG (.inl (r12,v13))) (
   iG (.inr s5.1))) (
  iG (.inr s5.1))
def f_L(x0:Int)(x1:iN)(x2:iO)(x3:Int):Option iN:=
 (xG x3).bind fun m1=>
 (zI (zUz x0 x1 x2) (J1 m1 (0:Int),0)).bind fun r14=>
 iG r14
def zNg(x0:Int)(x1:iO)(x2:iO)(x3:Int)(s1:(iO)×Int):Option ((iO×Int)⊕iO):=
 cond (decide (s1.2<(x1.length:Int))) (
  (ixO x1 s1.2).bind fun v1=>
  (f_L x0 v1 x2 x3).bind fun r2=>
  (xT s1.1 [r2]).bind fun v3=>
  (rng (s1.2+1)).bind fun v4=>
  iG (.inl (v3,v4))) (
  iG (.inr s1.1))
def zOK(x0:Int)(x1:iO)(x2:iO)(x3:Int):Option iO:=
 (zI (zNg x0 x1 x2 x3) ([],0)).bind fun r5=>
 iG r5
def zU0(x0:zB)(x1:iN)(s5:(iO)×Int)(s6:(iO)×Int):Option ((iO×Int)⊕iO):=
 (ixO x1 s5.2).bind fun v2=>
 cond (decide (s6.2<v2)) (
  (ixO x0.zF s5.2).bind fun v3=>
  (zOK x0.Prime s6.1 v3 x0.Dim).bind fun r4=>
  (rng (s6.2+1)).bind fun v5=>
  iG (.inl (r4,v5))) (
  iG (.inr s6.1))
def zU1(x0:zB)(x1:iN)(s5:(iO)×Int):Option ((iO×Int)⊕iO):=
 cond (decide (s5.2<(x1.length:Int))) (
  (zI (zU0 x0 x1 s5) (s5.1,0)).bind fun r6=>
  (rng (s5.2+1)).bind fun v7=>
  iG (.inl (r6,v7))) (
  iG (.inr s5.1))
def f_Q(x0:zB)(x1:iN):Option iO:=
 (f_C x0.Dim).bind fun r1=>
 (zI (zU1 x0 x1) (r1,0)).bind fun r8=>
 iG r8
def zU2(x0:iO)(x1:iO)(s1:Int):Option (Int⊕(Unit⊕Bool)):=
 cond (decide (s1<(x0.length:Int))) (
  (ixO x0 s1).bind fun v1=>
  (ixO x1 s1).bind fun v2=>
  (zLk v1 v2).bind fun r3=>
  cond (!r3) (
   iG (.inr (.inr iJ))) (
   (rng (s1+1)).bind fun v4=>
   iG (.inl v4))) (
  iG (.inr (.inl ())))
def zU3(x0:iO)(x1:iO):Option Bool:=
 cond ((x0.length:Int) != (x1.length:Int)) (
  iG iJ) (
  (zI (zU2 x0 x1) 0).bind fun r5=>
  match r5 with
  |(.inl r5)=>
   iG iI
  |(.inr r5)=>
   iG r5)
def zU4(x0:SPr)(x1:zB)(s1:Int):Option (Int⊕(Unit⊕Bool)):=
 cond (decide (s1<(x0.zA.length:Int))) (
  (ixO x1.zF s1).bind fun v3=>
  (zWP x1.Prime x1.Dim v3).bind fun r4=>
  cond (!r4) (
   iG (.inr (.inr iJ))) (
   (rng (s1+1)).bind fun v5=>
   iG (.inl v5))) (
  iG (.inr (.inl ())))
def zU5(x0:SPr)(x1:zB)(s11:Int)(s12:(iO)×Int):Option ((iO×Int)⊕iO):=
 (ixO x0.zA s11).bind fun v8=>
 cond (decide (s12.2<v8)) (
  (ixO x1.zF s11).bind fun v9=>
  (zOK x1.Prime s12.1 v9 x1.Dim).bind fun r10=>
  (rng (s12.2+1)).bind fun v11=>
  iG (.inl (r10,v11))) (
  iG (.inr s12.1))
def zU6(x0:SPr)(x1:zB)(s11:Int)(s14:Int):Option (Int⊕(Unit⊕Bool)):=
 cond (decide (s14<(x0.zA.length:Int))) (
  (ixO x1.zF s14).bind fun v17=>
  (ixO x1.zF s11).bind fun v18=>
  (zOK x1.Prime v17 v18 x1.Dim).bind fun r19=>
  (ixO x1.zF s11).bind fun v20=>
  (ixO x0.zG s11).bind fun v21=>
  (rng (s14-s11)).bind fun v22=>
  (rng (v22-1)).bind fun v23=>
  (ixO v21 v23).bind fun v24=>
  (f_Q x1 v24).bind fun r25=>
  (zOK x1.Prime v20 r25 x1.Dim).bind fun r26=>
  (zU3 r19 r26).bind fun r27=>
  cond (!r27) (
   iG (.inr (.inr iJ))) (
   (rng (s14+1)).bind fun v28=>
   iG (.inl v28))) (
  iG (.inr (.inl ())))
def zU7(x0:SPr)(x1:zB)(s11:Int):Option (Int⊕(Unit⊕Bool)):=
 cond (decide (s11<(x0.zA.length:Int))) (
  (f_C x1.Dim).bind fun r7=>
  (zI (zU5 x0 x1 s11) (r7,0)).bind fun r12=>
  (ixO x0.zS s11).bind fun v13=>
  (f_Q x1 v13).bind fun r14=>
  (zU3 r12 r14).bind fun r15=>
  cond (!r15) (
   iG (.inr (.inr iJ))) (
   (rng (s11+1)).bind fun v16=>
   (zI (zU6 x0 x1 s11) v16).bind fun r29=>
   match r29 with
   |(.inl r29)=>
    (rng (s11+1)).bind fun v30=>
    iG (.inl v30)
   |(.inr r29)=>
    iG (.inr (.inr r29)))) (
  iG (.inr (.inl ())))
def f_w(x0:SPr)(x1:zB):Option Bool:=
 (zWL x1.Prime).bind fun r1=>
 cond (!r1) (
  iG iJ) (
  (zUl x1.Dim 1 3).bind fun r2=>
  cond (!r2) (
   iG iJ) (
   cond ((x1.zF.length:Int) != (x0.zA.length:Int)) (
    iG iJ) (
    (zI (zU4 x0 x1) 0).bind fun r6=>
    match r6 with
    |(.inl r6)=>
     (zI (zU7 x0 x1) 0).bind fun r31=>
     match r31 with
     |(.inl r31)=>
      iG iI
     |(.inr r31)=>
      iG r31
    |(.inr r6)=>
     iG r6)))
def zWQ(x0:SPr)(x1:zB):Option Bool:=
 (zUw x0).bind fun r1=>
 cond r1 (
  (f_w x0 x1).bind fun r2=>
  iG r2) (
  iG iJ)
def zR0(x0:Int):Option Bool:=
 cond (x0==2) (
  iG iI) (
  cond (x0==3) (
   iG iI) (
   cond (x0==5) (
    iG iI) (
    iG (x0==7))))
def zOL(x0:Int)(x1:Int)(x2:Int):Option Bool:=
 cond (decide (x0≥x1)) (
  iG (decide (x0≤x2))) (
  iG iJ)
def zQ2(x0:SPr)(x1:iN)(s1:Int):Option (Int⊕(Unit⊕Bool)):=
 cond (decide (s1<(x1.length:Int))) (
  (ixO x1 s1).bind fun v1=>
  (ixO x0.zA s1).bind fun v2=>
  (rng (v2-1)).bind fun v3=>
  (zOL v1 0 v3).bind fun r4=>
  cond (!r4) (
   iG (.inr (.inr iJ))) (
   (rng (s1+1)).bind fun v5=>
   iG (.inl v5))) (
  iG (.inr (.inl ())))
def zWR(x0:SPr)(x1:iN):Option Bool:=
 cond ((x1.length:Int) != (x0.zA.length:Int)) (
  iG iJ) (
  (zI (zQ2 x0 x1) 0).bind fun r6=>
  match r6 with
  |(.inl r6)=>
   iG iI
  |(.inr r6)=>
   iG r6)
def zNh(x0:iN)(s1:Int):Option (Int⊕(Unit⊕Bool)):=
 cond (decide (s1<(x0.length:Int))) (
  (ixO x0 s1).bind fun v1=>
  cond (v1 != 0) (
   iG (.inr (.inr iJ))) (
   (rng (s1+1)).bind fun v2=>
   iG (.inl v2))) (
  iG (.inr (.inl ())))
def f_T(x0:iN):Option Bool:=
 (zI (zNh x0) 0).bind fun r3=>
 match r3 with
 |(.inl r3)=>
  iG iI
 |(.inr r3)=>
  iG r3
def zU8(x0:SPr)(x1:Int)(x2:iN):Option Bool:=
 (zWR x0 x2).bind fun r1=>
 cond r1 (
  (rng (x1+1)).bind fun v2=>
  (yD x2 0 v2).bind fun v3=>
  (f_T v3).bind fun r4=>
  iG r4) (
  iG iJ)
def zOM(x0:SPr)(s1:Int×Int):Option ((Int×Int)⊕(Unit⊕Bool)):=
 cond (decide (s1.2<(x0.zA.length:Int))) (
  (ixO x0.zA s1.2).bind fun v1=>
  (zR0 v1).bind fun r2=>
  cond (!r2) (
   iG (.inr (.inr iJ))) (
   (rng (s1.1*v1)).bind fun v3=>
   cond (decide (v3> 729)) (
    iG (.inr (.inr iJ))) (
    (rng (s1.1*v1)).bind fun v4=>
    (rng (s1.2+1)).bind fun v5=>
    iG (.inl (v4,v5))))) (
  iG (.inr (.inl ())))
def zU9(x0:SPr)(s7:Int)(v12:iO)(s8:Int):Option (Int⊕(Unit⊕Bool)):=
 cond (decide (s8<(v12.length:Int))) (
  (ixO v12 s8).bind fun v13=>
  (zU8 x0 s7 v13).bind fun r14=>
  cond (!r14) (
   iG (.inr (.inr iJ))) (
   (rng (s8+1)).bind fun v15=>
   iG (.inl v15))) (
  iG (.inr (.inl ())))
def zON(x0:SPr)(s7:Int):Option (Int⊕(Unit⊕Bool)):=
 cond (decide (s7<(x0.zA.length:Int))) (
  (ixO x0.zS s7).bind fun v7=>
  (zU8 x0 s7 v7).bind fun r8=>
  cond (!r8) (
   iG (.inr (.inr iJ))) (
   (ixO x0.zG s7).bind fun v9=>
   (rng ((x0.zA.length:Int)-1)).bind fun v10=>
   (rng (v10-s7)).bind fun v11=>
   cond ((v9.length:Int) != v11) (
    iG (.inr (.inr iJ))) (
    (ixO x0.zG s7).bind fun v12=>
    (zI (zU9 x0 s7 v12) 0).bind fun r16=>
    match r16 with
    |(.inl r16)=>
     (rng (s7+1)).bind fun v17=>
     iG (.inl v17)
    |(.inr r16)=>
     iG (.inr (.inr r16))))) (
  iG (.inr (.inl ())))
def f_x(x0:SPr):Option Bool:=
 cond (decide ((x0.zA.length:Int)> 6)) (
  iG iJ) (
  cond ((x0.zS.length:Int) != (x0.zA.length:Int)) (
   iG iJ) (
   cond ((x0.zG.length:Int) != (x0.zA.length:Int)) (
    iG iJ) (
    (zI (zOM x0) (1,0)).bind fun r6=>
    match r6 with
    |(.inl r6)=>
     (zI (zON x0) 0).bind fun r18=>
     match r18 with
     |(.inl r18)=>
      iG iI
     |(.inr r18)=>
      iG r18
    |(.inr r6)=>
     iG r6)))
def f_F(x0:iN):Option iN:=
 (xT [] x0).bind fun v2=>
 iG v2
def zUA(x2:Int)(r3:(iN))(s1:(iN)×Int):Option ((iN×Int)⊕iN):=
 cond (decide (s1.2<(r3.length:Int))) (
  (rng (x2+1)).bind fun v4=>
  (rng (v4+s1.2)).bind fun v5=>
  (ixO s1.1 v5).bind fun _=>
  (rng (s1.2+1)).bind fun v7=>
  iG (.inl (s1.1.set v5.toNat 0,v7))) (
  iG (.inr s1.1))
def zZK(g_c:SPr→iN→iN→Option iN)(x0:SPr)(x2:Int)(s7:(iN)×Int)(v17:Int)(s8:(iN)×Int):Option ((iN×Int)⊕iN):=
 cond (decide (s8.2<v17)) (
  (ixO x0.zG x2).bind fun v18=>
  (ixO v18 s7.2).bind fun v19=>
  (g_c x0 s8.1 v19).bind fun r20=>
  (rng (s8.2+1)).bind fun v21=>
  iG (.inl (r20,v21))) (
  iG (.inr s8.1))
def zZL(g_c:SPr→iN→iN→Option iN)(x0:SPr)(x2:Int)(r3:(iN))(s7:(iN)×Int):Option ((iN×Int)⊕iN):=
 cond (decide (s7.2<(r3.length:Int))) (
  (ixO r3 s7.2).bind fun v17=>
  (zI (zZK g_c x0 x2 s7 v17) (s7.1,0)).bind fun r22=>
  (rng (s7.2+1)).bind fun v23=>
  iG (.inl (r22,v23))) (
  iG (.inr s7.1))
def zZM(g_c:SPr→iN→iN→Option iN)(x0:SPr)(x2:Int)(s15:(iN)×Int)(v25:Int)(s16:(iN)×Int):Option ((iN×Int)⊕iN):=
 cond (decide (s16.2<v25)) (
  (ixO x0.zG x2).bind fun v26=>
  (ixO v26 s15.2).bind fun v27=>
  (g_c x0 s16.1 v27).bind fun r28=>
  (rng (s16.2+1)).bind fun v29=>
  iG (.inl (r28,v29))) (
  iG (.inr s16.1))
def zZN(g_c:SPr→iN→iN→Option iN)(x0:SPr)(x2:Int)(r3:(iN))(s15:(iN)×Int):Option ((iN×Int)⊕iN):=
 cond (decide (s15.2<(r3.length:Int))) (
  (ixO r3 s15.2).bind fun v25=>
  (zI (zZM g_c x0 x2 s15 v25) (s15.1,0)).bind fun r30=>
  (rng (s15.2+1)).bind fun v31=>
  iG (.inl (r30,v31))) (
  iG (.inr s15.1))
def b_b(g_c:SPr→iN→iN→Option iN)(x0:SPr)(x1:iN)(x2:Int):Option iN:=
 (rng (x2+1)).bind fun v1=>
 (yD x1 v1 x1.length).bind fun v2=>
 (f_F v2).bind fun r3=>
 (zI (zUA x2 r3) (x1,0)).bind fun r8=>
 (ixO r8 x2).bind fun v9=>
 (rng (v9+1)).bind fun v10=>
 (ixO r8 x2).bind fun _=>
 (ixO (r8.set x2.toNat v10) x2).bind fun v12=>
 (ixO x0.zA x2).bind fun v13=>
 cond (v12==v13) (
  (ixO (r8.set x2.toNat v10) x2).bind fun _=>
  (ixO x0.zS x2).bind fun v15=>
  (g_c x0 ((r8.set x2.toNat v10).set x2.toNat 0) v15).bind fun r16=>
  (zI (zZL g_c x0 x2 r3) (r16,0)).bind fun r24=>
  iG r24) (
  (zI (zZN g_c x0 x2 r3) (r8.set x2.toNat v10,0)).bind fun r32=>
  iG r32)
def zUB(g_b:SPr→iN→Int→Option iN)(x0:SPr)(s5:(iN)×Int)(v1:Int)(s6:(iN)×Int):Option ((iN×Int)⊕iN):=
 cond (decide (s6.2<v1)) (
  (g_b x0 s6.1 s5.2).bind fun r2=>
  (rng (s6.2+1)).bind fun v3=>
  iG (.inl (r2,v3))) (
  iG (.inr s6.1))
def zUC(g_b:SPr→iN→Int→Option iN)(x0:SPr)(x2:iN)(s5:(iN)×Int):Option ((iN×Int)⊕iN):=
 cond (decide (s5.2<(x2.length:Int))) (
  (ixO x2 s5.2).bind fun v1=>
  (zI (zUB g_b x0 s5 v1) (s5.1,0)).bind fun r4=>
  (rng (s5.2+1)).bind fun v5=>
  iG (.inl (r4,v5))) (
  iG (.inr s5.1))
def b_c(g_b:SPr→iN→Int→Option iN)(x0:SPr)(x1:iN)(x2:iN):Option iN:=
 (zI (zUC g_b x0 x2) (x1,0)).bind fun r6=>
 iG r6
mutual
def zUD:Nat→SPr→iN→Int→Option iN
 |0=>fun _ _ _=>iH
 |n+1=>b_b (zR1 n)
def zR1:Nat→SPr→iN→iN→Option iN
 |0=>fun _ _ _=>iH
 |n+1=>b_c (zUD n)
end
def f_b(x0:SPr)(x1:iN)(x2:Int):Option iN:=zDI fun n=>zUD n x0 x1 x2
def f_c(x0:SPr)(x1:iN)(x2:iN):Option iN:=zDI fun n=>zR1 n x0 x1 x2
def zNi(x0:SPr)(x1:iN)(x2:Int)(s1:(iN)×Int):Option ((iN×Int)⊕iN):=
 cond (decide (s1.2<x2)) (
  (f_c x0 s1.1 x1).bind fun r2=>
  (rng (s1.2+1)).bind fun v3=>
  iG (.inl (r2,v3))) (
  iG (.inr s1.1))
def zWS(x0:SPr)(x1:iN)(x2:Int):Option iN:=
 (xG (x1.length:Int)).bind fun m1=>
 (zI (zNi x0 x1 x2) (J1 m1 (0:Int),0)).bind fun r4=>
 iG r4
def zUE(x0:SPr)(v3:iN)(v6:Int)(s6:(iN)×Int):Option ((iN×Int)⊕iN):=
 cond (decide (s6.2<v6)) (
  (f_c x0 s6.1 v3).bind fun r7=>
  (rng (s6.2+1)).bind fun v8=>
  iG (.inl (r7,v8))) (
  iG (.inr s6.1))
def zUF(x0:SPr)(x1:Int)(x2:iN)(v2:iO)(s5:(iN)×Int):Option ((iN×Int)⊕iN):=
 cond (decide (s5.2<(v2.length:Int))) (
  (ixO v2 s5.2).bind fun v3=>
  (rng (x1+1)).bind fun v4=>
  (rng (v4+s5.2)).bind fun v5=>
  (ixO x2 v5).bind fun v6=>
  (zI (zUE x0 v3 v6) (s5.1,0)).bind fun r9=>
  (rng (s5.2+1)).bind fun v10=>
  iG (.inl (r9,v10))) (
  iG (.inr s5.1))
def f_J(x0:SPr)(x1:Int)(x2:iN):Option iN:=
 (xG (x2.length:Int)).bind fun m1=>
 (ixO x0.zG x1).bind fun v2=>
 (zI (zUF x0 x1 x2 v2) (J1 m1 (0:Int),0)).bind fun r11=>
 iG r11
def zUG(x0:iN)(x1:iN)(s1:Int):Option (Int⊕(Unit⊕Bool)):=
 cond (decide (s1<(x0.length:Int))) (
  (ixO x0 s1).bind fun v1=>
  (ixO x1 s1).bind fun v2=>
  cond (v1 != v2) (
   iG (.inr (.inr iJ))) (
   (rng (s1+1)).bind fun v3=>
   iG (.inl v3))) (
  iG (.inr (.inl ())))
def zLl(x0:iN)(x1:iN):Option Bool:=
 cond ((x0.length:Int) != (x1.length:Int)) (
  iG iJ) (
  (zI (zUG x0 x1) 0).bind fun r4=>
  match r4 with
  |(.inl r4)=>
   iG iI
  |(.inr r4)=>
   iG r4)
def zR2(x0:SPr)(s5:(iN)×iN×Int)(s6:(iN)×iN):Option ((iN×iN)⊕(iN×iN)):=
 (ixO s6.1 s5.2.2).bind fun v3=>
 cond (v3 != 0) (
  (f_b x0 s6.1 s5.2.2).bind fun r4=>
  (f_b x0 s6.2 s5.2.2).bind fun r5=>
  iG (.inl (r4,r5))) (
  iG (.inr (s6.1,s6.2)))
def zUH(x0:SPr)(r1:(iN))(s5:(iN)×iN×Int):Option ((iN×iN×Int)⊕iN):=
 cond (decide (s5.2.2<(r1.length:Int))) (
  (zI (zR2 x0 s5) (s5.1,s5.2.1)).bind fun r6=>
  (rng (s5.2.2+1)).bind fun v7=>
  iG (.inl (r6.1,r6.2,v7))) (
  iG (.inr s5.2.1))
def f_P(x0:SPr)(x1:iN):Option iN:=
 (f_F x1).bind fun r1=>
 (xG (x1.length:Int)).bind fun m2=>
 (zI (zUH x0 r1) (r1,J1 m2 (0:Int),0)).bind fun r8=>
 iG r8
def zUI(x0:SPr)(x1:iN)(x2:iN):Option iN:=
 (f_F x1).bind fun r1=>
 (f_c x0 r1 x2).bind fun r2=>
 iG r2
def zUJ(x0:SPr)(x1:iN)(x2:iN):Option iN:=
 (f_P x0 x2).bind fun r1=>
 (zUI x0 x1 x2).bind fun r2=>
 (zUI x0 r1 r2).bind fun r3=>
 iG r3
def zLm(x0:Int)(x1:Int):Option iN:=
 (xG x0).bind fun m1=>
 (ixO (J1 m1 (0:Int)) x1).bind fun _=>
 iG ((J1 m1 (0:Int)).set x1.toNat 1)
def zUK(x0:SPr)(x1:Int)(s1:Int):Option (Int⊕(Unit⊕xL)):=
 cond (decide (s1<(x0.zA.length:Int))) (
  (ixO x0.zG x1).bind fun v2=>
  (rng (s1-x1)).bind fun v3=>
  (rng (v3-1)).bind fun v4=>
  (ixO v2 v4).bind fun v5=>
  (ixO x0.zA s1).bind fun v6=>
  (zWS x0 v5 v6).bind fun r7=>
  (ixO x0.zS s1).bind fun v8=>
  (f_J x0 x1 v8).bind fun r9=>
  (zLl r7 r9).bind fun r10=>
  cond (!r10) (
   iG (.inr (.inr (xL.mk 1 x1 s1 0)))) (
   (rng (s1+1)).bind fun v11=>
   iG (.inl v11))) (
  iG (.inr (.inl ())))
def zUL(x0:SPr)(x1:Int)(s7:Int)(s8:Int):Option (Int⊕(Unit⊕xL)):=
 cond (decide (s8<(x0.zA.length:Int))) (
  (ixO x0.zG x1).bind fun v15=>
  (rng (s8-x1)).bind fun v16=>
  (rng (v16-1)).bind fun v17=>
  (ixO v15 v17).bind fun v18=>
  (ixO x0.zG x1).bind fun v19=>
  (rng (s7-x1)).bind fun v20=>
  (rng (v20-1)).bind fun v21=>
  (ixO v19 v21).bind fun v22=>
  (zUJ x0 v18 v22).bind fun r23=>
  (ixO x0.zG s7).bind fun v24=>
  (rng (s8-s7)).bind fun v25=>
  (rng (v25-1)).bind fun v26=>
  (ixO v24 v26).bind fun v27=>
  (f_J x0 x1 v27).bind fun r28=>
  (zLl r23 r28).bind fun r29=>
  cond (!r29) (
   iG (.inr (.inr (xL.mk 2 x1 s7 s8)))) (
   (rng (s8+1)).bind fun v30=>
   iG (.inl v30))) (
  iG (.inr (.inl ())))
def zUM(x0:SPr)(x1:Int)(s7:Int):Option (Int⊕(Unit⊕xL)):=
 cond (decide (s7<(x0.zA.length:Int))) (
  (rng (s7+1)).bind fun v14=>
  (zI (zUL x0 x1 s7) v14).bind fun r31=>
  match r31 with
  |(.inl r31)=>
   (rng (s7+1)).bind fun v32=>
   iG (.inl v32)
  |(.inr r31)=>
   iG (.inr (.inr r31))) (
  iG (.inr (.inl ())))
def zUN(x0:SPr)(x1:Int)(v39:Int)(s16:(iN)×Int):Option ((iN×Int)⊕iN):=
 cond (decide (s16.2<v39)) (
  (f_J x0 x1 s16.1).bind fun r40=>
  (rng (s16.2+1)).bind fun v41=>
  iG (.inl (r40,v41))) (
  iG (.inr s16.1))
def zUO(x0:SPr)(x1:Int)(v34:iN)(s15:Int):Option (Int⊕(Unit⊕xL)):=
 cond (decide (s15<(x0.zA.length:Int))) (
  (zLm (x0.zA.length:Int) s15).bind fun r38=>
  (ixO x0.zA x1).bind fun v39=>
  (zI (zUN x0 x1 v39) (r38,0)).bind fun r42=>
  (zLm (x0.zA.length:Int) s15).bind fun r43=>
  (zUJ x0 r43 v34).bind fun r44=>
  (zLl r42 r44).bind fun r45=>
  cond (!r45) (
   iG (.inr (.inr (xL.mk 4 x1 s15 0)))) (
   (rng (s15+1)).bind fun v46=>
   iG (.inl v46))) (
  iG (.inr (.inl ())))
def f_o(x0:SPr)(x1:Int):Option xL:=
 (rng (x1+1)).bind fun v1=>
 (zI (zUK x0 x1) v1).bind fun r12=>
 match r12 with
 |(.inl r12)=>
  (rng (x1+1)).bind fun v13=>
  (zI (zUM x0 x1) v13).bind fun r33=>
  match r33 with
  |(.inl r33)=>
   (ixO x0.zS x1).bind fun v34=>
   (f_J x0 x1 v34).bind fun r35=>
   (zLl r35 v34).bind fun r36=>
   cond (!r36) (
    iG (xL.mk 3 x1 0 0)) (
    (rng (x1+1)).bind fun v37=>
    (zI (zUO x0 x1 v34) v37).bind fun r47=>
    match r47 with
    |(.inl r47)=>
     iG (xL.mk 0 0 0 0)
    |(.inr r47)=>
     iG r47)
  |(.inr r33)=>
   iG r33
 |(.inr r12)=>
  iG r12
def zNj(x0:SPr)(s1:Int):Option (Int⊕Int):=
 cond (decide (s1> 0)) (
  (rng (s1-1)).bind fun v1=>
  (f_o x0 v1).bind fun r2=>
  cond (r2.Kind==0&&(r2.zYq==0&&(r2.zYs==0&&r2.zVK==0))) (
   (rng (s1-1)).bind fun v3=>
   iG (.inl v3)) (
   iG (.inr s1))) (
  iG (.inr s1))
def f_U(x0:SPr):Option Int:=
 (zI (zNj x0) (x0.zA.length:Int)).bind fun r4=>
 iG r4
def zOO(x0:SPr):Option Bool:=
 (f_x x0).bind fun r1=>
 cond r1 (
  (f_U x0).bind fun r2=>
  iG (r2==0)) (
  iG iJ)
def zOP(x0:zB)(x1:Int):Option zQ:=
 (ixO x0.zF x1).bind fun v1=>
 iG (zQ.mk x0.Prime x0.Dim v1)
def zQ3(x0:iN)(x1:Int)(s1:Int):Option (Int⊕(Unit⊕Bool)):=
 cond (decide (s1<(x0.length:Int))) (
  (ixO x0 s1).bind fun v1=>
  (rng (x1-1)).bind fun v2=>
  (zOL v1 0 v2).bind fun r3=>
  cond (!r3) (
   iG (.inr (.inr iJ))) (
   (rng (s1+1)).bind fun v4=>
   iG (.inl v4))) (
  iG (.inr (.inl ())))
def zUP(x0:iN)(x1:Int)(x2:Int):Option Bool:=
 cond ((x0.length:Int) != x2) (
  iG iJ) (
  (zI (zQ3 x0 x1) 0).bind fun r5=>
  match r5 with
  |(.inl r5)=>
   iG iI
  |(.inr r5)=>
   iG r5)
def zNk(x0:zQ)(s1:Int):Option (Int⊕(Unit⊕Bool)):=
 cond (decide (s1<(x0.Rows.length:Int))) (
  (ixO x0.Rows s1).bind fun v3=>
  (zUP v3 x0.Prime x0.xJ).bind fun r4=>
  cond (!r4) (
   iG (.inr (.inr iJ))) (
   (rng (s1+1)).bind fun v5=>
   iG (.inl v5))) (
  iG (.inr (.inl ())))
def zWT(x0:zQ):Option Bool:=
 (zR0 x0.Prime).bind fun r1=>
 cond (!r1) (
  iG iJ) (
  (zOL x0.xJ 0 8).bind fun r2=>
  cond (!r2) (
   iG iJ) (
   cond (decide ((x0.Rows.length:Int)> 8)) (
    iG iJ) (
    (zI (zNk x0) 0).bind fun r6=>
    match r6 with
    |(.inl r6)=>
     iG iI
    |(.inr r6)=>
     iG r6)))
def yBY(x0:Int)(x1:Int):Option (Int×Int):=
 iG ((IntKind.wrap .u64 ((IntKind.wrap .u64 ((IntKind.wrap .u64 ((Gg x0 (2 ^ (min (32:Int).toNat (IntKind.bits .u64))))*(Gg x1 (2 ^ (min (32:Int).toNat (IntKind.bits .u64))))))+(Gg (IntKind.wrap .u64 ((IntKind.wrap .u64 ((Gg x0 (2 ^ (min (32:Int).toNat (IntKind.bits .u64))))*(zGE .u64 x1 4294967295)))+(Gg (IntKind.wrap .u64 ((zGE .u64 x0 4294967295)*(zGE .u64 x1 4294967295))) (2 ^ (min (32:Int).toNat (IntKind.bits .u64)))))) (2 ^ (min (32:Int).toNat (IntKind.bits .u64))))))+(Gg (IntKind.wrap .u64 ((zGE .u64 (IntKind.wrap .u64 ((IntKind.wrap .u64 ((Gg x0 (2 ^ (min (32:Int).toNat (IntKind.bits .u64))))*(zGE .u64 x1 4294967295)))+(Gg (IntKind.wrap .u64 ((zGE .u64 x0 4294967295)*(zGE .u64 x1 4294967295))) (2 ^ (min (32:Int).toNat (IntKind.bits .u64)))))) 4294967295)+(IntKind.wrap .u64 ((zGE .u64 x0 4294967295)*(Gg x1 (2 ^ (min (32:Int).toNat (IntKind.bits .u64)))))))) (2 ^ (min (32:Int).toNat (IntKind.bits .u64)))))),(IntKind.wrap .u64 (x0*x1)))
def zUQ(x0:Int)(x1:Int):Option (Int×Int):=
 (yBY x0 x1).bind fun r1=>
 iG (r1.1,r1.2)
def jU(s1:(iN)×Int):Option ((iN×Int)⊕iN):=
 cond (decide (s1.2<(s1.1.length:Int))) (
  (yD s1.1 s1.2 s1.1.length).bind fun _=>
  (yD s1.1 0 s1.2).bind fun v4=>
  (rng (s1.2+((min v4.length (((s1.1.length:Int).toNat)-((s1.2:Int).toNat)):Nat):Int))).bind fun v5=>
  iG (.inl (wD s1.1 ((s1.2:Int).toNat) (v4.take (((s1.1.length:Int).toNat)-((s1.2:Int).toNat))),v5))) (
  iG (.inr s1.1))
def f_j(x0:iN)(x1:Int):Option iN:=
 cond (decide (x1<0)) (
  iH) (
  (zUQ (IntKind.wrap .u64 (x0.length:Int)) (IntKind.wrap .u64 x1)).bind fun r1=>
  cond (decide (r1.1> 0)) (
   iH) (
   cond (decide (r1.2> 9223372036854775807)) (
    iH) (
    (xG (IntKind.wrap .i64 r1.2)).bind fun m2=>
    (zI jU (wD (J1 m2 (0:Int)) 0 (x0.take (((J1 m2 (0:Int)).length)-0)),((min x0.length (((J1 m2 (0:Int)).length)-0):Nat):Int))).bind fun r6=>
    iG r6)))
def zUR(s5:(iN)×Int)(v1:Int)(s6:(iN)×Int):Option ((iN×Int)⊕iN):=
 cond (decide (s6.2<v1)) (
  (rng (s5.2+1)).bind fun v2=>
  (xT s6.1 [v2]).bind fun v3=>
  (rng (s6.2+1)).bind fun v4=>
  iG (.inl (v3,v4))) (
  iG (.inr s6.1))
def zUS(x0:iN)(s5:(iN)×Int):Option ((iN×Int)⊕iN):=
 cond (decide (s5.2<(x0.length:Int))) (
  (ixO x0 s5.2).bind fun v1=>
  (zI (zUR s5 v1) (s5.1,0)).bind fun r5=>
  (rng (s5.2+1)).bind fun v6=>
  iG (.inl (r5,v6))) (
  iG (.inr s5.1))
def f_y(x0:iN):Option iN:=
 (zI (zUS x0) ([],0)).bind fun r7=>
 iG r7
def zUT(x0:SPr)(s1:(List (iN×iN))×Int):Option (((List (iN×iN))×Int)⊕(List (iN×iN))):=
 cond (decide (s1.2<(x0.zA.length:Int))) (
  (ixO x0.zA s1.2).bind fun v1=>
  (rng (s1.2+1)).bind fun v2=>
  (f_j [v2] v1).bind fun r3=>
  (ixO x0.zS s1.2).bind fun v4=>
  (f_y v4).bind fun r5=>
  (xT s1.1 [(r3,r5)]).bind fun v6=>
  (rng (s1.2+1)).bind fun v7=>
  iG (.inl (v6,v7))) (
  iG (.inr s1.1))
def zUU(s7:(List (iN×iN))×Int)(v9:iO)(s8:(List (iN×iN))×Int):Option (((List (iN×iN))×Int)⊕(List (iN×iN))):=
 cond (decide (s8.2<(v9.length:Int))) (
  (ixO v9 s8.2).bind fun v10=>
  (rng (s7.2+1)).bind fun v11=>
  (rng (s7.2+s8.2)).bind fun v12=>
  (rng (v12+2)).bind fun v13=>
  (f_y v10).bind fun r14=>
  (xT [v11] r14).bind fun v15=>
  (xT s8.1 [([v13,v11],v15)]).bind fun v16=>
  (rng (s8.2+1)).bind fun v17=>
  iG (.inl (v16,v17))) (
  iG (.inr s8.1))
def zUV(x0:SPr)(s7:(List (iN×iN))×Int):Option (((List (iN×iN))×Int)⊕(List (iN×iN))):=
 cond (decide (s7.2<(x0.zA.length:Int))) (
  (ixO x0.zG s7.2).bind fun v9=>
  (zI (zUU s7 v9) (s7.1,0)).bind fun r18=>
  (rng (s7.2+1)).bind fun v19=>
  iG (.inl (r18,v19))) (
  iG (.inr s7.1))
def f_D(x0:SPr):Option (List (iN×iN)):=
 (zI (zUT x0) ([],0)).bind fun r8=>
 (zI (zUV x0) (r8,0)).bind fun r20=>
 iG r20
def zLn(x1:Int)(s1:(iO)×Int):Option ((iO×Int)⊕iO):=
 cond (decide (s1.2<x1)) (
  (xG x1).bind fun m1=>
  (ixO (J1 m1 (0:Int)) s1.2).bind fun _=>
  (xT s1.1 [(J1 m1 (0:Int)).set s1.2.toNat 1]).bind fun v3=>
  (rng (s1.2+1)).bind fun v4=>
  iG (.inl (v3,v4))) (
  iG (.inr s1.1))
def f_G(x0:Int)(x1:Int):Option zQ:=
 (zI (zLn x1) ([],0)).bind fun r5=>
 iG (zQ.mk x0 x1 r5)
def zLo(x0:Int)(x1:Int):Option Int:=
 (tR x0 x1).bind fun v1=>
 (rng (v1+x1)).bind fun v2=>
 (tR v2 x1).bind fun v3=>
 iG v3
def zNl(x0:iN)(x1:iN)(x2:Int)(x3:Int)(s1:(iN)×Int):Option ((iN×Int)⊕iN):=
 cond (decide (s1.2<(x0.length:Int))) (
  (ixO s1.1 s1.2).bind fun v1=>
  (ixO x1 s1.2).bind fun v2=>
  (rng (x2*v2)).bind fun v3=>
  (rng (v1+v3)).bind fun v4=>
  (zLo v4 x3).bind fun r5=>
  (ixO s1.1 s1.2).bind fun _=>
  (rng (s1.2+1)).bind fun v7=>
  iG (.inl (s1.1.set s1.2.toNat r5,v7))) (
  iG (.inr s1.1))
def f_v(x0:iN)(x1:iN)(x2:Int)(x3:Int):Option iN:=
 (zI (zNl x0 x1 x2 x3) (x0,0)).bind fun r8=>
 iG r8
def zNm(x0:iN)(x1:zQ)(s1:(iN)×Int):Option ((iN×Int)⊕iN):=
 cond (decide (s1.2<(x0.length:Int))) (
  (ixO x0 s1.2).bind fun v2=>
  (ixO x1.Rows s1.2).bind fun v3=>
  (f_v s1.1 v3 v2 x1.Prime).bind fun r4=>
  (rng (s1.2+1)).bind fun v5=>
  iG (.inl (r4,v5))) (
  iG (.inr s1.1))
def zUW(x0:iN)(x1:zQ):Option iN:=
 (xG x1.xJ).bind fun m1=>
 (zI (zNm x0 x1) (J1 m1 (0:Int),0)).bind fun r6=>
 iG r6
def zNn(x0:zQ)(x1:zQ)(s1:(iO)×Int):Option ((iO×Int)⊕iO):=
 cond (decide (s1.2<(x0.Rows.length:Int))) (
  (ixO x0.Rows s1.2).bind fun v1=>
  (zUW v1 x1).bind fun r2=>
  (xT s1.1 [r2]).bind fun v3=>
  (rng (s1.2+1)).bind fun v4=>
  iG (.inl (v3,v4))) (
  iG (.inr s1.1))
def zWU(x0:zQ)(x1:zQ):Option zQ:=
 (zI (zNn x0 x1) ([],0)).bind fun r5=>
 iG (zQ.mk x0.Prime x1.xJ r5)
def zUX(x0:zB)(x1:iN)(s1:Int×Int×iO×Int):Option ((Int×Int×iO×Int)⊕(Int×Int×iO)):=
 cond (decide (s1.2.2.2<(x1.length:Int))) (
  (ixO x1 s1.2.2.2).bind fun v2=>
  (rng (v2-1)).bind fun v3=>
  (zOP x0 v3).bind fun r4=>
  (zWU (zQ.mk s1.1 s1.2.1 s1.2.2.1) r4).bind fun r5=>
  (rng (s1.2.2.2+1)).bind fun v6=>
  iG (.inl (r5.Prime,r5.xJ,r5.Rows,v6))) (
  iG (.inr (s1.1,s1.2.1,s1.2.2.1)))
def f_H(x0:zB)(x1:iN):Option zQ:=
 (f_G x0.Prime x0.Dim).bind fun r1=>
 (zI (zUX x0 x1) (r1.Prime,r1.xJ,r1.Rows,0)).bind fun r7=>
 iG (zQ.mk r7.1 r7.2.1 r7.2.2)
def zUY(x0:iO)(x1:iO)(s1:Int):Option (Int⊕(Unit⊕Bool)):=
 cond (decide (s1<(x0.length:Int))) (
  (ixO x0 s1).bind fun v1=>
  (ixO x1 s1).bind fun v2=>
  (zLl v1 v2).bind fun r3=>
  cond (!r3) (
   iG (.inr (.inr iJ))) (
   (rng (s1+1)).bind fun v4=>
   iG (.inl v4))) (
  iG (.inr (.inl ())))
def zZO(x0:iO)(x1:iO):Option Bool:=
 cond ((x0.length:Int) != (x1.length:Int)) (
  iG iJ) (
  (zI (zUY x0 x1) 0).bind fun r5=>
  match r5 with
  |(.inl r5)=>
   iG iI
  |(.inr r5)=>
   iG r5)
def zUZ(x0:iO)(x1:iO):Option Bool:=
 (zZO x0 x1).bind fun r1=>
 iG r1
def zVa(x1:zB)(s1:Int):Option (Int⊕(Unit⊕Bool)):=
 cond (decide (s1<(x1.zF.length:Int))) (
  (ixO x1.zF s1).bind fun v4=>
  cond ((v4.length:Int) != x1.Dim) (
   iG (.inr (.inr iJ))) (
   (zOP x1 s1).bind fun r5=>
   (zWT r5).bind fun r6=>
   cond (!r6) (
    iG (.inr (.inr iJ))) (
    (rng (s1+1)).bind fun v7=>
    iG (.inl v7)))) (
  iG (.inr (.inl ())))
def zVb(x1:zB)(r9:(List (iN×iN)))(s3:Int):Option (Int⊕(Unit⊕Bool)):=
 cond (decide (s3<(r9.length:Int))) (
  (ixO r9 s3).bind fun v10=>
  (f_H x1 v10.1).bind fun r11=>
  (f_H x1 v10.2).bind fun r12=>
  (zUZ r11.Rows r12.Rows).bind fun r13=>
  cond (!r13) (
   iG (.inr (.inr iJ))) (
   (rng (s3+1)).bind fun v14=>
   iG (.inl v14))) (
  iG (.inr (.inl ())))
def f_K(x0:SPr)(x1:zB):Option Bool:=
 (zOO x0).bind fun r1=>
 cond (!r1) (
  iG iJ) (
  (zR0 x1.Prime).bind fun r2=>
  cond (!r2) (
   iG iJ) (
   (zOL x1.Dim 1 3).bind fun r3=>
   cond (!r3) (
    iG iJ) (
    cond ((x1.zF.length:Int) != (x0.zA.length:Int)) (
     iG iJ) (
     (zI (zVa x1) 0).bind fun r8=>
     match r8 with
     |(.inl r8)=>
      (f_D x0).bind fun r9=>
      (zI (zVb x1 r9) 0).bind fun r15=>
      match r15 with
      |(.inl r15)=>
       iG iI
      |(.inr r15)=>
       iG r15
     |(.inr r8)=>
      iG r8))))
def zVc(x1:Int):Option iN:=
 cond (decide (x1<0)) (
  iH) (
  (rng (0-0)).bind fun v1=>
  (rng (x1-v1)).bind fun v2=>
  cond (decide (v2> 0)) (
   (tI [] v2 (0:Int)).bind fun v3=>
   (yD v3 0 0).bind fun v4=>
   iG v4) (
   iG []))
def zVd(x0:iO)(s1:Int×Int):Option ((Int×Int)⊕Int):=
 cond (decide (s1.2<(x0.length:Int))) (
  (ixO x0 s1.2).bind fun v1=>
  (rng (s1.1+(v1.length:Int))).bind fun v2=>
  cond (decide (v2<0)) (
   iH) (
   (rng (s1.2+1)).bind fun v3=>
   iG (.inl (v2,v3)))) (
  iG (.inr s1.1))
def zVe(x0:iO)(s3:(iN)×Int):Option ((iN×Int)⊕iN):=
 cond (decide (s3.2<(x0.length:Int))) (
  (ixO x0 s3.2).bind fun v6=>
  (xT s3.1 v6).bind fun v7=>
  (rng (s3.2+1)).bind fun v8=>
  iG (.inl (v7,v8))) (
  iG (.inr s3.1))
def f_q(x0:iO):Option iN:=
 (zI (zVd x0) (0,0)).bind fun r4=>
 (zVc r4).bind fun r5=>
 (zI (zVe x0) (r5,0)).bind fun r9=>
 iG r9
def zVf(x0:iN)(x1:Int)(x2:Int):Option iN:=
 (xG x1).bind fun m1=>
 (xG x2).bind fun m2=>
 (f_q [J1 m1 (0:Int),x0,J1 m2 (0:Int)]).bind fun r3=>
 iG r3
def zVg(x0:iN)(x1:iN)(s1:Int):Option (Int⊕(Unit⊕Bool)):=
 cond (decide (s1<(x0.length:Int))) (
  (ixO x0 s1).bind fun v1=>
  (ixO x1 s1).bind fun v2=>
  cond (v1 != v2) (
   iG (.inr (.inr iJ))) (
   (rng (s1+1)).bind fun v3=>
   iG (.inl v3))) (
  iG (.inr (.inl ())))
def zVh(x0:iN)(x1:iN):Option Bool:=
 cond ((x0.length:Int) != (x1.length:Int)) (
  iG iJ) (
  (zI (zVg x0 x1) 0).bind fun r4=>
  match r4 with
  |(.inl r4)=>
   iG iI
  |(.inr r4)=>
   iG r4)
def zVi(x0:iO)(x1:iO)(s1:Int):Option (Int⊕(Unit⊕Bool)):=
 cond (decide (s1<(x0.length:Int))) (
  (ixO x0 s1).bind fun v1=>
  (ixO x1 s1).bind fun v2=>
  (zVh v1 v2).bind fun r3=>
  cond (!r3) (
   iG (.inr (.inr iJ))) (
   (rng (s1+1)).bind fun v4=>
   iG (.inl v4))) (
  iG (.inr (.inl ())))
def zR3(x0:iO)(x1:iO):Option Bool:=
 cond ((x0.length:Int) != (x1.length:Int)) (
  iG iJ) (
  (zI (zVi x0 x1) 0).bind fun r5=>
  match r5 with
  |(.inl r5)=>
   iG iI
  |(.inr r5)=>
   iG r5)
def zVj(x0:List iO)(x1:List iO)(s1:Int):Option (Int⊕(Unit⊕Bool)):=
 cond (decide (s1<(x0.length:Int))) (
  (ixO x0 s1).bind fun v1=>
  (ixO x1 s1).bind fun v2=>
  (zR3 v1 v2).bind fun r3=>
  cond (!r3) (
   iG (.inr (.inr iJ))) (
   (rng (s1+1)).bind fun v4=>
   iG (.inl v4))) (
  iG (.inr (.inl ())))
def zWV(x0:List iO)(x1:List iO):Option Bool:=
 cond ((x0.length:Int) != (x1.length:Int)) (
  iG iJ) (
  (zI (zVj x0 x1) 0).bind fun r5=>
  match r5 with
  |(.inl r5)=>
   iG iI
  |(.inr r5)=>
   iG r5)
def zWW(x0:zB)(x1:zB):Option Bool:=
 cond (x0.Prime != x1.Prime) (
  iG iJ) (
  cond (x0.Dim != x1.Dim) (
   iG iJ) (
   (zWV x0.zF x1.zF).bind fun r1=>
   cond (!r1) (
    iG iJ) (
    iG iI)))
def zWX(x0:SPr)(x1:SPr):Option Bool:=
 (zVh x0.zA x1.zA).bind fun r1=>
 cond (!r1) (
  iG iJ) (
  (zR3 x0.zS x1.zS).bind fun r2=>
  cond (!r2) (
   iG iJ) (
   (zWV x0.zG x1.zG).bind fun r3=>
   cond (!r3) (
    iG iJ) (
    iG iI)))
def zNo(x0:iO)(s1:(iO)×Int):Option ((iO×Int)⊕iO):=
 cond (decide (s1.2<(x0.length:Int))) (
  (ixO x0 s1.2).bind fun v1=>
  (rng ((v1.length:Int)+(x0.length:Int))).bind fun v2=>
  (xG v2).bind fun m3=>
  (rng ((v1.length:Int)+s1.2)).bind fun v4=>
  (ixO (wD (J1 m3 (0:Int)) 0 (v1.take (((J1 m3 (0:Int)).length)-0))) v4).bind fun _=>
  (xT s1.1 [(wD (J1 m3 (0:Int)) 0 (v1.take (((J1 m3 (0:Int)).length)-0))).set v4.toNat 1]).bind fun v6=>
  (rng (s1.2+1)).bind fun v7=>
  iG (.inl (v6,v7))) (
  iG (.inr s1.1))
def zWY(x0:iO):Option iO:=
 (zI (zNo x0) ([],0)).bind fun r8=>
 iG r8
def zNp(x0:iO)(s1:(iO)×Int):Option ((iO×Int)⊕iO):=
 cond (decide (s1.2<(x0.length:Int))) (
  (ixO x0 s1.2).bind fun v1=>
  (f_F v1).bind fun r2=>
  (xT s1.1 [r2]).bind fun v3=>
  (rng (s1.2+1)).bind fun v4=>
  iG (.inl (v3,v4))) (
  iG (.inr s1.1))
def zWZ(x0:iO):Option iO:=
 (zI (zNp x0) ([],0)).bind fun r5=>
 iG r5
def zR4(s1:Int×Int×Int×Int):Option ((Int×Int×Int×Int)⊕(Int×Int)):=
 cond (s1.2.1 != 0) (
  (sH s1.1 s1.2.1).bind fun v1=>
  (rng (v1*s1.2.1)).bind fun v2=>
  (rng (s1.1-v2)).bind fun v3=>
  (rng (v1*s1.2.2.2)).bind fun v4=>
  (rng (s1.2.2.1-v4)).bind fun v5=>
  iG (.inl (s1.2.1,v3,s1.2.2.2,v5))) (
  iG (.inr (s1.1,s1.2.2.1)))
def f_V(x0:Int)(x1:Int):Option (Int×Bool):=
 (zI zR4 (x1,x0,0,1)).bind fun r6=>
 (zLo r6.2 x1).bind fun r7=>
 iG (r7,(r6.1==1))
def zJh(s13:(iO)×Int×Int)(s14:Int):Option (Int⊕Int):=
 cond (decide (s14<(s13.1.length:Int))) (
  (ixO s13.1 s14).bind fun v3=>
  (ixO v3 s13.2.2).bind fun v4=>
  cond (v4==0) (
   (rng (s14+1)).bind fun v5=>
   iG (.inl v5)) (
   iG (.inr s14))) (
  iG (.inr s14))
def zNq(x0:Int)(s13:(iO)×Int×Int)(r12:Int×Bool)(v13:iN)(s16:(iO)×Int):Option ((iO×Int)⊕iO):=
 cond (decide (s16.2<(v13.length:Int))) (
  (ixO s16.1 s13.2.1).bind fun v14=>
  (ixO s16.1 s13.2.1).bind fun v15=>
  (ixO v15 s16.2).bind fun v16=>
  (rng (v16*r12.1)).bind fun v17=>
  (tR v17 x0).bind fun v18=>
  (ixO v14 s16.2).bind fun _=>
  (rng (s16.2+1)).bind fun v20=>
  iG (.inl (s16.1.set s13.2.1.toNat (v14.set s16.2.toNat v18),v20))) (
  iG (.inr s16.1))
def zOQ(x0:Int)(s13:(iO)×Int×Int)(r21:(iO))(s18:(iO)×Int):Option ((iO×Int)⊕iO):=
 cond (decide (s18.2<(r21.length:Int))) (
  cond (s18.2 != s13.2.1) (
   (ixO s18.1 s18.2).bind fun v22=>
   (ixO s18.1 s13.2.1).bind fun v23=>
   (ixO s18.1 s18.2).bind fun v24=>
   (ixO v24 s13.2.2).bind fun v25=>
   (rng (0-v25)).bind fun v26=>
   (f_v v22 v23 v26 x0).bind fun r27=>
   (rng (s18.2+1)).bind fun v28=>
   iG (.inl (s18.1.set s18.2.toNat r27,v28))) (
   (rng (s18.2+1)).bind fun v29=>
   iG (.inl (s18.1,v29)))) (
  iG (.inr s18.1))
def zOR(x0:Int)(s13:(iO)×Int×Int):Option ((iO×Int×Int)⊕(iO×Int)):=
 cond (decide ((s13.1.length:Int)> 0)) (
  (ixO s13.1 0).bind fun v2=>
  cond (decide (s13.2.2<(v2.length:Int))) (
   cond (decide (s13.2.1<(s13.1.length:Int))) (
    (zI (zJh s13) s13.2.1).bind fun r6=>
    cond (r6==(s13.1.length:Int)) (
     (rng (s13.2.2+1)).bind fun v7=>
     iG (.inl (s13.1,s13.2.1,v7))) (
     (ixO s13.1 r6).bind fun v8=>
     (ixO s13.1 s13.2.1).bind fun v9=>
     (ixO (jY s13.1 s13.2.1 r6 v8 v9) s13.2.1).bind fun v10=>
     (ixO v10 s13.2.2).bind fun v11=>
     (f_V v11 x0).bind fun r12=>
     (ixO (jY s13.1 s13.2.1 r6 v8 v9) s13.2.1).bind fun v13=>
     (zI (zNq x0 s13 r12 v13) (jY s13.1 s13.2.1 r6 v8 v9,0)).bind fun r21=>
     (zI (zOQ x0 s13 r21) (r21,0)).bind fun r30=>
     (rng (s13.2.1+1)).bind fun v31=>
     (rng (s13.2.2+1)).bind fun v32=>
     iG (.inl (r30,v31,v32)))) (
    iG (.inr (s13.1,s13.2.1)))) (
   iG (.inr (s13.1,s13.2.1)))) (
  iG (.inr (s13.1,s13.2.1)))
def f_i(x0:Int)(x1:iO):Option iO:=
 (zWZ x1).bind fun r1=>
 (zI (zOR x0) (r1,0,0)).bind fun r33=>
 (yD r33.1 0 r33.2).bind fun v34=>
 iG v34
def zVk(x0:Int)(x1:Int):Option Int:=
 (tR x0 x1).bind fun v1=>
 cond (decide (v1<0)) (
  (rng (v1+x1)).bind fun v2=>
  iG v2) (
  iG v1)
def zJi(x0:iN)(s1:Int):Option (Int⊕(Unit⊕Int)):=
 cond (decide (s1<(x0.length:Int))) (
  (ixO x0 s1).bind fun v1=>
  cond (v1 != 0) (
   iG (.inr (.inr s1))) (
   (rng (s1+1)).bind fun v2=>
   iG (.inl v2))) (
  iG (.inr (.inl ())))
def f_E(x0:iN):Option Int:=
 (zI (zJi x0) 0).bind fun r3=>
 match r3 with
 |(.inl r3)=>
  iG (x0.length:Int)
 |(.inr r3)=>
  iG r3
def zVl(x0:Int)(x2:Int)(x3:iN)(s1:(iN)×Int):Option ((iN×Int)⊕iN):=
 cond (decide (s1.2<(s1.1.length:Int))) (
  cond (decide (s1.2<(x3.length:Int))) (
   (ixO s1.1 s1.2).bind fun v2=>
   (ixO x3 s1.2).bind fun v3=>
   (rng (x2*v3)).bind fun v4=>
   (rng (v2+v4)).bind fun v5=>
   (zVk v5 x0).bind fun r6=>
   (ixO s1.1 s1.2).bind fun _=>
   (rng (s1.2+1)).bind fun v8=>
   iG (.inl (s1.1.set s1.2.toNat r6,v8))) (
   iG (.inr s1.1))) (
  iG (.inr s1.1))
def f_z(x0:Int)(x1:iN)(x2:Int)(x3:iN):Option iN:=
 (f_B x1).bind fun r1=>
 (zI (zVl x0 x2 x3) (r1,0)).bind fun r9=>
 iG r9
def zNr(x0:Int)(x1:iO)(s1:(iN)×Int):Option ((iN×Int)⊕iN):=
 cond (decide (s1.2<(x1.length:Int))) (
  (ixO x1 s1.2).bind fun v2=>
  (f_E v2).bind fun r3=>
  cond (decide (r3<(s1.1.length:Int))) (
   (ixO s1.1 r3).bind fun v4=>
   cond (v4 != 0) (
    (ixO s1.1 r3).bind fun v5=>
    (rng (x0-v5)).bind fun v6=>
    (ixO x1 s1.2).bind fun v7=>
    (f_z x0 s1.1 v6 v7).bind fun r8=>
    (rng (s1.2+1)).bind fun v9=>
    iG (.inl (r8,v9))) (
    (rng (s1.2+1)).bind fun v10=>
    iG (.inl (s1.1,v10)))) (
   (rng (s1.2+1)).bind fun v11=>
   iG (.inl (s1.1,v11)))) (
  iG (.inr s1.1))
def zOS(x0:Int)(x1:iO)(x2:iN):Option iN:=
 (f_B x2).bind fun r1=>
 (zI (zNr x0 x1) (r1,0)).bind fun r12=>
 iG r12
def zNs(x0:Int)(x1:Int)(s1:Int):Option (Int⊕(Unit⊕Int)):=
 cond (decide (s1<x1)) (
  (zVk x0 x1).bind fun r1=>
  (rng (r1*s1)).bind fun v2=>
  (tR v2 x1).bind fun v3=>
  cond (v3==1) (
   iG (.inr (.inr s1))) (
   (rng (s1+1)).bind fun v4=>
   iG (.inl v4))) (
  iG (.inr (.inl ())))
def zXa(x0:Int)(x1:Int):Option Int:=
 (zI (zNs x0 x1) 1).bind fun r5=>
 match r5 with
 |(.inl r5)=>
  iG 0
 |(.inr r5)=>
  iG r5
def zXb(x0:Int)(x1:Int)(x2:iN):Option iN:=
 (xG (x2.length:Int)).bind fun m1=>
 (f_z x0 (J1 m1 (0:Int)) x1 x2).bind fun r2=>
 iG r2
def zJj(x0:Int)(s5:(iO)×Int)(r3:Int)(r7:(iN))(s6:(iO)×Bool×Int):Option ((iO×Bool×Int)⊕(iO×Bool)):=
 cond (decide (s6.2.2<(s5.1.length:Int))) (
  cond (!s6.2.1) (
   (ixO s5.1 s6.2.2).bind fun v8=>
   (f_E v8).bind fun r9=>
   cond (decide (r9> r3)) (
    (xT s6.1 [r7]).bind fun v10=>
    (ixO s5.1 s6.2.2).bind fun v11=>
    (ixO s5.1 s6.2.2).bind fun v12=>
    (ixO v12 r3).bind fun v13=>
    (rng (x0-v13)).bind fun v14=>
    (f_z x0 v11 v14 r7).bind fun r15=>
    (xT v10 [r15]).bind fun v16=>
    (rng (s6.2.2+1)).bind fun v17=>
    iG (.inl (v16,iI,v17))) (
    (ixO s5.1 s6.2.2).bind fun v18=>
    (ixO s5.1 s6.2.2).bind fun v19=>
    (ixO v19 r3).bind fun v20=>
    (rng (x0-v20)).bind fun v21=>
    (f_z x0 v18 v21 r7).bind fun r22=>
    (xT s6.1 [r22]).bind fun v23=>
    (rng (s6.2.2+1)).bind fun v24=>
    iG (.inl (v23,s6.2.1,v24)))) (
   (ixO s5.1 s6.2.2).bind fun v25=>
   (ixO s5.1 s6.2.2).bind fun v26=>
   (ixO v26 r3).bind fun v27=>
   (rng (x0-v27)).bind fun v28=>
   (f_z x0 v25 v28 r7).bind fun r29=>
   (xT s6.1 [r29]).bind fun v30=>
   (rng (s6.2.2+1)).bind fun v31=>
   iG (.inl (v30,s6.2.1,v31)))) (
  iG (.inr (s6.1,s6.2.1)))
def zR5(x0:Int)(x1:iO)(s5:(iO)×Int):Option ((iO×Int)⊕iO):=
 cond (decide (s5.2<(x1.length:Int))) (
  (ixO x1 s5.2).bind fun v1=>
  (zOS x0 s5.1 v1).bind fun r2=>
  (f_E r2).bind fun r3=>
  cond (r3==(r2.length:Int)) (
   (rng (s5.2+1)).bind fun v4=>
   iG (.inl (s5.1,v4))) (
   (ixO r2 r3).bind fun v5=>
   (zXa v5 x0).bind fun r6=>
   (zXb x0 r6 r2).bind fun r7=>
   (zI (zJj x0 s5 r3 r7) ([],iJ,0)).bind fun r32=>
   cond (!r32.2) (
    (xT r32.1 [r7]).bind fun v33=>
    (rng (s5.2+1)).bind fun v34=>
    iG (.inl (v33,v34))) (
    (rng (s5.2+1)).bind fun v35=>
    iG (.inl (r32.1,v35))))) (
  iG (.inr s5.1))
def f_r(x0:Int)(x1:iO):Option iO:=
 (zI (zR5 x0 x1) ([],0)).bind fun r36=>
 iG r36
def zNt(x1:iO)(r1:(iO))(s1:(iO)×Int):Option ((iO×Int)⊕iO):=
 cond (decide (s1.2<(x1.length:Int))) (
  (ixO x1 s1.2).bind fun v2=>
  (f_B v2).bind fun r3=>
  (ixO r1 s1.2).bind fun v4=>
  (xT r3 v4).bind fun v5=>
  (xT s1.1 [v5]).bind fun v6=>
  (rng (s1.2+1)).bind fun v7=>
  iG (.inl (v6,v7))) (
  iG (.inr s1.1))
def zXc(x0:Int)(x1:iO):Option iO:=
 (f_C (x1.length:Int)).bind fun r1=>
 (zI (zNt x1 r1) ([],0)).bind fun r8=>
 (f_r x0 r8).bind fun r9=>
 iG r9
def zJW(x2:Int)(r1:(iO))(s1:(iO)×Int):Option ((iO×Int)⊕iO):=
 cond (decide (s1.2<(r1.length:Int))) (
  (ixO r1 s1.2).bind fun v2=>
  (f_E v2).bind fun r3=>
  cond (decide (r3≥x2)) (
   (ixO r1 s1.2).bind fun v4=>
   (yD v4 x2 v4.length).bind fun v5=>
   (f_B v5).bind fun r6=>
   (xT s1.1 [r6]).bind fun v7=>
   (rng (s1.2+1)).bind fun v8=>
   iG (.inl (v7,v8))) (
   (rng (s1.2+1)).bind fun v9=>
   iG (.inl (s1.1,v9)))) (
  iG (.inr s1.1))
def zXd(x0:Int)(x1:iO)(x2:Int):Option iO:=
 (zXc x0 x1).bind fun r1=>
 (zI (zJW x2 r1) ([],0)).bind fun r10=>
 iG r10
def zVm(x0:SPr):Option Int:=
 (rng ((x0.zA.length:Int)-1)).bind fun v1=>
 (rng ((x0.zA.length:Int)*v1)).bind fun v2=>
 (sH v2 2).bind fun v3=>
 (rng ((x0.zA.length:Int)+v3)).bind fun v4=>
 iG v4
def zZP(x0:Int)(x1:Int)(x2:Int):Option Int:=
 (rng (x1*x0)).bind fun v1=>
 (rng (x0+v1)).bind fun v2=>
 (rng (x1+1)).bind fun v3=>
 (rng (x1*v3)).bind fun v4=>
 (sH v4 2).bind fun v5=>
 (rng (v2-v5)).bind fun v6=>
 (rng (v6+x2)).bind fun v7=>
 (rng (v7-x1)).bind fun v8=>
 (rng (v8-1)).bind fun v9=>
 iG v9
def zVn(x0:SPr):Option Int:=
 (rng ((x0.zA.length:Int)+1)).bind fun v1=>
 (rng ((x0.zA.length:Int)*v1)).bind fun v2=>
 (sH v2 2).bind fun v3=>
 iG v3
def zNu(x0:iN)(x1:Int)(s1:(iO)×Int):Option ((iO×Int)⊕iO):=
 cond (decide (s1.2<(x0.length:Int))) (
  (rng (s1.2+x1)).bind fun v1=>
  (yD x0 s1.2 v1).bind fun v2=>
  (f_F v2).bind fun r3=>
  (xT s1.1 [r3]).bind fun v4=>
  (rng (s1.2+x1)).bind fun v5=>
  iG (.inl (v4,v5))) (
  iG (.inr s1.1))
def zR6(x0:iN)(x1:Int):Option iO:=
 (zI (zNu x0 x1) ([],0)).bind fun r6=>
 iG r6
def zR7(x0:iN)(s6:(iO)×Int):Option ((iO×Int)⊕iO):=
 cond (decide (s6.2<(x0.length:Int))) (
  (zLm (x0.length:Int) s6.2).bind fun r5=>
  (xT s6.1 [r5]).bind fun v6=>
  (rng (s6.2+1)).bind fun v7=>
  iG (.inl (v6,v7))) (
  iG (.inr s6.1))
def zR8(x0:iN)(s5:(iO)×(List iO)×Int):Option ((iO×(List iO)×Int)⊕(iO×(List iO))):=
 cond (decide (s5.2.2<(x0.length:Int))) (
  (xG (x0.length:Int)).bind fun m2=>
  (xT s5.1 [J1 m2 (0:Int)]).bind fun v3=>
  (rng (s5.2.2+1)).bind fun v4=>
  (zI (zR7 x0) ([],v4)).bind fun r8=>
  (xT s5.2.1 [r8]).bind fun v9=>
  (rng (s5.2.2+1)).bind fun v10=>
  iG (.inl (v3,v9,v10))) (
  iG (.inr (s5.1,s5.2.1)))
def f_M(x0:iN):Option SPr:=
 (f_F x0).bind fun r1=>
 (zI (zR8 x0) ([],[],0)).bind fun r11=>
 iG (SPr.mk r1 r11.1 r11.2)
def zOT(x0:SPr)(x2:iO)(s1:(iO)×Int×Int):Option ((iO×Int×Int)⊕(iO×Int)):=
 cond (decide (s1.2.2<(x0.zS.length:Int))) (
  (ixO x0.zS s1.2.2).bind fun v5=>
  (ixO x2 s1.2.1).bind fun v6=>
  (f_q [v5,v6]).bind fun r7=>
  (ixO s1.1 s1.2.2).bind fun _=>
  (rng (s1.2.1+1)).bind fun v9=>
  (rng (s1.2.2+1)).bind fun v10=>
  iG (.inl (s1.1.set s1.2.2.toNat r7,v9,v10))) (
  iG (.inr (s1.1,s1.2.1)))
def zOU(x2:iO)(s11:(List iO)×Int×Int)(v12:iO)(s12:(List iO)×Int×Int):Option (((List iO)×Int×Int)⊕((List iO)×Int)):=
 cond (decide (s12.2.2<(v12.length:Int))) (
  (ixO v12 s12.2.2).bind fun v13=>
  (ixO s12.1 s11.2.2).bind fun v14=>
  (ixO x2 s12.2.1).bind fun v15=>
  (f_q [v13,v15]).bind fun r16=>
  (ixO v14 s12.2.2).bind fun _=>
  (rng (s12.2.1+1)).bind fun v18=>
  (rng (s12.2.2+1)).bind fun v19=>
  iG (.inl (s12.1.set s11.2.2.toNat (v14.set s12.2.2.toNat r16),v18,v19))) (
  iG (.inr (s12.1,s12.2.1)))
def zOV(x0:SPr)(s11:(List iO)×Int×Int)(v21:iO)(s14:(List iO)×Int):Option (((List iO)×Int)⊕(List iO)):=
 cond (decide (s14.2<(v21.length:Int))) (
  (ixO v21 s14.2).bind fun v22=>
  (ixO s14.1 s11.2.2).bind fun v23=>
  (rng ((x0.zA.length:Int)-1)).bind fun v24=>
  (rng (v24-s11.2.2)).bind fun v25=>
  (rng (v25+s14.2)).bind fun v26=>
  (zVf v22 (x0.zA.length:Int) 0).bind fun r27=>
  (ixO v23 v26).bind fun _=>
  (rng (s14.2+1)).bind fun v29=>
  iG (.inl (s14.1.set s11.2.2.toNat (v23.set v26.toNat r27),v29))) (
  iG (.inr s14.1))
def zOW(x0:SPr)(x1:zB)(x2:iO)(s11:(List iO)×Int×Int):Option (((List iO)×Int×Int)⊕(List iO)):=
 cond (decide (s11.2.2<(x0.zA.length:Int))) (
  (ixO x0.zG s11.2.2).bind fun v12=>
  (zI (zOU x2 s11 v12) (s11.1,s11.2.1,0)).bind fun r20=>
  (ixO x1.zF s11.2.2).bind fun v21=>
  (zI (zOV x0 s11 v21) (r20.1,0)).bind fun r30=>
  (rng (s11.2.2+1)).bind fun v31=>
  iG (.inl (r30,r20.2,v31))) (
  iG (.inr s11.1))
def f_n(x0:SPr)(x1:zB)(x2:iO):Option SPr:=
 (f_F x0.zA).bind fun r1=>
 (f_j [x1.Prime] x1.Dim).bind fun r2=>
 (xT r1 r2).bind fun v3=>
 (f_M v3).bind fun r4=>
 (zI (zOT x0 x2) (r4.zS,0,0)).bind fun r11=>
 (zI (zOW x0 x1 x2) (r4.zG,r11.2,0)).bind fun r32=>
 iG (SPr.mk r4.zA r11.1 r32)
def zNv(x0:zB)(x1:iO)(s1:Int):Option (Int⊕(Unit⊕Bool)):=
 cond (decide (s1<(x1.length:Int))) (
  (ixO x1 s1).bind fun v1=>
  (zUx x0.Prime x0.Dim v1).bind fun r2=>
  cond (!r2) (
   iG (.inr (.inr iJ))) (
   (rng (s1+1)).bind fun v3=>
   iG (.inl v3))) (
  iG (.inr (.inl ())))
def zZQ(x0:zB)(x1:iO):Option Bool:=
 (zI (zNv x0 x1) 0).bind fun r4=>
 match r4 with
 |(.inl r4)=>
  iG iI
 |(.inr r4)=>
  iG r4
def zNw(x0:zB)(x1:iO)(x2:iN)(x3:Int):Option iN:=
 (ixO x0.zF x3).bind fun v1=>
 (f_L x0.Prime x2 v1 x0.Dim).bind fun r2=>
 (ixO x1 x3).bind fun v3=>
 (f_z x0.Prime r2 1 v3).bind fun r4=>
 iG r4
def zVo(x0:zB)(x1:iO)(x3:iN)(s5:(iN)×Int)(s6:(iN)×Int):Option ((iN×Int)⊕iN):=
 (ixO x3 s5.2).bind fun v1=>
 cond (decide (s6.2<v1)) (
  (zNw x0 x1 s6.1 s5.2).bind fun r2=>
  (rng (s6.2+1)).bind fun v3=>
  iG (.inl (r2,v3))) (
  iG (.inr s6.1))
def zVp(x0:zB)(x1:iO)(x3:iN)(s5:(iN)×Int):Option ((iN×Int)⊕iN):=
 cond (decide (s5.2<(x3.length:Int))) (
  (zI (zVo x0 x1 x3 s5) (s5.1,0)).bind fun r4=>
  (rng (s5.2+1)).bind fun v5=>
  iG (.inl (r4,v5))) (
  iG (.inr s5.1))
def f_R(x0:zB)(x1:iO)(x2:iN)(x3:iN):Option iN:=
 (zI (zVp x0 x1 x3) (x2,0)).bind fun r6=>
 iG r6
def zYn(x0:iN)(s1:Int):Option (Int⊕(Unit⊕Bool)):=
 cond (decide (s1<(x0.length:Int))) (
  (ixO x0 s1).bind fun v1=>
  cond (v1 != 0) (
   iG (.inr (.inr iJ))) (
   (rng (s1+1)).bind fun v2=>
   iG (.inl v2))) (
  iG (.inr (.inl ())))
def zZR(x0:iN):Option Bool:=
 (zI (zYn x0) 0).bind fun r3=>
 match r3 with
 |(.inl r3)=>
  iG iI
 |(.inr r3)=>
  iG r3
def zQ4(x0:zB)(x1:iO)(s1:Int):Option (Int⊕(Unit⊕Bool)):=
 cond (decide (s1<(x1.length:Int))) (
  (ixO x1 s1).bind fun v1=>
  (zUP v1 x0.Prime x0.Dim).bind fun r2=>
  cond (!r2) (
   iG (.inr (.inr iJ))) (
   (rng (s1+1)).bind fun v3=>
   iG (.inl v3))) (
  iG (.inr (.inl ())))
def zZS(x0:zB)(x1:iO):Option Bool:=
 (zI (zQ4 x0 x1) 0).bind fun r4=>
 match r4 with
 |(.inl r4)=>
  iG iI
 |(.inr r4)=>
  iG r4
def zNx(x0:zB)(x1:iO)(x2:iN)(s1:(iN)×Int):Option ((iN×Int)⊕iN):=
 cond (decide (s1.2<(x2.length:Int))) (
  (ixO x2 s1.2).bind fun v2=>
  (rng (v2-1)).bind fun v3=>
  (zOP x0 v3).bind fun r4=>
  (zUW s1.1 r4).bind fun r5=>
  (rng (v2-1)).bind fun v6=>
  (ixO x1 v6).bind fun v7=>
  (f_v r5 v7 1 x0.Prime).bind fun r8=>
  (rng (s1.2+1)).bind fun v9=>
  iG (.inl (r8,v9))) (
  iG (.inr s1.1))
def zVq(x0:zB)(x1:iO)(x2:iN):Option iN:=
 (xG x0.Dim).bind fun m1=>
 (zI (zNx x0 x1 x2) (J1 m1 (0:Int),0)).bind fun r10=>
 iG r10
def zNy(x1:zB)(x2:iO)(r1:(List (iN×iN)))(s1:(iO)×Int):Option ((iO×Int)⊕iO):=
 cond (decide (s1.2<(r1.length:Int))) (
  (ixO r1 s1.2).bind fun v2=>
  (zVq x1 x2 v2.1).bind fun r3=>
  (zVq x1 x2 v2.2).bind fun r4=>
  (f_v r3 r4 (-1) x1.Prime).bind fun r5=>
  (xT s1.1 [r5]).bind fun v6=>
  (rng (s1.2+1)).bind fun v7=>
  iG (.inl (v6,v7))) (
  iG (.inr s1.1))
def zXe(x0:SPr)(x1:zB)(x2:iO):Option iO:=
 (f_D x0).bind fun r1=>
 (zI (zNy x1 x2 r1) ([],0)).bind fun r8=>
 iG r8
def zXf(x0:SPr)(x1:zB)(x2:iO):Option Bool:=
 (zVm x0).bind fun r1=>
 cond ((x2.length:Int)==r1) (
  (zZQ x1 x2).bind fun r2=>
  iG r2) (
  iG iJ)
def zNz(x0:yA):Option zJ:=
 cond (decide ((x0.zND.length:Int)> 0)) (
  (ixO x0.zND 0).bind fun v1=>
  (xG (x0.p.zA.length:Int)).bind fun m2=>
  (xG (v1.length:Int)).bind fun m3=>
  iG (zJ.mk (J1 m2 (0:Int)) (J1 m3 (0:Int)))) (
  (xG (x0.p.zA.length:Int)).bind fun m4=>
  (xG 0).bind fun m5=>
  iG (zJ.mk (J1 m4 (0:Int)) (J1 m5 (0:Int))))
def zLp(x0:yA)(x1:Int)(x2:Int):Option zJ:=
 (ixO x0.p.zG x1).bind fun v1=>
 (rng (x2-x1)).bind fun v2=>
 (rng (v2-1)).bind fun v3=>
 (ixO v1 v3).bind fun v4=>
 (zZP (x0.p.zA.length:Int) x1 x2).bind fun r5=>
 (ixO x0.zND r5).bind fun v6=>
 iG (zJ.mk v4 v6)
def zLq(x0:zB)(x1:iN)(x2:Int)(s1:(iN)×Int):Option ((iN×Int)⊕iN):=
 cond (decide (s1.2<(x1.length:Int))) (
  (rng (s1.2+x0.Dim)).bind fun v1=>
  (yD x1 s1.2 v1).bind fun v2=>
  (ixO x0.zF x2).bind fun v3=>
  (f_L x0.Prime v2 v3 x0.Dim).bind fun r4=>
  (xT s1.1 r4).bind fun v5=>
  (rng (s1.2+x0.Dim)).bind fun v6=>
  iG (.inl (v5,v6))) (
  iG (.inr s1.1))
def f_W(x0:zB)(x1:iN)(x2:Int):Option iN:=
 (zI (zLq x0 x1 x2) ([],0)).bind fun r7=>
 iG r7
def zOX(x0:yA)(x1:Int):Option zJ:=
 (ixO x0.p.zS x1).bind fun v1=>
 (ixO x0.zND x1).bind fun v2=>
 iG (zJ.mk v1 v2)
def zXg(g_d:yA→Int→zJ→zJ→Option zJ)(x0:yA)(x1:Int)(x2:zJ)(s5:(iN)×iN×Int)(s6:(iN)×iN×Int):Option ((iN×iN×Int)⊕(iN×iN)):=
 (ixO x2.x s5.2.2).bind fun v3=>
 cond (decide (s6.2.2<v3)) (
  (rng (x1+1)).bind fun v4=>
  (zLp x0 x1 s5.2.2).bind fun r5=>
  (g_d x0 v4 (zJ.mk s6.1 s6.2.1) r5).bind fun r6=>
  (rng (s6.2.2+1)).bind fun v7=>
  iG (.inl (r6.x,r6.v,v7))) (
  iG (.inr (s6.1,s6.2.1)))
def zVr(g_d:yA→Int→zJ→zJ→Option zJ)(x0:yA)(x1:Int)(x2:zJ)(s5:(iN)×iN×Int):Option ((iN×iN×Int)⊕(iN×iN)):=
 cond (decide (s5.2.2<(x2.x.length:Int))) (
  (zI (zXg g_d x0 x1 x2 s5) (s5.1,s5.2.1,0)).bind fun r8=>
  (rng (s5.2.2+1)).bind fun v9=>
  iG (.inl (r8.1,r8.2,v9))) (
  iG (.inr (s5.1,s5.2.1)))
def b_h(g_d:yA→Int→zJ→zJ→Option zJ)(x0:yA)(x1:Int)(x2:zJ):Option zJ:=
 (zNz x0).bind fun r1=>
 (rng (x1+1)).bind fun v2=>
 (zI (zVr g_d x0 x1 x2) (r1.x,r1.v,v2)).bind fun r10=>
 (f_W x0.m x2.v x1).bind fun r11=>
 (f_z x0.m.Prime r10.2 1 r11).bind fun r12=>
 iG (zJ.mk r10.1 r12)
def zR9(g_h:yA→Int→zJ→Option zJ)(x0:yA)(x1:Int)(x3:zJ)(s1:(iN)×iN×Int):Option ((iN×iN×Int)⊕(iN×iN)):=
 (ixO x3.x x1).bind fun v7=>
 cond (decide (s1.2.2<v7)) (
  (g_h x0 x1 (zJ.mk s1.1 s1.2.1)).bind fun r8=>
  (rng (s1.2.2+1)).bind fun v9=>
  iG (.inl (r8.x,r8.v,v9))) (
  iG (.inr (s1.1,s1.2.1)))
def b_d(g_h:yA→Int→zJ→Option zJ)(g_d:yA→Int→zJ→zJ→Option zJ)(x0:yA)(x1:Int)(x2:zJ)(x3:zJ):Option zJ:=
 cond (decide (x1≥(x0.p.zA.length:Int))) (
  (xG (x0.p.zA.length:Int)).bind fun m1=>
  (f_z x0.m.Prime x2.v 1 x3.v).bind fun r2=>
  iG (zJ.mk (J1 m1 (0:Int)) r2)) (
  (f_B x2.x).bind fun r3=>
  (f_B x3.x).bind fun r4=>
  (ixO r3 x1).bind fun _=>
  (ixO r4 x1).bind fun _=>
  (zI (zR9 g_h x0 x1 x3) (r3.set x1.toNat 0,x2.v,0)).bind fun r10=>
  (rng (x1+1)).bind fun v11=>
  (g_d x0 v11 (zJ.mk r10.1 r10.2) (zJ.mk (r4.set x1.toNat 0) x3.v)).bind fun r12=>
  (ixO x2.x x1).bind fun v13=>
  (ixO x3.x x1).bind fun v14=>
  (rng (v13+v14)).bind fun v15=>
  (ixO x0.p.zA x1).bind fun v16=>
  cond (decide (v15≥v16)) (
   (ixO x0.p.zA x1).bind fun v17=>
   (rng (v15-v17)).bind fun v18=>
   (rng (x1+1)).bind fun v19=>
   (zOX x0 x1).bind fun r20=>
   (g_d x0 v19 r20 r12).bind fun r21=>
   (f_B r21.x).bind fun r22=>
   (ixO r22 x1).bind fun _=>
   iG (zJ.mk (r22.set x1.toNat v18) r21.v)) (
   (f_B r12.x).bind fun r24=>
   (ixO r24 x1).bind fun _=>
   iG (zJ.mk (r24.set x1.toNat v15) r12.v)))
mutual
def zOY:Nat→yA→Int→zJ→Option zJ
 |0=>fun _ _ _=>iH
 |n+1=>b_h (zOZ n)
def zOZ:Nat→yA→Int→zJ→zJ→Option zJ
 |0=>fun _ _ _ _=>iH
 |n+1=>b_d (zOY n) (zOZ n)
end
def f_h(x0:yA)(x1:Int)(x2:zJ):Option zJ:=zDI fun n=>zOY n x0 x1 x2
def f_d(x0:yA)(x1:Int)(x2:zJ)(x3:zJ):Option zJ:=zDI fun n=>zOZ n x0 x1 x2 x3
def zN0(x0:yA)(x1:zJ)(x2:zJ):Option iN:=
 (rng (x0.m.Prime-1)).bind fun v1=>
 (f_z x0.m.Prime x1.v v1 x2.v).bind fun r2=>
 iG r2
def zRA(x0:yA)(x1:Int)(s9:(iO)×Int)(s10:(iN)×iN×Int):Option ((iN×iN×Int)⊕(iN×iN)):=
 (ixO x0.p.zA s9.2).bind fun v3=>
 cond (decide (s10.2.2<v3)) (
  (rng (x1+1)).bind fun v4=>
  (zLp x0 x1 s9.2).bind fun r5=>
  (f_d x0 v4 (zJ.mk s10.1 s10.2.1) r5).bind fun r6=>
  (rng (s10.2.2+1)).bind fun v7=>
  iG (.inl (r6.x,r6.v,v7))) (
  iG (.inr (s10.1,s10.2.1)))
def zRB(x0:yA)(x1:Int)(s9:(iO)×Int)(s12:(iO)×Int):Option ((iO×Int)⊕iO):=
 cond (decide (s12.2<(x0.p.zA.length:Int))) (
  (zLp x0 x1 s9.2).bind fun r14=>
  (zLp x0 x1 s12.2).bind fun r15=>
  (zLp x0 s9.2 s12.2).bind fun r16=>
  (f_h x0 x1 r16).bind fun r17=>
  (rng (x1+1)).bind fun v18=>
  (f_d x0 v18 r15 r14).bind fun r19=>
  (rng (x1+1)).bind fun v20=>
  (f_d x0 v20 r14 r17).bind fun r21=>
  (zN0 x0 r19 r21).bind fun r22=>
  (xT s12.1 [r22]).bind fun v23=>
  (rng (s12.2+1)).bind fun v24=>
  iG (.inl (v23,v24))) (
  iG (.inr s12.1))
def zVs(x0:yA)(x1:Int)(s9:(iO)×Int):Option ((iO×Int)⊕iO):=
 cond (decide (s9.2<(x0.p.zA.length:Int))) (
  (zNz x0).bind fun r2=>
  (zI (zRA x0 x1 s9) (r2.x,r2.v,0)).bind fun r8=>
  (zOX x0 s9.2).bind fun r9=>
  (f_h x0 x1 r9).bind fun r10=>
  (zN0 x0 (zJ.mk r8.1 r8.2) r10).bind fun r11=>
  (xT s9.1 [r11]).bind fun v12=>
  (rng (s9.2+1)).bind fun v13=>
  (zI (zRB x0 x1 s9) (v12,v13)).bind fun r25=>
  (rng (s9.2+1)).bind fun v26=>
  iG (.inl (r25,v26))) (
  iG (.inr s9.1))
def zVt(x0:yA)(x1:Int)(s20:(iN)×iN×Int):Option ((iN×iN×Int)⊕(iN×iN)):=
 (ixO x0.p.zA x1).bind fun v35=>
 cond (decide (s20.2.2<v35)) (
  (f_h x0 x1 (zJ.mk s20.1 s20.2.1)).bind fun r36=>
  (rng (s20.2.2+1)).bind fun v37=>
  iG (.inl (r36.x,r36.v,v37))) (
  iG (.inr (s20.1,s20.2.1)))
def zRC(x0:yA)(x1:Int)(r28:zJ)(s19:(iO)×Int):Option ((iO×Int)⊕iO):=
 cond (decide (s19.2<(x0.p.zA.length:Int))) (
  (zNz x0).bind fun r33=>
  (ixO r33.x s19.2).bind fun _=>
  (zI (zVt x0 x1) (r33.x.set s19.2.toNat 1,r33.v,0)).bind fun r38=>
  (rng (x1+1)).bind fun v39=>
  (f_d x0 v39 r28 (zJ.mk r38.1 r38.2)).bind fun r40=>
  (rng (x1+1)).bind fun v41=>
  (f_d x0 v41 (zJ.mk (r33.x.set s19.2.toNat 1) r33.v) r28).bind fun r42=>
  (zN0 x0 r40 r42).bind fun r43=>
  (xT s19.1 [r43]).bind fun v44=>
  (rng (s19.2+1)).bind fun v45=>
  iG (.inl (v44,v45))) (
  iG (.inr s19.1))
def f_l(x0:yA)(x1:Int):Option iO:=
 (rng (x1+1)).bind fun v1=>
 (zI (zVs x0 x1) ([],v1)).bind fun r27=>
 (zOX x0 x1).bind fun r28=>
 (f_h x0 x1 r28).bind fun r29=>
 (zN0 x0 r29 r28).bind fun r30=>
 (xT r27 [r30]).bind fun v31=>
 (rng (x1+1)).bind fun v32=>
 (zI (zRC x0 x1 r28) (v31,v32)).bind fun r46=>
 iG r46
def zRD(x0:yA)(s1:(iO)×Int):Option ((iO×Int)⊕iO):=
 cond (decide (s1.2<(x0.p.zA.length:Int))) (
  (f_l x0 s1.2).bind fun r1=>
  (xT s1.1 r1).bind fun v2=>
  (rng (s1.2+1)).bind fun v3=>
  iG (.inl (v2,v3))) (
  iG (.inr s1.1))
def f_O(x0:yA):Option iO:=
 (zI (zRD x0) ([],0)).bind fun r4=>
 iG r4
def zN1(r1:(iO))(s1:Int):Option (Int⊕(Unit⊕Bool)):=
 cond (decide (s1<(r1.length:Int))) (
  (ixO r1 s1).bind fun v2=>
  (zZR v2).bind fun r3=>
  cond (!r3) (
   iG (.inr (.inr iJ))) (
   (rng (s1+1)).bind fun v4=>
   iG (.inl v4))) (
  iG (.inr (.inl ())))
def zVu(x0:SPr)(x1:zB)(x2:iO):Option Bool:=
 (f_O (yA.mk x0 x1 x2)).bind fun r1=>
 (zI (zN1 r1) 0).bind fun r5=>
 match r5 with
 |(.inl r5)=>
  iG iI
 |(.inr r5)=>
  iG r5
def zXh(x0:SPr)(x1:zB)(x2:iO):Option Bool:=
 (zVn x0).bind fun r1=>
 cond ((x2.length:Int)==r1) (
  (zZS x1 x2).bind fun r2=>
  iG r2) (
  iG iJ)
def zXi(x0:SPr)(x1:zB)(x2:iO):Option Bool:=
 (f_n x0 x1 x2).bind fun r1=>
 (f_U r1).bind fun r2=>
 iG (r2==0)
def zZT(x0:Int)(x1:Int)(x2:iO):Option zQ:=
 (f_i x0 x2).bind fun r1=>
 iG (zQ.mk x0 x1 r1)
def zXj(x0:Int):Option Bool:=
 iG (x0 != 0)
def zJX(x0:iN)(s1:Int):Option (Int⊕(Unit⊕Int)):=
 cond (decide (s1<(x0.length:Int))) (
  (ixO x0 s1).bind fun v1=>
  (zXj v1).bind fun r2=>
  cond r2 (
   iG (.inr (.inr s1))) (
   (rng (s1+1)).bind fun v3=>
   iG (.inl v3))) (
  iG (.inr (.inl ())))
def zXk(x0:iN):Option Int:=
 (zI (zJX x0) 0).bind fun r4=>
 match r4 with
 |(.inl r4)=>
  iG (-1)
 |(.inr r4)=>
  iG r4
def zN2(x0:iO)(s1:(iN)×Int):Option ((iN×Int)⊕iN):=
 cond (decide (s1.2<(x0.length:Int))) (
  (ixO x0 s1.2).bind fun v1=>
  (zXk v1).bind fun r2=>
  (xT s1.1 [r2]).bind fun v3=>
  (rng (s1.2+1)).bind fun v4=>
  iG (.inl (v3,v4))) (
  iG (.inr s1.1))
def zVv(x0:iO):Option iN:=
 (zI (zN2 x0) ([],0)).bind fun r5=>
 iG r5
def zJY(x0:zQ)(r2:(iN))(s1:(iN)×Int):Option ((iN×Int)⊕iN):=
 cond (decide (s1.2<(r2.length:Int))) (
  (ixO r2 s1.2).bind fun v3=>
  (ixO x0.Rows s1.2).bind fun v4=>
  (ixO s1.1 v3).bind fun v5=>
  (rng (0-v5)).bind fun v6=>
  (f_v s1.1 v4 v6 x0.Prime).bind fun r7=>
  (rng (s1.2+1)).bind fun v8=>
  iG (.inl (r7,v8))) (
  iG (.inr s1.1))
def zXl(x0:zQ)(x1:iN):Option iN:=
 (f_F x1).bind fun r1=>
 (zVv x0.Rows).bind fun r2=>
 (zI (zJY x0 r2) (r1,0)).bind fun r9=>
 iG r9
def zN3(x0:iO)(s1:(iN)×Int):Option ((iN×Int)⊕iN):=
 cond (decide (s1.2<(x0.length:Int))) (
  (ixO x0 s1.2).bind fun v1=>
  (xT s1.1 v1).bind fun v2=>
  (rng (s1.2+1)).bind fun v3=>
  iG (.inl (v2,v3))) (
  iG (.inr s1.1))
def zVw(x0:iO):Option iN:=
 (zI (zN3 x0) ([],0)).bind fun r4=>
 iG r4
def zRE(x2:Int)(r2:(iO))(s1:(iO)×Int):Option ((iO×Int)⊕iO):=
 cond (decide (s1.2<(r2.length:Int))) (
  (ixO r2 s1.2).bind fun v3=>
  (yD v3 0 x2).bind fun v4=>
  (f_T v4).bind fun r5=>
  cond r5 (
   (yD v3 x2 v3.length).bind fun v6=>
   (xT s1.1 [v6]).bind fun v7=>
   (rng (s1.2+1)).bind fun v8=>
   iG (.inl (v7,v8))) (
   (rng (s1.2+1)).bind fun v9=>
   iG (.inl (s1.1,v9)))) (
  iG (.inr s1.1))
def f_N(x0:Int)(x1:iO)(x2:Int):Option iO:=
 (zWY x1).bind fun r1=>
 (f_i x0 r1).bind fun r2=>
 (zI (zRE x2 r2) ([],0)).bind fun r10=>
 (f_i x0 r10).bind fun r11=>
 iG r11
def zN4(x0:iN)(x1:Int)(s1:(iO)×Int):Option ((iO×Int)⊕iO):=
 (rng (s1.2+x1)).bind fun v1=>
 cond (decide (v1≤(x0.length:Int))) (
  (rng (s1.2+x1)).bind fun v2=>
  (yD x0 s1.2 v2).bind fun v3=>
  (f_B v3).bind fun r4=>
  (xT s1.1 [r4]).bind fun v5=>
  (rng (s1.2+x1)).bind fun v6=>
  iG (.inl (v5,v6))) (
  iG (.inr s1.1))
def zVx(x0:iN)(x1:Int):Option iO:=
 (zI (zN4 x0 x1) ([],0)).bind fun r7=>
 iG r7
def zVy(x0:SPr)(x1:zB)(x2:iO)(s5:(iO)×Int)(s6:(iN)×Int):Option ((iN×Int)⊕iN):=
 (ixO x0.zA s5.2).bind fun v2=>
 cond (decide (s6.2<v2)) (
  (zNw x1 x2 s6.1 s5.2).bind fun r3=>
  (rng (s6.2+1)).bind fun v4=>
  iG (.inl (r3,v4))) (
  iG (.inr s6.1))
def zVz(x0:SPr)(x1:zB)(x2:iO)(m1:Nat)(s5:(iO)×Int):Option ((iO×Int)⊕iO):=
 cond (decide (s5.2<(x0.zA.length:Int))) (
  (zI (zVy x0 x1 x2 s5) (J1 m1 (0:Int),0)).bind fun r5=>
  (rng (x1.Prime-1)).bind fun v6=>
  (ixO x0.zS s5.2).bind fun v7=>
  (f_R x1 x2 (J1 m1 (0:Int)) v7).bind fun r8=>
  (f_z x1.Prime r5 v6 r8).bind fun r9=>
  (xT s5.1 [r9]).bind fun v10=>
  (rng (s5.2+1)).bind fun v11=>
  iG (.inl (v10,v11))) (
  iG (.inr s5.1))
def zV0(x0:SPr)(x1:zB)(x2:iO)(m1:Nat)(s13:(iO)×Int)(s14:(iO)×Int):Option ((iO×Int)⊕iO):=
 cond (decide (s14.2<(x0.zA.length:Int))) (
  (zNw x1 x2 (J1 m1 (0:Int)) s14.2).bind fun r14=>
  (zNw x1 x2 r14 s13.2).bind fun r15=>
  (zNw x1 x2 (J1 m1 (0:Int)) s13.2).bind fun r16=>
  (ixO x0.zG s13.2).bind fun v17=>
  (rng (s14.2-s13.2)).bind fun v18=>
  (rng (v18-1)).bind fun v19=>
  (ixO v17 v19).bind fun v20=>
  (f_R x1 x2 r16 v20).bind fun r21=>
  (rng (x1.Prime-1)).bind fun v22=>
  (f_z x1.Prime r15 v22 r21).bind fun r23=>
  (xT s14.1 [r23]).bind fun v24=>
  (rng (s14.2+1)).bind fun v25=>
  iG (.inl (v24,v25))) (
  iG (.inr s14.1))
def zV1(x0:SPr)(x1:zB)(x2:iO)(m1:Nat)(s13:(iO)×Int):Option ((iO×Int)⊕iO):=
 cond (decide (s13.2<(x0.zA.length:Int))) (
  (rng (s13.2+1)).bind fun v13=>
  (zI (zV0 x0 x1 x2 m1 s13) (s13.1,v13)).bind fun r26=>
  (rng (s13.2+1)).bind fun v27=>
  iG (.inl (r26,v27))) (
  iG (.inr s13.1))
def f_u(x0:SPr)(x1:zB)(x2:iO):Option iO:=
 (xG x1.Dim).bind fun m1=>
 (zI (zVz x0 x1 x2 m1) ([],0)).bind fun r12=>
 (zI (zV1 x0 x1 x2 m1) (r12,0)).bind fun r28=>
 iG r28
def zN5(x0:SPr)(x1:zB)(v1:Int)(s1:(iO)×Int):Option ((iO×Int)⊕iO):=
 cond (decide (s1.2<v1)) (
  (xG v1).bind fun m2=>
  (ixO (J1 m2 (0:Int)) s1.2).bind fun _=>
  (zVx ((J1 m2 (0:Int)).set s1.2.toNat 1) x1.Dim).bind fun r4=>
  (f_u x0 x1 r4).bind fun r5=>
  (zVw r5).bind fun r6=>
  (xT s1.1 [r6]).bind fun v7=>
  (rng (s1.2+1)).bind fun v8=>
  iG (.inl (v7,v8))) (
  iG (.inr s1.1))
def zXm(x0:SPr)(x1:zB):Option iO:=
 (rng ((x0.zA.length:Int)*x1.Dim)).bind fun v1=>
 (zI (zN5 x0 x1 v1) ([],0)).bind fun r9=>
 iG r9
def zN6(x0:SPr)(x1:zB):Option iO:=
 (zXm x0 x1).bind fun r1=>
 (f_r x1.Prime r1).bind fun r2=>
 iG r2
def zN7(x0:SPr)(x1:zB)(v1:Int)(s1:(iO)×Int):Option ((iO×Int)⊕iO):=
 cond (decide (s1.2<v1)) (
  (zLm v1 s1.2).bind fun r2=>
  (zR6 r2 x1.Dim).bind fun r3=>
  (zXe x0 x1 r3).bind fun r4=>
  (f_q r4).bind fun r5=>
  (xT s1.1 [r5]).bind fun v6=>
  (rng (s1.2+1)).bind fun v7=>
  iG (.inl (v6,v7))) (
  iG (.inr s1.1))
def zV2(x0:SPr)(x1:zB):Option iO:=
 (rng ((x0.zA.length:Int)*x1.Dim)).bind fun v1=>
 (zI (zN7 x0 x1 v1) ([],0)).bind fun r8=>
 iG r8
def zRF(x0:SPr)(x1:zB)(x2:iN):Option iO:=
 (zV2 x0 x1).bind fun r1=>
 (zZT x1.Prime x1.Dim r1).bind fun r2=>
 (zXl r2 x2).bind fun r3=>
 (zR6 r3 x1.Dim).bind fun r4=>
 iG r4
structure zL where
 Word:iN
 Left:iN
 zYr:iN
abbrev zH(x:zL):T:=.agg [(L 1 I) x.Word,(L 1 I) x.Left,(L 1 I) x.zYr]
instance:Enc zH:=.of fun _=>zNS ⟨Enc.t (f:=(L 1 I)) inferInstance _,Enc.t (f:=(L 1 I)) inferInstance _,Enc.t (f:=(L 1 I)) inferInstance _,trivial⟩
structure xR where
 p:SPr
 m:zB
 sums:List zQ
abbrev zJZ(x:xR):T:=.agg [(Pt yL) x.p,(Pt zV) x.m,(L 3 zP) x.sums]
instance:Enc zJZ:=.of fun _=>zNS ⟨Enc.t (f:=(Pt yL)) inferInstance _,Enc.t (f:=(Pt zV)) inferInstance _,Enc.t (f:=(L 3 zP)) inferInstance _,trivial⟩
def zRG(x1:zB)(s5:(iO)×Int)(s6:(iN)×Int):Option ((iN×Int)⊕iN):=
 cond (decide (s6.2<x1.Dim)) (
  (rng (s5.2*x1.Dim)).bind fun v5=>
  (rng (v5+s6.2)).bind fun v6=>
  (rng (v6*x1.Dim)).bind fun v7=>
  (rng (v7+s6.2)).bind fun v8=>
  (ixO s6.1 v8).bind fun _=>
  (rng (s6.2+1)).bind fun v10=>
  iG (.inl (s6.1.set v8.toNat 1,v10))) (
  iG (.inr s6.1))
def zV3(x1:zB)(r1:Int)(v2:Int)(s5:(iO)×Int):Option ((iO×Int)⊕iO):=
 cond (decide (s5.2<r1)) (
  (rng (v2*x1.Dim)).bind fun v3=>
  (xG v3).bind fun m4=>
  (zI (zRG x1 s5) (J1 m4 (0:Int),0)).bind fun r11=>
  (xT s5.1 [r11]).bind fun v12=>
  (rng (s5.2+1)).bind fun v13=>
  iG (.inl (v12,v13))) (
  iG (.inr s5.1))
def zRH(x1:zB)(r15:(iO))(s13:(iO)×Int)(s14:(iN)×Int):Option ((iN×Int)⊕iN):=
 cond (decide (s14.2<(r15.length:Int))) (
  (ixO r15 s14.2).bind fun v16=>
  (rng (s13.2*x1.Dim)).bind fun v17=>
  (rng (s13.2+1)).bind fun v18=>
  (rng (v18*x1.Dim)).bind fun v19=>
  (yD v16 v17 v19).bind fun v20=>
  (xT s14.1 v20).bind fun v21=>
  (rng (s14.2+1)).bind fun v22=>
  iG (.inl (v21,v22))) (
  iG (.inr s14.1))
def zV4(x1:zB)(v2:Int)(r15:(iO))(s13:(iO)×Int):Option ((iO×Int)⊕iO):=
 cond (decide (s13.2<v2)) (
  (zI (zRH x1 r15 s13) ([],0)).bind fun r23=>
  (xT s13.1 [r23]).bind fun v24=>
  (rng (s13.2+1)).bind fun v25=>
  iG (.inl (v24,v25))) (
  iG (.inr s13.1))
def f_m(x0:SPr)(x1:zB):Option iO:=
 (zVm x0).bind fun r1=>
 (rng (r1*x1.Dim)).bind fun v2=>
 (zI (zV3 x1 r1 v2) ([],0)).bind fun r14=>
 (f_O (yA.mk x0 x1 r14)).bind fun r15=>
 (zI (zV4 x1 v2 r15) ([],0)).bind fun r26=>
 (rng ((r15.length:Int)*x1.Dim)).bind fun v27=>
 (zXd x1.Prime r26 v27).bind fun r28=>
 iG r28
def zPa(x0:SPr)(x1:iN)(x2:Int):Option iN:=
 (rng (x2+1)).bind fun v1=>
 cond (decide (v1<(x1.length:Int))) (
  (ixO x1 x2).bind fun v2=>
  (rng (x2+1)).bind fun v3=>
  (ixO x1 v3).bind fun v4=>
  cond (decide (v2> v4)) (
   (ixO x1 x2).bind fun v5=>
   (rng (v5-1)).bind fun v6=>
   (rng (x2+1)).bind fun v7=>
   (ixO x1 v7).bind fun v8=>
   (rng (v8-1)).bind fun v9=>
   (yD x1 0 x2).bind fun v10=>
   (rng (v9+1)).bind fun v11=>
   (ixO x0.zG v9).bind fun v12=>
   (rng (v6-v9)).bind fun v13=>
   (rng (v13-1)).bind fun v14=>
   (ixO v12 v14).bind fun v15=>
   (f_y v15).bind fun r16=>
   (rng (x2+2)).bind fun v17=>
   (yD x1 v17 x1.length).bind fun v18=>
   (f_q [v10,[v11],r16,v18]).bind fun r19=>
   iG r19) (
   (ixO x1 x2).bind fun v20=>
   (rng (v20-1)).bind fun v21=>
   (yD x1 0 x2).bind fun v22=>
   (ixO x0.zS v21).bind fun v23=>
   (f_y v23).bind fun r24=>
   (ixO x0.zA v21).bind fun v25=>
   (rng (x2+v25)).bind fun v26=>
   (yD x1 v26 x1.length).bind fun v27=>
   (f_q [v22,r24,v27]).bind fun r28=>
   iG r28)) (
  (ixO x1 x2).bind fun v2=>
  (rng (v2-1)).bind fun v3=>
  (yD x1 0 x2).bind fun v4=>
  (ixO x0.zS v3).bind fun v5=>
  (f_y v5).bind fun r6=>
  (ixO x0.zA v3).bind fun v7=>
  (rng (x2+v7)).bind fun v8=>
  (yD x1 v8 x1.length).bind fun v9=>
  (f_q [v4,r6,v9]).bind fun r10=>
  iG r10)
def f_Y(x0:iN)(x1:Int)(x2:List zL)(x3:SPr):Option (List zL):=
 (zPa x3 x0 0).bind fun r1=>
 (zPa x3 x0 x1).bind fun r2=>
 (xT x2 [(zL.mk x0 r1 r2)]).bind fun v3=>
 iG v3
def zN8(x0:Int)(x1:Int):Option iN:=
 (f_j [x0] x1).bind fun r1=>
 iG r1
def zRI(x0:SPr)(s17:(List zL)×Int)(s22:(List zL)×Int)(s23:(List zL)×Int):Option (((List zL)×Int)⊕(List zL)):=
 cond (decide (s23.2≤(x0.zA.length:Int))) (
  (f_Y [s23.2,s22.2,s17.2] 1 s23.1 x0).bind fun r3=>
  (rng (s23.2+1)).bind fun v4=>
  iG (.inl (r3,v4))) (
  iG (.inr s23.1))
def zRJ(x0:SPr)(s17:(List zL)×Int)(s22:(List zL)×Int):Option (((List zL)×Int)⊕(List zL)):=
 cond (decide (s22.2≤(x0.zA.length:Int))) (
  (rng (s22.2+1)).bind fun v2=>
  (zI (zRI x0 s17 s22) (s22.1,v2)).bind fun r5=>
  (rng (s22.2+1)).bind fun v6=>
  iG (.inl (r5,v6))) (
  iG (.inr s22.1))
def zRK(x0:SPr)(s17:(List zL)×Int):Option (((List zL)×Int)⊕(List zL)):=
 cond (decide (s17.2≤(x0.zA.length:Int))) (
  (rng (s17.2+1)).bind fun v1=>
  (zI (zRJ x0 s17) (s17.1,v1)).bind fun r7=>
  (rng (s17.2+1)).bind fun v8=>
  iG (.inl (r7,v8))) (
  iG (.inr s17.1))
def zRL(x0:SPr)(s31:(List zL)×Int)(s32:(List zL)×Int):Option (((List zL)×Int)⊕(List zL)):=
 cond (decide (s32.2≤(x0.zA.length:Int))) (
  (rng (s32.2-1)).bind fun v11=>
  (ixO x0.zA v11).bind fun v12=>
  (zN8 s32.2 v12).bind fun r13=>
  (xT r13 [s31.2]).bind fun v14=>
  (rng (s32.2-1)).bind fun v15=>
  (ixO x0.zA v15).bind fun v16=>
  (rng (v16-1)).bind fun v17=>
  (f_Y v14 v17 s32.1 x0).bind fun r18=>
  (rng (s32.2+1)).bind fun v19=>
  iG (.inl (r18,v19))) (
  iG (.inr s32.1))
def zRM(x0:SPr)(s31:(List zL)×Int):Option (((List zL)×Int)⊕(List zL)):=
 cond (decide (s31.2≤(x0.zA.length:Int))) (
  (rng (s31.2+1)).bind fun v10=>
  (zI (zRL x0 s31) (s31.1,v10)).bind fun r20=>
  (rng (s31.2+1)).bind fun v21=>
  iG (.inl (r20,v21))) (
  iG (.inr s31.1))
def zRN(x0:SPr)(s39:(List zL)×Int)(s40:(List zL)×Int):Option (((List zL)×Int)⊕(List zL)):=
 cond (decide (s40.2≤(x0.zA.length:Int))) (
  (rng (s39.2-1)).bind fun v24=>
  (ixO x0.zA v24).bind fun v25=>
  (zN8 s39.2 v25).bind fun r26=>
  (xT [s40.2] r26).bind fun v27=>
  (f_Y v27 1 s40.1 x0).bind fun r28=>
  (rng (s40.2+1)).bind fun v29=>
  iG (.inl (r28,v29))) (
  iG (.inr s40.1))
def zRO(x0:SPr)(s39:(List zL)×Int):Option (((List zL)×Int)⊕(List zL)):=
 cond (decide (s39.2≤(x0.zA.length:Int))) (
  (rng (s39.2+1)).bind fun v23=>
  (zI (zRN x0 s39) (s39.1,v23)).bind fun r30=>
  (rng (s39.2+1)).bind fun v31=>
  iG (.inl (r30,v31))) (
  iG (.inr s39.1))
def zRP(x0:SPr)(s43:(List zL)×Int):Option (((List zL)×Int)⊕(List zL)):=
 cond (decide (s43.2≤(x0.zA.length:Int))) (
  (rng (s43.2-1)).bind fun v33=>
  (ixO x0.zA v33).bind fun v34=>
  (rng (v34+1)).bind fun v35=>
  (zN8 s43.2 v35).bind fun r36=>
  (f_Y r36 1 s43.1 x0).bind fun r37=>
  (rng (s43.2+1)).bind fun v38=>
  iG (.inl (r37,v38))) (
  iG (.inr s43.1))
def f_e(x0:SPr):Option (List zL):=
 (zI (zRK x0) ([],1)).bind fun r9=>
 (zI (zRM x0) (r9,1)).bind fun r22=>
 (zI (zRO x0) (r22,1)).bind fun r32=>
 (zI (zRP x0) (r32,1)).bind fun r39=>
 iG r39
def zXn(x0:xR)(x1:iN)(x2:Int):Option Int:=
 (rng (x2+1)).bind fun v1=>
 cond (decide (v1<(x1.length:Int))) (
  (ixO x1 x2).bind fun v2=>
  (rng (x2+1)).bind fun v3=>
  (ixO x1 v3).bind fun v4=>
  cond (decide (v2> v4)) (
   (ixO x1 x2).bind fun v5=>
   (rng (v5-1)).bind fun v6=>
   (rng (x2+1)).bind fun v7=>
   (ixO x1 v7).bind fun v8=>
   (rng (v8-1)).bind fun v9=>
   (rng ((x0.p.zA.length:Int)-1)).bind fun v10=>
   (rng (v9*v10)).bind fun v11=>
   (rng ((x0.p.zA.length:Int)+v11)).bind fun v12=>
   (rng (v9-1)).bind fun v13=>
   (rng (v9*v13)).bind fun v14=>
   (sH v14 2).bind fun v15=>
   (rng (v12-v15)).bind fun v16=>
   (rng (v16+v6)).bind fun v17=>
   (rng (v17-v9)).bind fun v18=>
   (rng (v18-1)).bind fun v19=>
   iG v19) (
   (ixO x1 x2).bind fun v20=>
   (rng (v20-1)).bind fun v21=>
   iG v21)) (
  (ixO x1 x2).bind fun v2=>
  (rng (v2-1)).bind fun v3=>
  iG v3)
def zV5(x0:xR)(x3:Int)(r1:Int)(r9:zQ)(s1:(List zQ)×Int):Option (((List zQ)×Int)⊕(List zQ)):=
 cond (decide (s1.2<(r9.Rows.length:Int))) (
  (ixO r9.Rows s1.2).bind fun v10=>
  (ixO s1.1 r1).bind fun v11=>
  (ixO v11.Rows s1.2).bind fun v12=>
  (f_v v12 v10 x3 x0.m.Prime).bind fun r13=>
  (rng (s1.2+1)).bind fun v14=>
  iG (.inl (s1.1.set r1.toNat (zQ.mk v11.Prime v11.xJ (v11.Rows.set s1.2.toNat r13)),v14))) (
  iG (.inr s1.1))
def zV6(x0:xR)(x3:Int)(r1:Int)(r12:zQ)(s3:(List zQ)×Int):Option (((List zQ)×Int)⊕(List zQ)):=
 cond (decide (s3.2<(r12.Rows.length:Int))) (
  (ixO r12.Rows s3.2).bind fun v13=>
  (ixO s3.1 r1).bind fun v14=>
  (ixO v14.Rows s3.2).bind fun v15=>
  (f_v v15 v13 x3 x0.m.Prime).bind fun r16=>
  (rng (s3.2+1)).bind fun v17=>
  iG (.inl (s3.1.set r1.toNat (zQ.mk v14.Prime v14.xJ (v14.Rows.set s3.2.toNat r16)),v17))) (
  iG (.inr s3.1))
def zV7(x0:xR)(x3:Int)(r1:Int)(r21:zQ)(s5:(List zQ)×Int):Option (((List zQ)×Int)⊕(List zQ)):=
 cond (decide (s5.2<(r21.Rows.length:Int))) (
  (ixO r21.Rows s5.2).bind fun v22=>
  (ixO s5.1 r1).bind fun v23=>
  (ixO v23.Rows s5.2).bind fun v24=>
  (f_v v24 v22 x3 x0.m.Prime).bind fun r25=>
  (rng (s5.2+1)).bind fun v26=>
  iG (.inl (s5.1.set r1.toNat (zQ.mk v23.Prime v23.xJ (v23.Rows.set s5.2.toNat r25)),v26))) (
  iG (.inr s5.1))
def f_k(x0:xR)(x1:iN)(x2:Int)(x3:Int):Option (iN×xR):=
 (zXn x0 x1 x2).bind fun r1=>
 (zPa x0.p x1 x2).bind fun r2=>
 (rng (x2+1)).bind fun v3=>
 cond (decide (v3≥(x1.length:Int))) (
  (ixO x1 x2).bind fun v4=>
  (rng (v4-1)).bind fun v5=>
  (ixO x0.p.zA v5).bind fun v6=>
  (rng (x2+v6)).bind fun v7=>
  (yD x1 v7 x1.length).bind fun v8=>
  (f_H x0.m v8).bind fun r9=>
  (zI (zV5 x0 x3 r1 r9) (x0.sums,0)).bind fun r15=>
  iG (r2,(xR.mk x0.p x0.m r15))) (
  (ixO x1 x2).bind fun v4=>
  (rng (x2+1)).bind fun v5=>
  (ixO x1 v5).bind fun v6=>
  cond (decide (v4≤v6)) (
   (ixO x1 x2).bind fun v7=>
   (rng (v7-1)).bind fun v8=>
   (ixO x0.p.zA v8).bind fun v9=>
   (rng (x2+v9)).bind fun v10=>
   (yD x1 v10 x1.length).bind fun v11=>
   (f_H x0.m v11).bind fun r12=>
   (zI (zV6 x0 x3 r1 r12) (x0.sums,0)).bind fun r18=>
   iG (r2,(xR.mk x0.p x0.m r18))) (
   (rng (x2+2)).bind fun v19=>
   (yD x1 v19 x1.length).bind fun v20=>
   (f_H x0.m v20).bind fun r21=>
   (zI (zV7 x0 x3 r1 r21) (x0.sums,0)).bind fun r27=>
   iG (r2,(xR.mk x0.p x0.m r27))))
def zPb(x1:iN)(x2:Int)(v10:iN)(s1:Int):Option (Int⊕(Unit⊕Bool)):=
 cond (decide (s1<(v10.length:Int))) (
  (ixO v10 s1).bind fun v11=>
  (ixO x1 x2).bind fun v12=>
  cond (v11 != v12) (
   iG (.inr (.inr iJ))) (
   (rng (s1+1)).bind fun v13=>
   iG (.inl v13))) (
  iG (.inr (.inl ())))
def zPc(x1:iN)(x2:Int)(v7:iN)(s3:Int):Option (Int⊕(Unit⊕Bool)):=
 cond (decide (s3<(v7.length:Int))) (
  (ixO v7 s3).bind fun v8=>
  (ixO x1 x2).bind fun v9=>
  cond (v8 != v9) (
   iG (.inr (.inr iJ))) (
   (rng (s3+1)).bind fun v10=>
   iG (.inl v10))) (
  iG (.inr (.inl ())))
def f_I(x0:SPr)(x1:iN)(x2:Int):Option Bool:=
 (rng (x2+1)).bind fun v1=>
 cond (decide (v1<(x1.length:Int))) (
  (ixO x1 x2).bind fun v2=>
  (rng (x2+1)).bind fun v3=>
  (ixO x1 v3).bind fun v4=>
  cond (decide (v2> v4)) (
   iG iI) (
   (ixO x1 x2).bind fun v5=>
   (rng (v5-1)).bind fun v6=>
   (ixO x0.zA v6).bind fun v7=>
   (rng (x2+v7)).bind fun v8=>
   cond (decide (v8> (x1.length:Int))) (
    iG iJ) (
    (rng (x2+v7)).bind fun v9=>
    (yD x1 x2 v9).bind fun v10=>
    (zI (zPb x1 x2 v10) 0).bind fun r14=>
    match r14 with
    |(.inl r14)=>
     iG iI
    |(.inr r14)=>
     iG r14))) (
  (ixO x1 x2).bind fun v2=>
  (rng (v2-1)).bind fun v3=>
  (ixO x0.zA v3).bind fun v4=>
  (rng (x2+v4)).bind fun v5=>
  cond (decide (v5> (x1.length:Int))) (
   iG iJ) (
   (rng (x2+v4)).bind fun v6=>
   (yD x1 x2 v6).bind fun v7=>
   (zI (zPc x1 x2 v7) 0).bind fun r11=>
   match r11 with
   |(.inl r11)=>
    iG iI
   |(.inr r11)=>
    iG r11))
def zV8(x0:SPr)(x1:iN)(s1:Int):Option (Int⊕(Unit⊕Int)):=
 cond (decide (s1<(x1.length:Int))) (
  (f_I x0 x1 s1).bind fun r1=>
  cond r1 (
   iG (.inr (.inr s1))) (
   (rng (s1+1)).bind fun v2=>
   iG (.inl v2))) (
  iG (.inr (.inl ())))
def f_X(x0:SPr)(x1:iN):Option Int:=
 (zI (zV8 x0 x1) 0).bind fun r3=>
 match r3 with
 |(.inl r3)=>
  iG (-1)
 |(.inr r3)=>
  iG r3
def zRQ(x2:Int)(s1:SPr×zB×(List zQ)×iN×Int):Option ((SPr×zB×(List zQ)×iN×Int)⊕(SPr×zB×(List zQ))):=
 cond (decide (s1.2.2.2.2≥0)) (
  (f_k (xR.mk s1.1 s1.2.1 s1.2.2.1) s1.2.2.2.1 s1.2.2.2.2 x2).bind fun r2=>
  (f_X r2.2.p r2.1).bind fun r3=>
  iG (.inl (r2.2.p,r2.2.m,r2.2.sums,r2.1,r3))) (
  iG (.inr (s1.1,s1.2.1,s1.2.2.1)))
def f_s(x0:xR)(x1:iN)(x2:Int):Option xR:=
 (f_X x0.p x1).bind fun r1=>
 (zI (zRQ x2) (x0.p,x0.m,x0.sums,x1,r1)).bind fun r4=>
 iG (xR.mk r4.1 r4.2.1 r4.2.2)
def zRR(r6:zQ)(s71:(iO)×Int):Option ((iO×Int)⊕iO):=
 cond (decide (s71.2<(r6.Rows.length:Int))) (
  (ixO s71.1 s71.2).bind fun v7=>
  (ixO v7 s71.2).bind fun _=>
  (rng (s71.2+1)).bind fun v9=>
  iG (.inl (s71.1.set s71.2.toNat (v7.set s71.2.toNat 0),v9))) (
  iG (.inr s71.1))
def zRS(x1:zB)(r1:Int)(s70:(List zQ)×Int):Option (((List zQ)×Int)⊕(List zQ)):=
 cond (decide (s70.2<r1)) (
  (f_G x1.Prime x1.Dim).bind fun r6=>
  (zI (zRR r6) (r6.Rows,0)).bind fun r10=>
  (xT s70.1 [(zQ.mk r6.Prime r6.xJ r10)]).bind fun v11=>
  (rng (s70.2+1)).bind fun v12=>
  iG (.inl (v11,v12))) (
  iG (.inr s70.1))
def zRT(x1:zB)(s78:(iO)×Int)(v23:zQ)(s79:(iO)×Int):Option ((iO×Int)⊕iO):=
 cond (decide (s79.2<(v23.Rows.length:Int))) (
  (ixO v23.Rows s79.2).bind fun v24=>
  (rng (s78.2*x1.Dim)).bind fun v25=>
  (rng (v25+s79.2)).bind fun v26=>
  (ixO s79.1 v26).bind fun v27=>
  (xT v27 v24).bind fun v28=>
  (rng (s79.2+1)).bind fun v29=>
  iG (.inl (s79.1.set v26.toNat v28,v29))) (
  iG (.inr s79.1))
def zN9(x1:zB)(r22:xR)(s78:(iO)×Int):Option ((iO×Int)⊕iO):=
 cond (decide (s78.2<(r22.sums.length:Int))) (
  (ixO r22.sums s78.2).bind fun v23=>
  (zI (zRT x1 s78 v23) (s78.1,0)).bind fun r30=>
  (rng (s78.2+1)).bind fun v31=>
  iG (.inl (r30,v31))) (
  iG (.inr s78.1))
def yBZ(x1:zB)(s86:(iO)×Int)(v38:zQ)(s87:(iO)×Int):Option ((iO×Int)⊕iO):=
 cond (decide (s87.2<(v38.Rows.length:Int))) (
  (ixO v38.Rows s87.2).bind fun v39=>
  (rng (s86.2*x1.Dim)).bind fun v40=>
  (rng (v40+s87.2)).bind fun v41=>
  (ixO s87.1 v41).bind fun v42=>
  (xT v42 v39).bind fun v43=>
  (rng (s87.2+1)).bind fun v44=>
  iG (.inl (s87.1.set v41.toNat v43,v44))) (
  iG (.inr s87.1))
def zZU(x1:zB)(r37:xR)(s86:(iO)×Int):Option ((iO×Int)⊕iO):=
 cond (decide (s86.2<(r37.sums.length:Int))) (
  (ixO r37.sums s86.2).bind fun v38=>
  (zI (yBZ x1 s86 v38) (s86.1,0)).bind fun r45=>
  (rng (s86.2+1)).bind fun v46=>
  iG (.inl (r45,v46))) (
  iG (.inr s86.1))
def yCa(x1:zB)(s94:(iO)×Int)(v20:zQ)(s95:(iO)×Int):Option ((iO×Int)⊕iO):=
 cond (decide (s95.2<(v20.Rows.length:Int))) (
  (ixO v20.Rows s95.2).bind fun v21=>
  (rng (s94.2*x1.Dim)).bind fun v22=>
  (rng (v22+s95.2)).bind fun v23=>
  (ixO s95.1 v23).bind fun v24=>
  (xT v24 v21).bind fun v25=>
  (rng (s95.2+1)).bind fun v26=>
  iG (.inl (s95.1.set v23.toNat v25,v26))) (
  iG (.inr s95.1))
def zZV(x1:zB)(r19:xR)(s94:(iO)×Int):Option ((iO×Int)⊕iO):=
 cond (decide (s94.2<(r19.sums.length:Int))) (
  (ixO r19.sums s94.2).bind fun v20=>
  (zI (yCa x1 s94 v20) (s94.1,0)).bind fun r27=>
  (rng (s94.2+1)).bind fun v28=>
  iG (.inl (r27,v28))) (
  iG (.inr s94.1))
def zRU(x0:SPr)(x1:zB)(r1:Int)(r4:(List zL))(s65:(iO)×Int):Option ((iO×Int)⊕iO):=
 cond (decide (s65.2<(r4.length:Int))) (
  (ixO r4 s65.2).bind fun v5=>
  (zI (zRS x1 r1) ([],0)).bind fun r13=>
  (ixO v5.Word 0).bind fun v14=>
  (ixO v5.Word 1).bind fun v15=>
  cond (v14==v15) (
   (rng ((v5.Word.length:Int)-1)).bind fun v16=>
   (ixO v5.Word v16).bind fun v17=>
   cond (v17 != v14) (
    (rng ((v5.Word.length:Int)-2)).bind fun v18=>
    (f_k (xR.mk x0 x1 r13) v5.Word 0 1).bind fun r19=>
    (f_s r19.2 r19.1 1).bind fun r20=>
    (f_k r20 v5.Word v18 (-1)).bind fun r21=>
    (f_s r21.2 r21.1 (-1)).bind fun r22=>
    (zI (zN9 x1 r22) (s65.1,0)).bind fun r32=>
    (rng (s65.2+1)).bind fun v33=>
    iG (.inl (r32,v33))) (
    (f_k (xR.mk x0 x1 r13) v5.Word 0 1).bind fun r34=>
    (f_s r34.2 r34.1 1).bind fun r35=>
    (f_k r35 v5.Word 1 (-1)).bind fun r36=>
    (f_s r36.2 r36.1 (-1)).bind fun r37=>
    (zI (zZU x1 r37) (s65.1,0)).bind fun r47=>
    (rng (s65.2+1)).bind fun v48=>
    iG (.inl (r47,v48)))) (
   (f_k (xR.mk x0 x1 r13) v5.Word 0 1).bind fun r16=>
   (f_s r16.2 r16.1 1).bind fun r17=>
   (f_k r17 v5.Word 1 (-1)).bind fun r18=>
   (f_s r18.2 r18.1 (-1)).bind fun r19=>
   (zI (zZV x1 r19) (s65.1,0)).bind fun r29=>
   (rng (s65.2+1)).bind fun v30=>
   iG (.inl (r29,v30)))) (
  iG (.inr s65.1))
def f_f(x0:SPr)(x1:zB):Option iO:=
 (zVn x0).bind fun r1=>
 (rng (r1*x1.Dim)).bind fun v2=>
 (xG v2).bind fun m3=>
 (f_e x0).bind fun r4=>
 (zI (zRU x0 x1 r1 r4) (J1 m3 ([]:iN),0)).bind fun r31=>
 cond (decide ((r31.length:Int)> 0)) (
  (ixO r31 0).bind fun v32=>
  (f_N x1.Prime r31 (v32.length:Int)).bind fun r33=>
  iG r33) (
  (f_N x1.Prime r31 0).bind fun r34=>
  iG r34)
def zYo(x0:SPr)(s1:Int):Option (Int⊕(Unit⊕Bool)):=
 cond (decide (s1<(x0.zA.length:Int))) (
  (ixO x0.zA s1).bind fun v2=>
  (ixO x0.zA 0).bind fun v3=>
  cond (v2 != v3) (
   iG (.inr (.inr iJ))) (
   (rng (s1+1)).bind fun v4=>
   iG (.inl v4))) (
  iG (.inr (.inl ())))
def zXo(x0:SPr):Option Bool:=
 (zUw x0).bind fun r1=>
 cond (!r1) (
  iG iJ) (
  cond ((x0.zA.length:Int)==0) (
   iG iJ) (
   (zI (zYo x0) 0).bind fun r5=>
   match r5 with
   |(.inl r5)=>
    iG iI
   |(.inr r5)=>
    iG r5))
def zV9(x0:SPr)(s1:Int×Int):Option ((Int×Int)⊕Int):=
 cond (decide (s1.2<(x0.zA.length:Int))) (
  (ixO x0.zA s1.2).bind fun v1=>
  (rng (s1.1*v1)).bind fun v2=>
  (rng (s1.2+1)).bind fun v3=>
  iG (.inl (v2,v3))) (
  iG (.inr s1.1))
def zXp(x0:SPr):Option Int:=
 (zI (zV9 x0) (1,0)).bind fun r4=>
 iG r4
def zLr(x0:SPr)(x2:Int)(s1:(List iO)×Int):Option (((List iO)×Int)⊕(List iO)):=
 cond (decide (s1.2<(x0.zA.length:Int))) (
  (f_C x2).bind fun r1=>
  (xT s1.1 [r1]).bind fun v2=>
  (rng (s1.2+1)).bind fun v3=>
  iG (.inl (v2,v3))) (
  iG (.inr s1.1))
def f_S(x0:SPr)(x1:Int)(x2:Int):Option zB:=
 (zI (zLr x0 x2) ([],0)).bind fun r4=>
 iG (zB.mk x1 x2 r4)
def zVA(x0:SPr):Option zB:=
 (ixO x0.zA 0).bind fun v1=>
 (f_S x0 v1 1).bind fun r2=>
 iG r2
def zNA(x1:zB)(r1:(iO))(r2:(iO))(s1:(iO)×Int):Option ((iO×Int)⊕iO):=
 cond (decide (s1.2<(r2.length:Int))) (
  (ixO r2 s1.2).bind fun v3=>
  (zOS x1.Prime r1 v3).bind fun r4=>
  (xT s1.1 [r4]).bind fun v5=>
  (rng (s1.2+1)).bind fun v6=>
  iG (.inl (v5,v6))) (
  iG (.inr s1.1))
def zXq(x0:SPr)(x1:zB):Option iO:=
 (zN6 x0 x1).bind fun r1=>
 (f_m x0 x1).bind fun r2=>
 (zI (zNA x1 r1 r2) ([],0)).bind fun r7=>
 (f_r x1.Prime r7).bind fun r8=>
 iG r8
def zXr(x0:SPr):Option iO:=
 (zVA x0).bind fun r1=>
 (zXq x0 r1).bind fun r2=>
 iG r2
def zYp(x0:SPr)(s1:Int):Option (Int⊕(Unit⊕Bool)):=
 cond (decide (s1<(x0.zA.length:Int))) (
  (ixO x0.zA s1).bind fun v2=>
  (ixO x0.zA 0).bind fun v3=>
  cond (v2 != v3) (
   iG (.inr (.inr iJ))) (
   (rng (s1+1)).bind fun v4=>
   iG (.inl v4))) (
  iG (.inr (.inl ())))
def zVB(x0:SPr):Option Bool:=
 (zOO x0).bind fun r1=>
 cond (!r1) (
  iG iJ) (
  cond ((x0.zA.length:Int)==0) (
   iG iJ) (
   (zI (zYp x0) 0).bind fun r5=>
   match r5 with
   |(.inl r5)=>
    iG iI
   |(.inr r5)=>
    iG r5))
def zVC(x0:SPr)(s1:Int×Int):Option ((Int×Int)⊕Int):=
 cond (decide (s1.2<(x0.zA.length:Int))) (
  (ixO x0.zA s1.2).bind fun v1=>
  (rng (s1.1*v1)).bind fun v2=>
  (rng (s1.2+1)).bind fun v3=>
  iG (.inl (v2,v3))) (
  iG (.inr s1.1))
def zZW(x0:SPr):Option Int:=
 (zI (zVC x0) (1,0)).bind fun r4=>
 iG r4
def zXs(x0:SPr):Option Int:=
 (zOO x0).bind fun r1=>
 cond (!r1) (
  iG 1) (
  (zVB x0).bind fun r2=>
  cond (!r2) (
   iG 5) (
   (zZW x0).bind fun r3=>
   cond (decide (r3> 81)) (
    iG 3) (
    iG 0)))
def zNB(x0:SPr)(x1:Int)(x2:Int)(s1:(List iO)×Int):Option (((List iO)×Int)⊕(List iO)):=
 cond (decide (s1.2<(x0.zA.length:Int))) (
  (f_G x1 x2).bind fun r1=>
  (xT s1.1 [r1.Rows]).bind fun v2=>
  (rng (s1.2+1)).bind fun v3=>
  iG (.inl (v2,v3))) (
  iG (.inr s1.1))
def zXt(x0:SPr)(x1:Int)(x2:Int):Option zB:=
 (zI (zNB x0 x1 x2) ([],0)).bind fun r4=>
 iG (zB.mk x1 x2 r4)
def zVD(x0:SPr)(r2:zB)(r3:(iO))(s1:(iO)×Int):Option ((iO×Int)⊕iO):=
 cond (decide (s1.2<(r3.length:Int))) (
  (ixO r3 s1.2).bind fun v4=>
  (zRF x0 r2 v4).bind fun r5=>
  (f_q r5).bind fun r6=>
  (xT s1.1 [r6]).bind fun v7=>
  (rng (s1.2+1)).bind fun v8=>
  iG (.inl (v7,v8))) (
  iG (.inr s1.1))
def zXu(x0:SPr):Option iO:=
 (ixO x0.zA 0).bind fun v1=>
 (zXt x0 v1 1).bind fun r2=>
 (f_f x0 r2).bind fun r3=>
 (zI (zVD x0 r2 r3) ([],0)).bind fun r9=>
 (f_i r2.Prime r9).bind fun r10=>
 iG r10
def zNC(x0:SPr)(x1:zB)(r2:(iO))(s1:(iO)×Int):Option ((iO×Int)⊕iO):=
 cond (decide (s1.2<(r2.length:Int))) (
  (ixO r2 s1.2).bind fun v3=>
  (zRF x0 x1 v3).bind fun r4=>
  (f_q r4).bind fun r5=>
  (xT s1.1 [r5]).bind fun v6=>
  (rng (s1.2+1)).bind fun v7=>
  iG (.inl (v6,v7))) (
  iG (.inr s1.1))
def zIK(x1:zB)(s1:Int):Option (Int⊕(Unit⊕Bool)):=
 cond (decide (s1<(x1.zF.length:Int))) (
  (ixO x1.zF s1).bind fun v1=>
  (f_C x1.Dim).bind fun r2=>
  (zU3 v1 r2).bind fun r3=>
  cond (!r3) (
   iG (.inr (.inr iJ))) (
   (rng (s1+1)).bind fun v4=>
   iG (.inl v4))) (
  iG (.inr (.inl ())))
def zZX(x0:SPr)(x1:zB):Option Bool:=
 (zI (zIK x1) 0).bind fun r5=>
 match r5 with
 |(.inl r5)=>
  (ixO x0.zA 0).bind fun v6=>
  iG (x1.Prime==v6)
 |(.inr r5)=>
  iG r5
def zXv(x0:SPr)(x1:zB)(x2:iO):Option Int:=
 (zWQ x0 x1).bind fun r1=>
 cond (!r1) (
  iG 1) (
  (zXf x0 x1 x2).bind fun r2=>
  cond (!r2) (
   iG 1) (
   (zXo x0).bind fun r3=>
   cond (!r3) (
    iG 5) (
    (zZX x0 x1).bind fun r4=>
    cond (!r4) (
     iG 5) (
     (zXp x0).bind fun r5=>
     cond (decide (r5> 81)) (
      (zVu x0 x1 x2).bind fun r6=>
      cond (!r6) (
       iG 5) (
       iG 3)) (
      (zVu x0 x1 x2).bind fun r7=>
      cond (!r7) (
       iG 5) (
       iG 0))))))
def zVE(x1:zB)(r1:(iO))(s1:(iO)×Int):Option ((iO×Int)⊕iO):=
 cond (decide (s1.2<(r1.length:Int))) (
  (xG x1.Dim).bind fun m4=>
  (xT s1.1 [J1 m4 (0:Int)]).bind fun v5=>
  (rng (s1.2+1)).bind fun v6=>
  iG (.inl (v5,v6))) (
  iG (.inr s1.1))
def zRV(x2:iO)(s11:(iO)×Int)(s12:(iN)×Int):Option ((iN×Int)⊕iN):=
 cond (decide (s12.2<(x2.length:Int))) (
  (ixO x2 s12.2).bind fun v8=>
  (ixO v8 s11.2).bind fun v9=>
  (xT s12.1 [v9]).bind fun v10=>
  (rng (s12.2+1)).bind fun v11=>
  iG (.inl (v10,v11))) (
  iG (.inr s12.1))
def zVF(r1:(iO))(s11:(iO)×Int)(r13:(iN))(s14:(iO)×Int):Option ((iO×Int)⊕iO):=
 cond (decide (s14.2<(r1.length:Int))) (
  (ixO s14.1 s14.2).bind fun v14=>
  (ixO r1 s14.2).bind fun v15=>
  (f_E v15).bind fun r16=>
  (ixO r13 r16).bind fun v17=>
  (ixO v14 s11.2).bind fun _=>
  (rng (s14.2+1)).bind fun v19=>
  iG (.inl (s14.1.set s14.2.toNat (v14.set s11.2.toNat v17),v19))) (
  iG (.inr s14.1))
def zVG(x1:zB)(x2:iO)(r1:(iO))(r3:(iO))(s11:(iO)×Int):Option ((iO×Int)⊕iO):=
 cond (decide (s11.2<x1.Dim)) (
  (zI (zRV x2 s11) ([],0)).bind fun r12=>
  (zOS x1.Prime r3 r12).bind fun r13=>
  (zI (zVF r1 s11 r13) (s11.1,0)).bind fun r20=>
  (rng (s11.2+1)).bind fun v21=>
  iG (.inl (r20,v21))) (
  iG (.inr s11.1))
def f_t(x0:SPr)(x1:zB)(x2:iO):Option iO:=
 (zXr x0).bind fun r1=>
 (zVA x0).bind fun r2=>
 (zN6 x0 r2).bind fun r3=>
 (zI (zVE x1 r1) ([],0)).bind fun r7=>
 (zI (zVG x1 x2 r1 r3) (r7,0)).bind fun r22=>
 iG r22
def zVH(x0:SPr)(x1:zB)(x2:iO):Option (Bool×Int):=
 (zXv x0 x1 x2).bind fun r1=>
 cond (r1 != 0) (
  iG (iJ,r1)) (
  (f_t x0 x1 x2).bind fun r2=>
  (f_r x1.Prime r2).bind fun r3=>
  iG (((r3.length:Int)==x1.Dim),0))
def zIL(x0:SPr)(x1:zB)(s1:Int):Option (Int⊕(Unit⊕Int)):=
 cond (decide (s1<(x0.zA.length:Int))) (
  (ixO x1.zF s1).bind fun v6=>
  (f_G x1.Prime x1.Dim).bind fun r7=>
  (zUZ v6 r7.Rows).bind fun r8=>
  cond (!r8) (
   iG (.inr (.inr 5))) (
   (rng (s1+1)).bind fun v9=>
   iG (.inl v9))) (
  iG (.inr (.inl ())))
def zXw(x0:SPr)(x1:zB)(x2:iO):Option Int:=
 (f_K x0 x1).bind fun r1=>
 cond (!r1) (
  iG 1) (
  (zXh x0 x1 x2).bind fun r2=>
  cond (!r2) (
   iG 1) (
   (zVB x0).bind fun r3=>
   cond (!r3) (
    iG 5) (
    (ixO x0.zA 0).bind fun v4=>
    cond (x1.Prime != v4) (
     iG 5) (
     (zXi x0 x1 x2).bind fun r5=>
     cond (!r5) (
      iG 5) (
      (zI (zIL x0 x1) 0).bind fun r10=>
      match r10 with
      |(.inl r10)=>
       (zXs x0).bind fun r11=>
       iG r11
      |(.inr r10)=>
       iG r10)))))
def zKa(r2:(iO))(r4:(iN))(s1:(iO)×Int):Option ((iO×Int)⊕iO):=
 cond (decide (s1.2<(r4.length:Int))) (
  (ixO r4 s1.2).bind fun v5=>
  (ixO r2 v5).bind fun v6=>
  (f_F v6).bind fun r7=>
  (xT s1.1 [r7]).bind fun v8=>
  (rng (s1.2+1)).bind fun v9=>
  iG (.inl (v8,v9))) (
  iG (.inr s1.1))
def zXx(x0:SPr)(x1:zB)(x2:iO):Option zQ:=
 (f_q x2).bind fun r1=>
 (zRF x0 x1 r1).bind fun r2=>
 (zXu x0).bind fun r3=>
 (zVv r3).bind fun r4=>
 (zI (zKa r2 r4) ([],0)).bind fun r10=>
 iG (zQ.mk x1.Prime x1.Dim r10)
def zVI(x0:SPr)(x1:zB)(x2:iO):Option (Bool×Int):=
 (zXw x0 x1 x2).bind fun r1=>
 cond (r1 != 0) (
  iG (iJ,r1)) (
  (zXx x0 x1 x2).bind fun r2=>
  (f_i x1.Prime r2.Rows).bind fun r3=>
  iG (((r3.length:Int)==x1.Dim),0))
def zXy(x0:SPr)(x1:zB)(x2:iO):Option Bool:=
 (zWJ x0 1048576).bind fun r1=>
 cond (decide (r1<0)) (
  iG iI) (
  (zWK x1 r1).bind fun r2=>
  cond (decide (r2<0)) (
   iG iI) (
   (zUh x2 r2).bind fun r3=>
   cond (decide (r3<0)) (
    iG iI) (
    (zRy x0).bind fun r4=>
    (zRz x1).bind fun r5=>
    (f_Z x2).bind fun r6=>
    (zVH r4 r5 r6).bind fun r7=>
    (zRy x0).bind fun r8=>
    (zRz x1).bind fun r9=>
    (f_Z x2).bind fun r10=>
    (zVI r8 r9 r10).bind fun r11=>
    cond (r11.1 != r7.1) (
     iG iJ) (
     cond (r11.2 != r7.2) (
      iG iJ) (
      (zRy x0).bind fun r12=>
      (zWX r8 r12).bind fun r13=>
      cond (!r13) (
       iG iJ) (
       (zRz x1).bind fun r14=>
       (zWW r9 r14).bind fun r15=>
       cond (!r15) (
        iG iJ) (
        (f_Z x2).bind fun r16=>
        (zR3 r10 r16).bind fun r17=>
        cond (!r17) (
         iG iJ) (
         iG iI))))))))
end Go.Wk
