/- x -/
import Derived.Test.YtchnmobojdcikaaGreatCPlB
import Derived.Test.YtchnmobojdcikaaGreatCPlA
import Derived.Test.YtchnmobojdcikaaGreatCAbB
import Derived.Test.YtchnmobojdcikaaGreatCWF
open List renaming replicate→J1,getD_eq_getElem?_getD→J2,getElem?_eq_getElem→J5,append_nil→J9,length_append→Ja,getElem?_append_right→Jb,append_assoc→Jh,range→Ji,getElem?_map→Jn,length_map→Jo,mem_iff_getElem→Jt,nil_append→Ju,replicate_succ→Jv,mem_append→Jw,getElem_mem→K3,all_eq_true→K4,getElem?_append_left→K5,getElem?_replicate→K7,length_replicate→K8,length_take→Kn,getElem?_eq_none→Ku,range_succ→Kv,mem_range→Lf,flatMap_cons→Lg,length_set→Ln,replicate_succ'→Lv,length_singleton→H7,length_range→Hj,range'→U0,flatMap_append→Ue,mem_replicate→Q6,range_eq_range'→Ja0,length→Ja2,range'_succ→Jao
open Bool renaming and_eq_true→J3,not_true→J7,not_false→Kc
open Int renaming toNat_natCast→J6,mul_emod→Jk,emod_emod→Jr,add_emod→Jx,emod_lt_of_pos→Kh,tmod_eq_emod_of_nonneg→Kq,zero_add→Kw,emod_nonneg→Kz,mul_assoc→Lo,mul_one→Lq,mul_zero→H3,one_mul→Hc,mul_comm→Hx,tdiv_eq_ediv_of_nonneg→Hz,sub_emod→Gf,emod_add_emod→Ua,add_emod_right→Ui,zero_emod→Q9,tdiv_nonneg→Qu,tmod_lt_of_pos→Ja3,add_emod_emod→Ja7
open Nat renaming zero_add→J8,le_refl→Jf,lt_or_ge→Jg,mul_le_mul_right→Kj,add_sub_cancel_left→L6,add_sub_cancel→Qf
open Option renaming some→Km,getD_some→G5
open Prod renaming mk→Uq
open Option renaming some→iz,none→iA
open Bool renaming true→iB,false→iC
namespace Go.Pl
open Go Go.Ab Go.Wk Go.Pc
end Go.Pl

namespace Go.Pl
open Go Go.Ab Go.Wk Go.Pc
end Go.Pl

namespace Go.Pl
open Go Go.Ab Go.Wk Go.Pc
end Go.Pl

namespace Go.Pl
open Go Go.Ab Go.Wk Go.Pc
end Go.Pl

namespace Go.Pl
open Go Go.Ab Go.Wk Go.Pc
end Go.Pl

namespace Go.Pl
open Go Go.Ab Go.Wk Go.Pc
end Go.Pl

namespace Go.Pl
open Go Go.Ab Go.Wk Go.Pc
end Go.Pl

namespace Go.Pl
open Go Go.Ab Go.Wk Go.Pc
end Go.Pl

namespace Go.Pl
open Go Go.Ab Go.Wk Go.Pc
end Go.Pl

namespace Go.Pl
open Go Go.Ab Go.Wk Go.Pc
end Go.Pl

namespace Go.Pl
open Go Go.Ab Go.Wk Go.Pc
end Go.Pl

namespace Go.Pl
open Go Go.Ab Go.Wk Go.Pc
end Go.Pl

namespace Go.Pl
open Go Go.Ab Go.Wk Go.Pc
variable {x:SPr}{w:Pres x∧wH (suf x 0)}
end Go.Pl

namespace Go.Pl
open Go Go.Ab Go.Wk Go.Pc
variable {x:SPr}{w:Pres x∧wH (suf x 0)}
end Go.Pl

namespace Go.Pl
open Go Go.Ab Go.Wk Go.Pc
end Go.Pl

namespace Go.Pl
open Go Go.Ab Go.Wk Go.Pc
theorem zP8{x:SPr}(h:Pres x)(h6:x.zA.length≤6):∀b,b≤x.zA.length→x.zA.length+((Ji b).flatMap (R2 x)).length=base x.zA.length b
 |0,_=>by simp[base]
 |b+1,hb=>by
  have ih:=zP8 h h6 b (by omega);have:=(h.tl b (by omega)).2.1;have e:((Ji (b+1)).flatMap (R2 x)).length=((Ji b).flatMap (R2 x)).length+(x.zB.getD b []).length:=by rw[Kv,Ue,Ja];simp only[Lg,List.flatMap_nil,J9,R2,Jo,Hj]
  rw[zJ0 _ (by omega) b (by omega),←ih,e];omega
theorem zTk{x:SPr}{a:Nat}(ha:a<x.zA.length):(yZ x).getD a ([],[])=r1 x a:=by rw[yZ,J2,K5 (by simp;exact ha)];simp[ha]
theorem zTl{x:SPr}(h:Pres x)(h6:x.zA.length≤6){b j:Nat}(hb:b<x.zA.length)(hj:b+j+1<x.zA.length):(yZ x).getD (base x.zA.length b+j) ([],[])=r2 x b j:=by
 have hf:=zP8 h h6 b (by omega);have hl:=(h.tl b hb).2.1;have e:Ji x.zA.length=Ji b++b::U0 (b+1) (x.zA.length-(b+1)):=by have a1:=@List.range'_append_1 0 b (x.zA.length-b);rw[J8,show b+(x.zA.length-b)=x.zA.length by omega,show x.zA.length-b=x.zA.length-(b+1)+1 by omega,Jao]at a1;rw[Ja0,Ja0,←a1]
 have e2:(Ji x.zA.length).flatMap (R2 x)=(Ji b).flatMap (R2 x)++(R2 x b++(U0 (b+1) (x.zA.length-(b+1))).flatMap (R2 x)):=by rw[e,Ue,Lg]
 have l1:((Ji x.zA.length).map (r1 x)).length=x.zA.length:=by simp
 have l2:(R2 x b).length=(x.zB.getD b []).length:=by simp only[R2,Jo,Hj]
 have ei:base x.zA.length b+j-((Ji x.zA.length).map (r1 x)++(Ji b).flatMap (R2 x)).length=j:=by rw[Ja,l1];omega
 rw[yZ,e2,←Jh,J2,Jb (by rw[Ja,l1];omega),ei,K5 (by omega),R2,Jn,List.getElem?_range (by omega)];rfl
end Go.Pl

namespace Go.Pl
open Go Go.Ab Go.Wk Go.Pc
end Go.Pl

namespace Go.Pl
open Go Go.Ab Go.Wk Go.Pc
end Go.Pl

namespace Go.Pl
open Go Go.Ab Go.Wk Go.Pc
end Go.Pl

namespace Go.Pl
open Go Go.Ab Go.Wk Go.Pc
end Go.Pl

namespace Go.Pl
open Go Go.Ab Go.Wk Go.Pc
end Go.Pl

namespace Go.Pl
open Go Go.Ab Go.Wk Go.Pc
end Go.Pl

namespace Go.Pl
open Go Go.Ab
def Le{α:Type}(a b:Option α):Prop:=∀r,a=iz r→b=iz r
class LeC {α:Type} (a b:Option α):Prop where
 h:Le a b
theorem Le.rf{α:Type}{a:Option α}:Le a a:=fun _ h=>h
theorem Le.bd{α β:Type}{a b:Option α}{f g:α→Option β}(h:Le a b)(k:∀x,Le (f x) (g x)):Le (a.bind f) (b.bind g):=by
 intro r hr;cases ha:a with
 |none=>rw[ha]at hr;cases hr
 |some x=>rw[ha]at hr;rw[h x ha];exact k x r hr
theorem Le.cd{α:Type}{c:Bool}{a b a' b':Option α}(h:Le a b)(k:Le a' b'):Le (cond c a a') (cond c b b'):=by
 cases c
 ·exact k
 ·exact h
theorem Le.lp{σ ρ:Type}{e f:σ→Option (σ⊕ρ)}{n:Nat}{s:σ}(h:∀s,Le (e s) (f s)):Le (xE e n s) (zG f s):=by
 intro r hr;rw[zCr];refine⟨n,?_⟩
 induction n generalizing s with
 |zero=>cases hr
 |succ n ih=>
  simp only[xE]at hr ⊢
  cases he:e s with
  |none=>rw[he]at hr;cases hr
  |some x=>
   rw[he]at hr;rw[h s x he];cases x with
   |inl s'=>exact ih hr
   |inr r'=>exact hr
theorem leS{α:Type}{a b:Option α}(h:Le a b:=by
 repeat' first
  |with_reducible exact Le.rf
  |exact LeC.h
  |with_reducible refine Le.bd ?_ fun _=>?_
  |with_reducible refine Le.cd ?_ ?_
  |with_reducible refine Le.lp fun _=>?_
  |(rename_i x;cases x using Sum.casesOn<;>dsimp only)
  |fail):Le a b:=h
theorem Le.fu{α:Type}{g:Nat→Option α}{n:Nat}(h:∀n,Le (g n) (g (n+1))):Le (g n) (zCE g):=fun r hr=>
 zBm n fun m hm=>by
  induction m with
  |zero=>rw[show 0=n from by omega];exact hr
  |succ m ih=>
   rcases Nat.eq_or_lt_of_le hm with e|e
   ·rw[←e];exact hr
   ·exact h m r (ih (by omega))
end Go.Pl

namespace Go.Wk
open Go Go.Ab Go.Pl
noncomputable def tS (x0:List Int):Option Int:=
 (xE (zQC x0) 400 (1,0)).bind fun r5=>
 iz r5
noncomputable def uP (x0:List Int) (x1:List Int) (x2:Int):Option Bool:=
 cond ((x1.length:Int) != (x0.length:Int)) (
  iz iC) (
  (xE (zMm x0 x1 x2) 400 0).bind fun r6=>
  match r6 with
  |(.inl _)=>
   iz iB
  |(.inr r6)=>
   iz r6)
noncomputable def tI (x0:SPr) (s7:Int) (s8:Int):Option (Int⊕(Unit⊕Bool)):=
 (ixO x0.zB s7).bind fun v11=>
 cond (decide (s8<(v11.length:Int))) (
  (ixO x0.zB s7).bind fun v12=>
  (ixO v12 s8).bind fun v13=>
  (uP x0.zA v13 s7).bind fun r14=>
  cond (!r14) (
   iz (.inr (.inr iC))) (
   (rng (s8+1)).bind fun v15=>
   iz (.inl v15))) (
  iz (.inr (.inl ())))
noncomputable def tJ (x0:SPr) (s7:Int):Option (Int⊕(Unit⊕Bool)):=
 cond (decide (s7<(x0.zA.length:Int))) (
  (ixO x0.zJ s7).bind fun v6=>
  (uP x0.zA v6 s7).bind fun r7=>
  cond (!r7) (
   iz (.inr (.inr iC))) (
   (ixO x0.zB s7).bind fun v8=>
   (rng ((x0.zA.length:Int)-1)).bind fun v9=>
   (rng (v9-s7)).bind fun v10=>
   cond ((v8.length:Int) != v10) (
    iz (.inr (.inr iC))) (
    (xE (tI x0 s7) 400 0).bind fun r16=>
    match r16 with
    |(.inl _)=>
     (rng (s7+1)).bind fun v17=>
     iz (.inl v17)
    |(.inr r16)=>
     iz (.inr (.inr r16))))) (
  iz (.inr (.inl ())))
noncomputable def tT (x0:SPr):Option Bool:=
 cond (decide ((x0.zA.length:Int)> 6)) (
  iz iC) (
  cond ((x0.zJ.length:Int) != (x0.zA.length:Int)) (
   iz iC) (
   cond ((x0.zB.length:Int) != (x0.zA.length:Int)) (
    iz iC) (
    (xE (zQD x0) 400 0).bind fun r4=>
    match r4 with
    |(.inl _)=>
     (tS x0.zA).bind fun r5=>
     cond (decide (r5> 729)) (
      iz iC) (
      (xE (tJ x0) 400 0).bind fun r18=>
      match r18 with
      |(.inl _)=>
       iz iB
      |(.inr r18)=>
       iz r18)
    |(.inr r4)=>
     iz r4)))
noncomputable def zAG (x0:List Int) (x1:List Int):Option Bool:=
 cond ((x0.length:Int) != (x1.length:Int)) (
  iz iC) (
  (xE (zZP x0 x1) 400 0).bind fun r4=>
  match r4 with
  |(.inl _)=>
   iz iB
  |(.inr r4)=>
   iz r4)
noncomputable def kI (x0:Int) (x1:List Int) (x2:List (List Int)) (s5:(List Int)×Int):Option (((List Int)×Int)⊕(List Int)):=
 cond (decide (s5.2<(x1.length:Int))) (
  cond (decide (s5.2<(x2.length:Int))) (
   (xE (zQE x0 x1 x2 s5) 400 (s5.1,0)).bind fun r12=>
   (rng (s5.2+1)).bind fun v13=>
   iz (.inl (r12,v13))) (
   iz (.inr s5.1))) (
  iz (.inr s5.1))
noncomputable def zAc (x0:Int) (x1:List Int) (x2:List (List Int)) (x3:Int):Option (List Int):=
 (yB x3).bind fun m1=>
 (xE (kI x0 x1 x2) 400 (J1 m1 (0:Int),0)).bind fun r14=>
 iz r14
noncomputable def qE (x0:Int) (x1:List (List Int)) (x2:List (List Int)) (x3:Int) (s1:(List (List Int))×Int):Option (((List (List Int))×Int)⊕(List (List Int))):=
 cond (decide (s1.2<(x1.length:Int))) (
  (ixO x1 s1.2).bind fun v1=>
  (zAc x0 v1 x2 x3).bind fun r2=>
  (yG s1.1 [r2]).bind fun v3=>
  (rng (s1.2+1)).bind fun v4=>
  iz (.inl (v3,v4))) (
  iz (.inr s1.1))
noncomputable def qX (x0:Int) (x1:List (List Int)) (x2:List (List Int)) (x3:Int):Option (List (List Int)):=
 (xE (qE x0 x1 x2 x3) 400 ([],0)).bind fun r5=>
 iz r5
noncomputable def zAH (x0:List Int):Option Bool:=
 (xE (zUp x0) 400 0).bind fun r3=>
 match r3 with
 |(.inl _)=>
  iz iB
 |(.inr r3)=>
  iz r3
noncomputable def tW (x0:List (List Int)):Option (List (List Int)):=
 (xE (zQU x0) 400 ([],0)).bind fun r5=>
 iz r5
noncomputable def qF (x0:List Int) (s5:(List (List Int))×(List (List (List Int)))×Int):Option (((List (List Int))×(List (List (List Int)))×Int)⊕((List (List Int))×(List (List (List Int))))):=
 cond (decide (s5.2.2<(x0.length:Int))) (
  (yB (x0.length:Int)).bind fun m2=>
  (yG s5.1 [J1 m2 (0:Int)]).bind fun v3=>
  (rng (s5.2.2+1)).bind fun v4=>
  (xE (zRa x0) 400 ([],v4)).bind fun r8=>
  (yG s5.2.1 [r8]).bind fun v9=>
  (rng (s5.2.2+1)).bind fun v10=>
  iz (.inl (v3,v9,v10))) (
  iz (.inr (s5.1,s5.2.1)))
noncomputable def wP (x0:List Int):Option SPr:=
 (f_n x0).bind fun r1=>
 (xE (qF x0) 400 ([],[],0)).bind fun r11=>
 iz (SPr.mk r1 r11.1 r11.2)
noncomputable def qG (s5:Int×(List Int)×Int):Option ((Int×(List Int)×Int)⊕(Int×(List Int))):=
 cond (decide (s5.2.2≤7)) (
  (xE (yAb s5) 400 (s5.1,s5.2.1)).bind fun r5=>
  (rng (s5.2.2+1)).bind fun v6=>
  iz (.inl (r5.1,r5.2,v6))) (
  iz (.inr (s5.1,s5.2.1)))
noncomputable def vG (x0:Int):Option ((List Int)×Bool):=
 (xE qG 400 (x0,[],2)).bind fun r7=>
 iz (r7.2,(r7.1==1))
noncomputable def wW (x0:Int):Option (SPr×Int):=
 (zIH x0 1 729).bind fun r1=>
 cond (!r1) (
  iz ((SPr.mk [] [] []),2)) (
  (vG x0).bind fun r2=>
  cond (!r2.2) (
   iz ((SPr.mk [] [] []),2)) (
   cond (decide ((r2.1.length:Int)> 6)) (
    iz ((SPr.mk [] [] []),3)) (
    (wP r2.1).bind fun r3=>
    (xE (zPK r2) 400 (r3.zJ,0)).bind fun r9=>
    iz ((SPr.mk r3.zA r9 r3.zB),0))))
noncomputable def uQ (x0:List Int) (x1:Int) (x2:Int):Option (List Int):=
 (yB (x0.length:Int)).bind fun m1=>
 (xE (zU9 x0) 400 (x2,J1 m1 (0:Int),x1)).bind fun r8=>
 iz r8
noncomputable def sV (x0:Int) (x1:Int) (x2:Int):Option Int:=
 (yP 1 x2).bind fun v1=>
 (xE (zUA x2) 400 (x0,x1,v1)).bind fun r11=>
 iz r11
noncomputable def zAd (v4:List Int) (s7:(List (List (List Int)))×Int×Int) (s8:(List (List (List Int)))×Int):Option (((List (List (List Int)))×Int)⊕(List (List (List Int)))):=
 cond (decide (s8.2<(v4.length:Int))) (
  (ixO s8.1 s7.2.2).bind fun v18=>
  (rng (s8.2-s7.2.2)).bind fun v19=>
  (rng (v19-1)).bind fun v20=>
  (uQ v4 s8.2 s7.2.1).bind fun r21=>
  (ixO v18 v20).bind fun _=>
  (rng (s8.2+1)).bind fun v23=>
  iz (.inl (s8.1.set s7.2.2.toNat (v18.set v20.toNat r21),v23))) (
  iz (.inr s8.1))
noncomputable def zAe (x1:Int) (r1:(List Int)×Bool) (v4:List Int) (s7:(List (List (List Int)))×Int×Int):Option (((List (List (List Int)))×Int×Int)⊕(List (List (List Int)))):=
 cond (decide (s7.2.2<(r1.1.length:Int))) (
  (xE (zAd v4 s7) 400 (s7.1,(r1.1.length:Int))).bind fun r24=>
  (ixO r1.1 s7.2.2).bind fun v25=>
  (sV s7.2.1 v25 x1).bind fun r26=>
  (rng (s7.2.2+1)).bind fun v27=>
  iz (.inl (r24,r26,v27))) (
  iz (.inr s7.1))
noncomputable def zAf (v4:List Int) (s15:(List (List (List Int)))×Int×Int) (s16:(List (List (List Int)))×Int):Option (((List (List (List Int)))×Int)⊕(List (List (List Int)))):=
 cond (decide (s16.2<(v4.length:Int))) (
  (ixO s16.1 s15.2.2).bind fun v30=>
  (rng (s16.2-s15.2.2)).bind fun v31=>
  (rng (v31-1)).bind fun v32=>
  (uQ v4 s16.2 s15.2.1).bind fun r33=>
  (ixO v30 v32).bind fun _=>
  (rng (s16.2+1)).bind fun v35=>
  iz (.inl (s16.1.set s15.2.2.toNat (v30.set v32.toNat r33),v35))) (
  iz (.inr s16.1))
noncomputable def zAg (x1:Int) (r1:(List Int)×Bool) (v4:List Int) (s15:(List (List (List Int)))×Int×Int):Option (((List (List (List Int)))×Int×Int)⊕(List (List (List Int)))):=
 cond (decide (s15.2.2<(r1.1.length:Int))) (
  (xE (zAf v4 s15) 400 (s15.1,(r1.1.length:Int))).bind fun r36=>
  (ixO r1.1 s15.2.2).bind fun v37=>
  (sV s15.2.1 v37 x1).bind fun r38=>
  (rng (s15.2.2+1)).bind fun v39=>
  iz (.inl (r36,r38,v39))) (
  iz (.inr s15.1))
noncomputable def wD (x0:Int) (x1:Int) (x2:Int) (x3:Int):Option SPr:=
 (vG x0).bind fun r1=>
 (vG x1).bind fun r2=>
 (f_n r1.1).bind fun r3=>
 (yG r3 r2.1).bind fun v4=>
 (wP v4).bind fun r5=>
 (xE (zWN r1 v4) 400 (r5.zJ,0)).bind fun r13=>
 cond (decide ((r1.1.length:Int)> 0)) (
  (rng ((r1.1.length:Int)-1)).bind fun v14=>
  (uQ v4 (r1.1.length:Int) x3).bind fun r15=>
  (ixO r13 v14).bind fun _=>
  (yP x2 x1).bind fun v17=>
  (xE (zAe x1 r1 v4) 400 (r5.zB,v17,0)).bind fun r28=>
  iz (SPr.mk r5.zA (r13.set v14.toNat r15) r28)) (
  (yP x2 x1).bind fun v29=>
  (xE (zAg x1 r1 v4) 400 (r5.zB,v29,0)).bind fun r40=>
  iz (SPr.mk r5.zA r13 r40))
noncomputable def qY (x0:Int) (x1:List (List Int)) (r1:(List Int)×Bool) (s13:(List (List (List Int)))×(List (List Int))×Int) (s16:(List (List Int))×Int):Option (((List (List Int))×Int)⊕(List (List Int))):=
 (ixO r1.1 s13.2.2).bind fun v23=>
 cond (decide (s16.2<v23)) (
  (qX x0 s16.1 s13.2.1 (x1.length:Int)).bind fun r24=>
  (rng (s16.2+1)).bind fun v25=>
  iz (.inl (r24,v25))) (
  iz (.inr s16.1))
noncomputable def qZ (x0:Int) (x1:List (List Int)) (r1:(List Int)×Bool) (s13:(List (List (List Int)))×(List (List Int))×Int):Option (((List (List (List Int)))×(List (List Int))×Int)⊕(List (List (List Int)))):=
 cond (decide (s13.2.2<(r1.1.length:Int))) (
  (xE (zWQ x1 r1 s13) 400 (s13.1,0)).bind fun r22=>
  (xE (qY x0 x1 r1 s13) 400 (s13.2.1,1)).bind fun r26=>
  (rng (s13.2.2+1)).bind fun v27=>
  iz (.inl (r22,r26,v27))) (
  iz (.inr s13.1))
noncomputable def wL (x0:Int) (x1:List (List Int)) (x2:Int):Option SPr:=
 (vG x2).bind fun r1=>
 (f_n r1.1).bind fun r2=>
 (xE (yAc x0 x1) 400 (r2,0)).bind fun r5=>
 (wP r5).bind fun r6=>
 (xE (zWP r1 r5) 400 (r6.zJ,0)).bind fun r12=>
 (tW x1).bind fun r13=>
 (xE (qZ x0 x1 r1) 400 (r6.zB,r13,0)).bind fun r28=>
 iz (SPr.mk r6.zA r12 r28)
noncomputable def tK (x0:ByteArray) (x1:Int):Option (List ByteArray):=
 (xE (zUH x0 x1) 400 ([],0,0)).bind fun r7=>
 (zGA x0 r7.2 (x0.size:Int)).bind fun v8=>
 (yG r7.1 [v8]).bind fun v9=>
 iz v9
noncomputable def zAh (x0:ByteArray):Option Int:=
 cond ((x0.size:Int)==0) (
  iz (-1)) (
  cond (decide ((x0.size:Int)> 6)) (
   iz (-1)) (
   cond (decide ((x0.size:Int)> 1)) (
    (zB1 x0 0).bind fun v1=>
    cond (v1==48) (
     iz (-1)) (
     (xE (zUI x0) 400 (0,0)).bind fun r8=>
     match r8 with
     |(.inl r8)=>
      iz r8
     |(.inr r8)=>
      iz r8)) (
    (xE (zUJ x0) 400 (0,0)).bind fun r15=>
    match r15 with
    |(.inl r15)=>
     iz r15
    |(.inr r15)=>
     iz r15)))
noncomputable def jN (r1:(List ByteArray)) (s1:(List Int)×Int):Option (((List Int)×Int)⊕((List Int)⊕((List Int)×Bool))):=
 cond (decide (s1.2<(r1.length:Int))) (
  (ixO r1 s1.2).bind fun v2=>
  (zAh v2).bind fun r3=>
  (zNO r3).bind fun r4=>
  cond (!r4) (
   iz (.inr (.inr ([],iC)))) (
   cond (decide (s1.2≥6)) (
    iz (.inr (.inr ([],iC)))) (
    (yG s1.1 [r3]).bind fun v5=>
    (rng (s1.2+1)).bind fun v6=>
    iz (.inl (v5,v6))))) (
  iz (.inr (.inl s1.1)))
noncomputable def kJ (x0:ByteArray):Option ((List Int)×Bool):=
 cond (zDT x0 (ByteArray.mk #[49])) (
  iz ([],iB)) (
  (tK x0 32).bind fun r1=>
  (xE (jN r1) 400 ([],0)).bind fun r7=>
  match r7 with
  |(.inl r7)=>
   (tS r7).bind fun r8=>
   iz (r7,decide (r8≤729))
  |(.inr r7)=>
   iz r7)
noncomputable def zAi (x0:Int) (x1:ByteArray):Option ((List Int)×Bool):=
 cond (zDT x1 (ByteArray.mk #[49])) (
  iz ([],iB)) (
  (xE (zUK x0 x1) 400 ([],0)).bind fun r14=>
  match r14 with
  |(.inl r14)=>
   iz (r14,decide ((r14.length:Int)> 0))
  |(.inr r14)=>
   iz r14)
noncomputable def kK (x0:Int) (x1:List Int):Option ((List Int)×Bool):=
 (yB x0).bind fun m1=>
 (xE (zUL x1) 400 (J1 m1 (0:Int),0)).bind fun r11=>
 match r11 with
 |(.inl r11)=>
  iz (r11,iB)
 |(.inr r11)=>
  iz r11
noncomputable def zAI (x0:SPr) (s1:(List (List (List Int)))×Int):Option (((List (List (List Int)))×Int)⊕(List (List (List Int)))):=
 cond (decide (s1.2<(x0.zB.length:Int))) (
  (ixO x0.zB s1.2).bind fun v3=>
  (tW v3).bind fun r4=>
  (yG s1.1 [r4]).bind fun v5=>
  (rng (s1.2+1)).bind fun v6=>
  iz (.inl (v5,v6))) (
  iz (.inr s1.1))
noncomputable def zBw (x0:SPr):Option SPr:=
 (f_n x0.zA).bind fun r1=>
 (tW x0.zJ).bind fun r2=>
 (xE (zAI x0) 400 ([],0)).bind fun r7=>
 iz (SPr.mk r1 r2 r7)
noncomputable def sN (x0:Int):Option ByteArray:=zKC 40 x0
noncomputable def qH (x0:SPr) (x1:ByteArray):Option (SPr×Bool):=
 (tK x1 61).bind fun r1=>
 cond ((r1.length:Int) != 2) (
  iz (x0,iC)) (
  (ixO r1 0).bind fun v2=>
  cond ((v2.size:Int) != 4) (
   iz (x0,iC)) (
   (ixO r1 0).bind fun v3=>
   (zB1 v3 0).bind fun v4=>
   cond (v4 != 32) (
    iz (x0,iC)) (
    (ixO r1 0).bind fun v5=>
    (zB1 v5 2).bind fun v6=>
    cond (v6 != 94) (
     iz (x0,iC)) (
     (ixO r1 1).bind fun v7=>
     (zAi (x0.zA.length:Int) v7).bind fun r8=>
     cond (!r8.2) (
      iz (x0,iC)) (
      (kK (x0.zA.length:Int) r8.1).bind fun r9=>
      (ixO r1 0).bind fun v10=>
      (zB1 v10 1).bind fun v11=>
      (rng ((IntKind.wrap .i64 v11)-97)).bind fun v12=>
      (ixO r1 0).bind fun v13=>
      (zB1 v13 3).bind fun v14=>
      (rng ((IntKind.wrap .i64 v14)-97)).bind fun v15=>
      cond (!r9.2) (
       iz (x0,iC)) (
       cond (decide (v12<0)) (
        iz (x0,iC)) (
        cond (decide (v12≥(x0.zA.length:Int))) (
         iz (x0,iC)) (
         (zBw x0).bind fun r16=>
         (ixO r1 0).bind fun v17=>
         (zGA v17 3 (v17.size:Int)).bind fun v18=>
         (ixO x0.zA v12).bind fun v19=>
         (sN v19).bind fun r20=>
         cond (zDT v18 r20) (
          (ixO r16.zJ v12).bind fun _=>
          iz ((SPr.mk r16.zA (r16.zJ.set v12.toNat r9.1) r16.zB),iB)) (
          cond (decide (v15<0)) (
           iz (x0,iC)) (
           cond (decide (v15≥v12)) (
            iz (x0,iC)) (
            (ixO r16.zB v15).bind fun v22=>
            (rng (v12-v15)).bind fun v23=>
            (rng (v23-1)).bind fun v24=>
            (ixO v22 v24).bind fun _=>
            iz ((SPr.mk r16.zA r16.zJ (r16.zB.set v15.toNat (v22.set v24.toNat r9.1))),iB))))))))))))
noncomputable def tX (x0:List Int):Option ByteArray:=
 cond ((x0.length:Int)==0) (
  iz (ByteArray.mk #[49])) (
  (xE (zUM x0) 400 ([],0)).bind fun r12=>
  iz (b2s r12))
noncomputable def uR (x0:Int):Option ByteArray:=
 (rng (x0+1)).bind fun v1=>
 (tX [v1]).bind fun r2=>
 iz r2
noncomputable def zAj (x0:List Int) (s5:(List Int)×Int):Option (((List Int)×Int)⊕(List Int)):=
 cond (decide (s5.2<(x0.length:Int))) (
  (xE (zUN x0 s5) 400 (s5.1,0)).bind fun r5=>
  (rng (s5.2+1)).bind fun v6=>
  iz (.inl (r5,v6))) (
  iz (.inr s5.1))
noncomputable def qN (x0:List Int):Option (List Int):=
 (xE (zAj x0) 400 ([],0)).bind fun r7=>
 iz r7
noncomputable def zAk (x0:SPr) (s1:ByteArray×Int):Option ((ByteArray×Int)⊕ByteArray):=
 cond (decide (s1.2<(x0.zA.length:Int))) (
  cond (decide (s1.2> 0)) (
   (vN s1.1 (ByteArray.mk #[32])).bind fun v1=>
   (ixO x0.zA s1.2).bind fun v2=>
   (sN v2).bind fun r3=>
   (vN v1 r3).bind fun v4=>
   (rng (s1.2+1)).bind fun v5=>
   iz (.inl (v4,v5))) (
   (ixO x0.zA s1.2).bind fun v6=>
   (sN v6).bind fun r7=>
   (vN s1.1 r7).bind fun v8=>
   (rng (s1.2+1)).bind fun v9=>
   iz (.inl (v8,v9)))) (
  iz (.inr s1.1))
noncomputable def zAl (x0:SPr) (s3:ByteArray×Int):Option ((ByteArray×Int)⊕ByteArray):=
 cond (decide (s3.2<(x0.zA.length:Int))) (
  (ixO x0.zJ s3.2).bind fun v11=>
  (zAH v11).bind fun r12=>
  cond (!r12) (
   (vN s3.1 (ByteArray.mk #[59,32])).bind fun v13=>
   (uR s3.2).bind fun r14=>
   (vN v13 r14).bind fun v15=>
   (vN v15 (ByteArray.mk #[94])).bind fun v16=>
   (ixO x0.zA s3.2).bind fun v17=>
   (sN v17).bind fun r18=>
   (vN v16 r18).bind fun v19=>
   (vN v19 (ByteArray.mk #[61])).bind fun v20=>
   (ixO x0.zJ s3.2).bind fun v21=>
   (qN v21).bind fun r22=>
   (tX r22).bind fun r23=>
   (vN v20 r23).bind fun v24=>
   (rng (s3.2+1)).bind fun v25=>
   iz (.inl (v24,v25))) (
   (rng (s3.2+1)).bind fun v26=>
   iz (.inl (s3.1,v26)))) (
  iz (.inr s3.1))
noncomputable def zAm (x0:SPr) (s9:ByteArray×Int) (s10:ByteArray×Int):Option ((ByteArray×Int)⊕ByteArray):=
 cond (decide (s10.2<(x0.zA.length:Int))) (
  (ixO x0.zB s9.2).bind fun v29=>
  (rng (s10.2-s9.2)).bind fun v30=>
  (rng (v30-1)).bind fun v31=>
  (ixO v29 v31).bind fun v32=>
  (zI2 (x0.zA.length:Int) s10.2).bind fun r33=>
  (zAG v32 r33).bind fun r34=>
  cond (!r34) (
   (vN s10.1 (ByteArray.mk #[59,32])).bind fun v35=>
   (uR s10.2).bind fun r36=>
   (vN v35 r36).bind fun v37=>
   (vN v37 (ByteArray.mk #[94])).bind fun v38=>
   (uR s9.2).bind fun r39=>
   (vN v38 r39).bind fun v40=>
   (vN v40 (ByteArray.mk #[61])).bind fun v41=>
   (ixO x0.zB s9.2).bind fun v42=>
   (rng (s10.2-s9.2)).bind fun v43=>
   (rng (v43-1)).bind fun v44=>
   (ixO v42 v44).bind fun v45=>
   (qN v45).bind fun r46=>
   (tX r46).bind fun r47=>
   (vN v41 r47).bind fun v48=>
   (rng (s10.2+1)).bind fun v49=>
   iz (.inl (v48,v49))) (
   (rng (s10.2+1)).bind fun v50=>
   iz (.inl (s10.1,v50)))) (
  iz (.inr s10.1))
noncomputable def zAn (x0:SPr) (s9:ByteArray×Int):Option ((ByteArray×Int)⊕ByteArray):=
 cond (decide (s9.2<(x0.zA.length:Int))) (
  (rng (s9.2+1)).bind fun v28=>
  (xE (zAm x0 s9) 400 (s9.1,v28)).bind fun r51=>
  (rng (s9.2+1)).bind fun v52=>
  iz (.inl (r51,v52))) (
  iz (.inr s9.1))
noncomputable def zAJ (x0:SPr):Option ByteArray:=
 cond ((x0.zA.length:Int)==0) (
  iz (ByteArray.mk #[49])) (
  (xE (zAk x0) 400 ((ByteArray.mk #[]),0)).bind fun r10=>
  (xE (zAl x0) 400 (r10,0)).bind fun r27=>
  (xE (zAn x0) 400 (r27,0)).bind fun r53=>
  iz r53)
noncomputable def uD (r1:(List ByteArray)) (s1:(List Int)×(List (List Int))×(List (List (List Int)))×Int):Option (((List Int)×(List (List Int))×(List (List (List Int)))×Int)⊕(((List Int)×(List (List Int))×(List (List (List Int))))⊕(SPr×Int))):=
 cond (decide (s1.2.2.2<(r1.length:Int))) (
  (ixO r1 s1.2.2.2).bind fun v5=>
  (qH (SPr.mk s1.1 s1.2.1 s1.2.2.1) v5).bind fun r6=>
  cond (!r6.2) (
   iz (.inr (.inr ((SPr.mk [] [] []),6)))) (
   (rng (s1.2.2.2+1)).bind fun v7=>
   iz (.inl (r6.1.zA,r6.1.zJ,r6.1.zB,v7)))) (
  iz (.inr (.inl (s1.1,s1.2.1,s1.2.2.1))))
noncomputable def uJ (x0:ByteArray):Option (SPr×Int):=
 (tK x0 59).bind fun r1=>
 (ixO r1 0).bind fun v2=>
 (kJ v2).bind fun r3=>
 cond (!r3.2) (
  iz ((SPr.mk [] [] []),6)) (
  (wP r3.1).bind fun r4=>
  (xE (uD r1) 400 (r4.zA,r4.zJ,r4.zB,1)).bind fun r8=>
  match r8 with
  |(.inl r8)=>
   (tT (SPr.mk r8.1 r8.2.1 r8.2.2)).bind fun r9=>
   cond (!r9) (
    iz ((SPr.mk [] [] []),6)) (
    (zAJ (SPr.mk r8.1 r8.2.1 r8.2.2)).bind fun r10=>
    cond (!zDT r10 x0) (
     iz ((SPr.mk [] [] []),6)) (
     iz ((SPr.mk r8.1 r8.2.1 r8.2.2),0)))
  |(.inr r8)=>
   iz r8)
noncomputable def zAo (x0:Int):Option SPr:=
 (yP x0 10).bind fun v1=>
 (ixO [(ByteArray.mk #[49]),(ByteArray.mk #[50]),(ByteArray.mk #[50,32,50,59,32,97,94,50,61,98]),(ByteArray.mk #[50,32,51,59,32,98,94,97,61,98,98]),(ByteArray.mk #[51,32,50,32,50,59,32,98,94,97,61,99,59,32,99,94,97,61,98,99]),(ByteArray.mk #[50,32,51,32,50,32,50,59,32,98,94,97,61,98,98,59,32,99,94,97,61,100,59,32,100,94,97,61,99,59,32,99,94,98,61,100,59,32,100,94,98,61,99,100]),(ByteArray.mk #[51,32,50,32,50,32,50,59,32,98,94,50,61,100,59,32,99,94,50,61,100,59,32,98,94,97,61,99,59,32,99,94,97,61,98,99,59,32,99,94,98,61,99,100]),(ByteArray.mk #[50,32,50,32,50,59,32,97,94,50,61,99,59,32,98,94,50,61,99,59,32,98,94,97,61,98,99]),(ByteArray.mk #[50,32,50,32,50,59,32,98,94,97,61,98,99]),(ByteArray.mk #[50,32,50,32,50,32,50,59,32,99,94,97,61,99,100,59,32,99,94,98,61,99,100])] v1).bind fun v2=>
 (uJ v2).bind fun r3=>
 cond (r3.2 != 0) (
  (wP [2]).bind fun r4=>
  iz r4) (
  iz r3.1)
instance m_f_spec_l07Product(x0:List Int):LeC (tS x0) (f_Q x0):=⟨by unfold tS f_Q;exact leS⟩
instance m_f_spec_l07Exponents(x0:List Int)(x1:List Int)(x2:Int):LeC (uP x0 x1 x2) (zNP x0 x1 x2):=⟨by unfold uP zNP;exact leS⟩
instance m_l2_spec_IsPresentation(x0:SPr)(s7:Int)(s8:Int):LeC (tI x0 s7 s8) (zNQ x0 s7 s8):=⟨by unfold tI zNQ;exact leS⟩
instance m_l3_spec_IsPresentation(x0:SPr)(s7:Int):LeC (tJ x0 s7) (zK7 x0 s7):=⟨by unfold tJ zK7;exact leS⟩
instance m_f_spec_IsPresentation(x0:SPr):LeC (tT x0) (f_m x0):=⟨by unfold tT f_m;exact leS⟩
instance m_f_spec_l01Same(x0:List Int)(x1:List Int):LeC (zAG x0 x1) (f_S x0 x1):=⟨by unfold zAG f_S;exact leS⟩
instance m_l2_spec_l02Times(x0:Int)(x1:List Int)(x2:List (List Int))(s5:(List Int)×Int):LeC (kI x0 x1 x2 s5) (zNT x0 x1 x2 s5):=⟨by unfold kI zNT;exact leS⟩
instance m_f_spec_l02Times(x0:Int)(x1:List Int)(x2:List (List Int))(x3:Int):LeC (zAc x0 x1 x2 x3) (f_H x0 x1 x2 x3):=⟨by unfold zAc f_H;exact leS⟩
instance m_l1_spec_l02Product(x0:Int)(x1:List (List Int))(x2:List (List Int))(x3:Int)(s1:(List (List Int))×Int):LeC (qE x0 x1 x2 x3 s1) (zNU x0 x1 x2 x3 s1):=⟨by unfold qE zNU;exact leS⟩
instance m_f_spec_l02Product(x0:Int)(x1:List (List Int))(x2:List (List Int))(x3:Int):LeC (qX x0 x1 x2 x3) (f_N x0 x1 x2 x3):=⟨by unfold qX f_N;exact leS⟩
instance m_f_spec_l01Zero(x0:List Int):LeC (zAH x0) (zIM x0):=⟨by unfold zAH zIM;exact leS⟩
instance m_f_spec_l01Own2(x0:List (List Int)):LeC (tW x0) (f_Y x0):=⟨by unfold tW f_Y;exact leS⟩
instance m_l2_spec_l07Trivial(x0:List Int)(s5:(List (List Int))×(List (List (List Int)))×Int):LeC (qF x0 s5) (zKB x0 s5):=⟨by unfold qF zKB;exact leS⟩
instance m_f_spec_l07Trivial(x0:List Int):LeC (wP x0) (f_t x0):=⟨by unfold wP f_t;exact leS⟩
instance m_l2_spec_l07Factors(s5:Int×(List Int)×Int):LeC (qG s5) (zWL s5):=⟨by unfold qG zWL;exact leS⟩
instance m_f_spec_l07Factors(x0:Int):LeC (vG x0) (f_Z x0):=⟨by unfold vG f_Z;exact leS⟩
instance m_f_spec_CyclicPresentation(x0:Int):LeC (wW x0) (zWM x0):=⟨by unfold wW zWM;exact leS⟩
instance m_f_spec_l07Digits(x0:List Int)(x1:Int)(x2:Int):LeC (uQ x0 x1 x2) (zRb x0 x1 x2):=⟨by unfold uQ zRb;exact leS⟩
instance m_f_spec_l01Power(x0:Int)(x1:Int)(x2:Int):LeC (sV x0 x1 x2) (zUB x0 x1 x2):=⟨by unfold sV zUB;exact leS⟩
instance m_l2_spec_l07Meta(v4:List Int)(s7:(List (List (List Int)))×Int×Int)(s8:(List (List (List Int)))×Int):LeC (zAd v4 s7 s8) (zUC v4 s7 s8):=⟨by unfold zAd zUC;exact leS⟩
instance m_l3_spec_l07Meta(x1:Int)(r1:(List Int)×Bool)(v4:List Int)(s7:(List (List (List Int)))×Int×Int):LeC (zAe x1 r1 v4 s7) (zUD x1 r1 v4 s7):=⟨by unfold zAe zUD;exact leS⟩
instance m_l4_spec_l07Meta(v4:List Int)(s15:(List (List (List Int)))×Int×Int)(s16:(List (List (List Int)))×Int):LeC (zAf v4 s15 s16) (zUE v4 s15 s16):=⟨by unfold zAf zUE;exact leS⟩
instance m_l5_spec_l07Meta(x1:Int)(r1:(List Int)×Bool)(v4:List Int)(s15:(List (List (List Int)))×Int×Int):LeC (zAg x1 r1 v4 s15) (zUF x1 r1 v4 s15):=⟨by unfold zAg zUF;exact leS⟩
instance m_f_spec_l07Meta(x0:Int)(x1:Int)(x2:Int)(x3:Int):LeC (wD x0 x1 x2 x3) (f_k x0 x1 x2 x3):=⟨by unfold wD f_k;exact leS⟩
instance m_l4_spec_l07Affine(x0:Int)(x1:List (List Int))(r1:(List Int)×Bool)(s13:(List (List (List Int)))×(List (List Int))×Int)(s16:(List (List Int))×Int):LeC (qY x0 x1 r1 s13 s16) (zWR x0 x1 r1 s13 s16):=⟨by unfold qY zWR;exact leS⟩
instance m_l5_spec_l07Affine(x0:Int)(x1:List (List Int))(r1:(List Int)×Bool)(s13:(List (List (List Int)))×(List (List Int))×Int):LeC (qZ x0 x1 r1 s13) (zUG x0 x1 r1 s13):=⟨by unfold qZ zUG;exact leS⟩
instance m_f_spec_l07Affine(x0:Int)(x1:List (List Int))(x2:Int):LeC (wL x0 x1 x2) (f_s x0 x1 x2):=⟨by unfold wL f_s;exact leS⟩
instance m_f_spec_l01Split(x0:ByteArray)(x1:Int):LeC (tK x0 x1) (zRc x0 x1):=⟨by unfold tK zRc;exact leS⟩
instance m_f_spec_l01Value(x0:ByteArray):LeC (zAh x0) (zWS x0):=⟨by unfold zAh zWS;exact leS⟩
instance m_l1_spec_l07Orders(r1:(List ByteArray))(s1:(List Int)×Int):LeC (jN r1 s1) (zPL r1 s1):=⟨by unfold jN zPL;exact leS⟩
instance m_f_spec_l07Orders(x0:ByteArray):LeC (kJ x0) (zWT x0):=⟨by unfold kJ zWT;exact leS⟩
instance m_f_spec_l06Parse(x0:Int)(x1:ByteArray):LeC (zAi x0 x1) (zWU x0 x1):=⟨by unfold zAi zWU;exact leS⟩
instance m_f_spec_l07Vector(x0:Int)(x1:List Int):LeC (kK x0 x1) (zWV x0 x1):=⟨by unfold kK zWV;exact leS⟩
instance m_l1_spec_l07Own(x0:SPr)(s1:(List (List (List Int)))×Int):LeC (zAI x0 s1) (zMI x0 s1):=⟨by unfold zAI zMI;exact leS⟩
instance m_f_spec_l07Own(x0:SPr):LeC (zBw x0) (f_X x0):=⟨by unfold zBw f_X;exact leS⟩
instance m_f_spec_l01Dec(x0:Int):LeC (sN x0) (f_h x0):=⟨Le.fu (n:=40) (g:=fun n=>zKC n x0) fun n=>by
 induction n generalizing x0 with
 |zero=>intro r h;cases h
 |succ n ih=>
  have:=fun x0=>LeC.mk (ih x0)
  show Le (b_h (zKC n) x0) (b_h (zKC (n+1)) x0);unfold b_h;exact leS⟩
instance m_f_spec_l07Relation(x0:SPr)(x1:ByteArray):LeC (qH x0 x1) (zWW x0 x1):=⟨by unfold qH zWW;exact leS⟩
instance m_f_spec_l06Text(x0:List Int):LeC (tX x0) (zRd x0):=⟨by unfold tX zRd;exact leS⟩
instance m_f_spec_l07Letter(x0:Int):LeC (uR x0) (zRe x0):=⟨by unfold uR zRe;exact leS⟩
instance m_l2_spec_l07Word(x0:List Int)(s5:(List Int)×Int):LeC (zAj x0 s5) (zPM x0 s5):=⟨by unfold zAj zPM;exact leS⟩
instance m_f_spec_l07Word(x0:List Int):LeC (qN x0) (zUO x0):=⟨by unfold qN zUO;exact leS⟩
instance m_l1_spec_l07Text(x0:SPr)(s1:ByteArray×Int):LeC (zAk x0 s1) (zWX x0 s1):=⟨by unfold zAk zWX;exact leS⟩
instance m_l2_spec_l07Text(x0:SPr)(s3:ByteArray×Int):LeC (zAl x0 s3) (zWY x0 s3):=⟨by unfold zAl zWY;exact leS⟩
instance m_l3_spec_l07Text(x0:SPr)(s9:ByteArray×Int)(s10:ByteArray×Int):LeC (zAm x0 s9 s10) (zWZ x0 s9 s10):=⟨by unfold zAm zWZ;exact leS⟩
instance m_l4_spec_l07Text(x0:SPr)(s9:ByteArray×Int):LeC (zAn x0 s9) (zXa x0 s9):=⟨by unfold zAn zXa;exact leS⟩
instance m_f_spec_l07Text(x0:SPr):LeC (zAJ x0) (f_F x0):=⟨by unfold zAJ f_F;exact leS⟩
instance m_l1_spec_ParsePresentation(r1:(List ByteArray))(s1:(List Int)×(List (List Int))×(List (List (List Int)))×Int):LeC (uD r1 s1) (zPN r1 s1):=⟨by unfold uD zPN;exact leS⟩
instance m_f_spec_ParsePresentation(x0:ByteArray):LeC (uJ x0) (zXb x0):=⟨by unfold uJ zXb;exact leS⟩
instance m_f_spec_l07Table(x0:Int):LeC (zAo x0) (zXc x0):=⟨by unfold zAo zXc;exact leS⟩
end Go.Wk
namespace Go.Pl
open Go Go.Ab Go.Wk
def shB(p:SPr):Bool:=decide (p.zA.length≤6)&&(p.zJ.length==p.zA.length)&&p.zJ.all (fun v=>v.length==p.zA.length)&&(p.zB.length==p.zA.length)&&(Ji p.zA.length).all fun i=>decide ((p.zB.getD i []).length≤p.zA.length-1-i)&&(p.zB.getD i []).all fun v=>v.length==p.zA.length
def okP(o:Option SPr):Bool:=match o with|some p=>shB p|none=>iC
theorem okP.of{a b:Option SPr}[h:LeC a b](k:okP a=iB):∃p,b=iz p∧shB p=iB:=by
 cases a with
 |none=>cases k
 |some p=>exact⟨p,h.h p rfl,k⟩
theorem yBX{m:Int}(h:m∈[3,4,5,6,7,8,9,12]):okP (wD 2 m (m-1) 0)=iB:=by revert m;decide+kernel
theorem yBY{m:Int}(h:m∈[4,6,8,12]):okP (wD 2 m (m-1) (m.tdiv 2))=iB:=by revert m;decide+kernel
theorem yBZ:(okP (wD 3 7 2 0)&&okP (wD 4 5 2 0)&&okP (wD 2 8 3 0)&&okP (wD 2 8 5 0)&&okP (wD 4 4 3 0)&&okP (wD 3 9 4 0))=iB:=by decide+kernel
theorem aff:(okP (wL 3 [[2,0],[0,2]] 2)&&okP (wL 3 [[0,1],[2,0]] 4)&&okP (wL 2 [[0,1,0],[0,0,1],[1,1,0]] 7)&&okP (wL 2 [[1,1,0],[0,1,1],[0,0,1]] 4)&&okP (wL 2 [[0,1,0,0],[1,0,0,0],[0,0,0,1],[0,0,1,0]] 2)&&okP (wL 5 [[0,1],[4,4]] 3))=iB:=by decide+kernel
theorem cyc{n:Int}(h:n∈[1,4,6,8,9,12,5,7,27,25,36]):okP ((wW n).map (·.1))=iB:=by revert n;decide+kernel
theorem zTm:(Ji 10).all (fun k=>okP (zAo k))=iB:=by decide+kernel
end Go.Pl

namespace Go.Pl
open Go Go.Ab Go.Wk Go.Pc
def Ans{α:Type}(o:Option α)(P:α→Prop):Prop:=∃r,o=iz r∧P r
theorem Ans.rt{α:Type}{P:α→Prop}{r:α}(h:P r):Ans (iz r) P:=⟨r,rfl,h⟩
theorem Ans.bd{α β:Type}{P:α→Prop}{Q:β→Prop}{o:Option α}{f:α→Option β}(h:Ans o P)(k:∀r,P r→Ans (f r) Q):Ans (o.bind f) Q:=by obtain⟨r,h1,h2⟩:=h;rw[h1,bs];exact k r h2
theorem Ans.mp{α:Type}{P Q:α→Prop}{o:Option α}(h:Ans o P)(k:∀r,P r→Q r):Ans o Q:=by obtain⟨r,h1,h2⟩:=h;exact⟨r,h1,k r h2⟩
theorem Ans.cd{α:Type}{Q:α→Prop}{c:Bool}{a b:Option α}(h:c=iB→Ans a Q)(k:c=iC→Ans b Q):Ans (cond c a b) Q:=by
 cases c
 ·exact k rfl
 ·exact h rfl
theorem Ans.rg{β:Type}{Q:β→Prop}{n:Int}{f:Int→Option β}(h:-9223372036854775808≤n∧n≤9223372036854775807)(k:Ans (f n) Q):Ans ((rng n).bind f) Q:=by rw[zI h.1 h.2,bs];exact k
abbrev Ei{α β:Type}(P:α→Prop)(Q:β→Prop)(x:α⊕β):Prop:=match x with|.inl a=>P a|.inr b=>Q b
theorem Ans.lp{σ ρ:Type}{body:σ→Option (σ⊕ρ)}{Q:ρ→Prop}{s:σ}(I:Nat→σ→Prop)(n:Nat)(h0:I 0 s)
  (h:∀i s,i≤n→I i s→Ans (body s) (Ei (fun s'=>i<n∧I (i+1) s') Q)):Ans (zG body s) Q:=by
 refine uL I n (fun i s hi hs=>?_) (fun s hs=>?_) h0
 ·obtain⟨x,h1,h2⟩:=h i s (by omega) hs
  rcases x with s'|r
  ·exact .inl ⟨s',h1,h2.2⟩
  ·exact .inr ⟨r,h1,h2⟩
 ·obtain⟨x,h1,h2⟩:=h n s (by omega) hs
  rcases x with s'|r
  ·omega
  ·exact⟨r,h1,h2⟩
theorem Ans.jn{σ ρ:Type}{body:σ→Option (σ⊕ρ)}{Q:ρ→Prop}{s:σ}(h:Ans (body s) (Ei (fun _=>False) Q)):Ans (zG body s) Q:=by
 obtain⟨x,h1,h2⟩:=h;rcases x with s'|r
 ·exact h2.elim
 ·exact⟨r,by rw[yV,h1],h2⟩
structure Src (s:zF):Prop where
 b:∀i(h:i<s.code.length),0≤s.code[i]∧s.code[i]≤255
 l:s.code.length≤68719476736
 a:0≤s.at_∧s.at_≤s.code.length
 s:0≤s.seed∧s.seed<2147483647
theorem wr{n:Int}(h:0≤n∧n≤255):IntKind.wrap .i64 n=n:=zBX (by simp[inR];omega)
theorem zGX{m n:Int}(hn:0<n)(hm:0≤m):Ans (yP m n) fun r=>0≤r∧r<n:=by unfold yP;rw[if_neg (by omega)];exact .rt ⟨Int.tmod_nonneg _ hm,Ja3 _ hn⟩
theorem xM{s:zF}(hs:Src s){n:Int}(hn:n≤68719476736):Ans (f_i s n) fun r=>Src r.2∧0≤r.1∧(r.1<n∨n≤1∧r.1=0):=by
 have h1:=hs.s;have h2:=hs.a;have hl:=hs.l;unfold f_i;refine .cd (fun h=>.rt ⟨hs,by omega,.inr ⟨by simpa using h,rfl⟩⟩) fun h=>?_
 have hn:1<n:=by simpa using h
 refine .rg (by omega) (.rg (by omega) (.bd (zGX (by omega) (by omega)) fun v hv=>?_));have:xN v 47=iz (v.tdiv 47):=by
  have h3:=Qu hv.1 (show(0:Int)≤47 by omega);have h4:v.tdiv 47≤v:=by rw[Hz hv.1];omega
  unfold xN;rw[if_neg (by omega),zI (by omega) (by omega)]
 rw[this,bs];have h3:=Qu hv.1 (show(0:Int)≤47 by omega);have h4:v.tdiv 47≤v:=by rw[Hz hv.1];omega
 have key:∀{x:Int}{s':zF},0≤x→Src s'→Ans ((yP x n).bind fun v=>iz (v,s')) fun r=>Src r.2∧0≤r.1∧(r.1<n∨n≤1∧r.1=0):=fun hx gS=>
  .bd (zGX (by omega) hx) fun v hv=>.rt ⟨gS,hv.1,.inl hv.2⟩
 refine .cd (fun h=>?_) fun h=>?_
 ·have h:s.at_<s.code.length:=by simpa using h
  obtain⟨i,hi⟩:∃i:Nat,s.at_=i:=⟨s.at_.toNat,by omega⟩;have hb:=hs.b i (by omega);rw[hi,zAW (by omega),bs,wr hb];refine .rg (by omega) (.rg (by omega) ?_);have hS:Src (zF.mk s.code (i+1) v):=⟨hs.b,hs.l,by simp only;omega,hv⟩;refine .cd (fun h=>.bd (zGX (by omega) (by omega)) fun w hw=>.cd (fun h=>.rg (by omega) ?_) fun h=>key (by omega) hS) fun h=>key (by omega) hS
  rw[show((i:Int)+1-1)=i from by omega,zAW (by omega),bs,wr hb];exact key hb.1 hS
 ·exact key h3 ⟨hs.b,hs.l,hs.a,hv⟩
theorem zBE{s:zF}(hs:Src s){l:List Int}(h0:0<l.length)(hl:l.length≤1000):Ans (zFy s l) fun r=>Src r.2∧r.1∈l:=by
 unfold zFy;refine .bd (xM hs (by omega)) fun r hr=>?_
 obtain⟨i,hi⟩:∃i:Nat,r.1=i:=⟨r.1.toNat,by omega⟩;rw[hi,zAW (by omega),bs];exact .rt ⟨hr.1,K3 _⟩
theorem zWc{c:List Int}(hb:∀i(h:i<c.length),0≤c[i]∧c[i]≤255)(hl:c.length≤68719476736):Ans (zU8 c) Src:=by
 unfold zU8;refine .bd (P:=fun r=>0≤r∧r<2147483647) (.lp (fun i s=>s.2=i∧0≤s.1∧s.1<2147483647) 64 ⟨rfl,by simp,by simp⟩ fun i s hi hs=>?_) fun r hr=>.rt ⟨hb,hl,⟨Int.le_refl _,by simp only;omega⟩,hr⟩
 unfold zU7;refine .cd (fun h=>.cd (fun h'=>.rg (by omega) ?_) fun _=>.rt hs.2) fun _=>.rt hs.2
 simp only[decide_eq_true_eq]at h h';have:=hb i (by omega);rw[hs.1,zAW (by omega),bs,wr this];refine .rg (by omega) (.bd (zGX (by omega) (by omega)) fun v hv=>.rg (by omega) (.rt ⟨by omega,by simp only;omega,hv⟩))
end Go.Pl

namespace Go.Pl
open Go Go.Ab Go.Wk Go.Pc
theorem zYm{D k:Nat}(hk:k<D)(hD:D≤1000000):zI2 (D:Int) (k:Int)=iz (tF D k):=zAF hk hD
def trv(os:List Int):SPr:=⟨os,gl os.length fun _=>J1 os.length 0,gl os.length fun i=>gl (os.length-1-i) fun j=>tF os.length (i+1+j)⟩
theorem zAp{os:List Int}(h:os.length≤1000000):f_t os=iz (trv os):=by
 unfold f_t;rw[wQ h,bs];have gU:∀i:Nat,i<os.length→zG (zRa os) ([],((i+1:Nat):Int))=iz (gl (os.length-1-i) fun j=>tF os.length (i+1+j)):=fun i hi=>by
  refine zQ (fun j=>(gl j fun j=>tF os.length (i+1+j),((i+1+j:Nat):Int))) (os.length-1-i) (fun j hj=>?_) ?_
  ·unfold zRa
   simp only
   rw[yM (by omega),zK,zYm (by omega) h,bs,zY (by rw[xY];simp;omega),bs,zI (by omega) (by omega),bs,cs,kG];rfl
  ·unfold zRa
   simp only
   rw[show decide (((i+1+(os.length-1-i):Nat):Int)<os.length)=iC from by simp;omega,zL]
 have:=zQ (body:=zKB os) (r:=((trv os).zJ,(trv os).zB)) (fun i=>(gl i fun _=>J1 os.length 0,(gl i fun i=>gl (os.length-1-i) fun j=>tF os.length (i+1+j)),(i:Int))) os.length (fun i hi=>by
  unfold zKB;simp only
  rw[yM hi,zK,yX (by omega),bs,zY (by rw[xY];simp;omega),bs,zI (by omega) (by omega),bs,cs,gU i hi,bs,zY (by rw[xY];simp;omega),bs,bs,kG,kG (F:=fun i=>gl (os.length-1-i) fun j=>tF os.length (i+1+j))]) (by
  unfold zKB;simp only
  rw[qD,zL];rfl)
 rw[show zG (zKB os) ([],[],0)=iz ((trv os).zJ,(trv os).zB)from this,bs];rfl
structure ShF (p:SPr):Prop where
 n:p.zA.length≤6
 pl:p.zJ.length=p.zA.length
 pr:∀v∈p.zJ,v.length=p.zA.length
 cl:p.zB.length=p.zA.length
 c:∀i,i<p.zA.length→(p.zB.getD i []).length≤p.zA.length-1-i
 cr:∀i,i<p.zA.length→ ∀v∈p.zB.getD i [],v.length=p.zA.length
theorem shB.iff{p:SPr}(h:shB p=iB):ShF p:=by simp only[shB,J3,decide_eq_true_eq,beq_iff_eq,K4,Lf]at h;exact⟨h.1.1.1.1,h.1.1.1.2,h.1.1.2,h.1.2,fun i hi=>(h.2 i hi).1,fun i hi=>(h.2 i hi).2⟩
theorem okP.sh{a b:Option SPr}[h:LeC a b](k:okP a=iB):Ans b ShF:=by obtain⟨p,h1,h2⟩:=okP.of (b:=b) k;exact⟨p,h1,shB.iff h2⟩
theorem zZH{os:List Int}(h:os.length≤6):ShF (trv os):=by
 refine⟨h,xY,fun v hv=>?_,xY,fun i hi=>?_,fun i hi v hv=>?_⟩
 ·simp[trv,gl]at hv;rw[←hv.2];simp[trv]
 ·have hi:i<os.length:=hi
  simp[trv,gl,hi]
 ·have hi:i<os.length:=hi
  simp[trv,gl,hi]at hv;obtain⟨_,_,rfl⟩:=hv;exact yE _ _
structure ShC (N:Nat) (c:List (List (List Int))):Prop where
 l:c.length=N
 r:∀i,i<N→(c.getD i []).length=N-1-i
theorem ShC.set{N:Nat}{c:List (List (List Int))}(h:ShC N c){i j:Nat}(hi:i<N){v:List Int}:ShC N (c.set i ((c.getD i []).set j v)):=by
 refine⟨by rw[Ln,h.l],fun k hk=>?_⟩;have:=h.l
 by_cases e:k=i
 ·subst e;have:=h.r k hk;grind
 ·have:=h.r k hk;grind
theorem zWd{os:List Int}:ShC os.length (trv os).zB:=⟨xY,fun i hi=>by simp[trv,gl,hi]⟩
theorem zFw{a b:Nat}{v:List Int}(ha:a≤1000)(hb:b≤1000)(hv:v.length≤1000):zMH a v b=iz (J1 a 0++v++J1 b 0):=by unfold zMH;rw[yX (by omega),bs,zY (by simp;omega),bs];unfold yO;rw[if_pos (by simp;omega),bs];simp
theorem zE8{α:Type}{v:List α}{d:α}{i:Nat}(h:i<v.length):v.getD i d∈v:=by grind
theorem zWe{a b:SPr}(ha:ShF a)(hb:ShF b):Ans (f_G a b) fun p=>p.zA.length≤12:=by
 have h1:=ha.n;have h2:=hb.n;unfold f_G;rw[wQ (by omega),bs,zY (by omega),bs,zAp (by rw[Ja];omega),bs]
 generalize hN:(a.zA++b.zA).length=N
 have hN':N=a.zA.length+b.zA.length:=by rw[←hN,Ja]
 have hC:ShC N (trv (a.zA++b.zA)).zB:=hN▸zWd;have hP:(trv (a.zA++b.zA)).zJ.length=N:=hN▸xY;refine .bd (P:=fun r=>r.1.length=N∧ShC N r.2) (.lp (fun i s=>s.2.2=i∧i≤a.zA.length∧s.1.length=N∧ShC N s.2.1) a.zA.length ⟨rfl,by omega,hP,hC⟩ fun i s hi hs=>?_) fun r hr=>?_
 ·obtain⟨e,_,cy,pf⟩:=hs
  unfold zXe;rw[e];refine .cd (fun h=>?_) fun h=>.rt ⟨cy,pf⟩
  simp only[decide_eq_true_eq]at h;have hv:=ha.pr (a.zJ.getD i []) (zE8 (by have:=ha.pl;omega));rw[zX [] (by have:=ha.pl;omega),bs,show(0:Int)=((0:Nat):Int)from rfl,zFw (by omega) (by omega) (by omega),bs,zX [] (by omega),bs];have ia:=ha.c i (by omega);refine .bd (P:=ShC N) (.lp (fun j t=>t.2=j∧ShC N t.1) (a.zB.getD i []).length ⟨rfl,pf⟩ fun j t hj ht=>?_) fun c hc=>.rg (by omega) (.rt ⟨by omega,by simp only;omega,by omega,by simp only[Ln];omega,hc⟩)
  unfold zXd;rw[e,ht.1,zX [] (by have:=ha.cl;omega),bs];refine .cd (fun h=>?_) fun h=>.rt ht.2
  simp only[decide_eq_true_eq]at h;have hv:=ha.cr i (by omega) ((a.zB.getD i []).getD j []) (zE8 (by omega));have hr:=ht.2.r i (by omega);rw[zX [] (by have:=ht.2.l;omega),bs,bs,zX [] (by omega),bs,show(0:Int)=((0:Nat):Int)from rfl,zFw (by omega) (by omega) (by omega),bs,zX [] (by omega),bs];exact .rg (by omega) (.rt ⟨by omega,by simp only;omega,ht.2.set (by omega)⟩)
 refine .bd (P:=fun r=>True) (.lp (fun i s=>s.2.2=i∧i≤b.zA.length∧s.1.length=N∧ShC N s.2.1) b.zA.length ⟨rfl,by omega,hr⟩ fun i s hi hs=>?_) fun r hr=>.rt (show(trv _).zA.length≤12 by simp only[trv];omega)
 obtain⟨e,_,cy,pf⟩:=hs;unfold zXg;rw[e];refine .cd (fun h=>.rg (by omega) ?_) fun h=>.rt trivial
 simp only[decide_eq_true_eq]at h;have hv:=hb.pr (b.zJ.getD i []) (zE8 (by have:=hb.pl;omega));rw[zX [] (by have:=hb.pl;omega),bs,show(0:Int)=((0:Nat):Int)from rfl,zFw (by omega) (by omega) (by omega),bs,show(a.zA.length:Int)+(i:Int)=((a.zA.length+i:Nat):Int)from by omega,zX [] (by omega),bs];have ia:=hb.c i (by omega);refine .bd (P:=ShC N) (.lp (fun j t=>t.2=j∧ShC N t.1) (b.zB.getD i []).length ⟨rfl,pf⟩ fun j t hj ht=>?_) fun c hc=>.rg (by omega) (.rt ⟨by omega,by simp only;omega,by omega,by simp only[Ln];omega,hc⟩)
 unfold zXf;rw[e,ht.1,zX [] (by have:=hb.cl;omega),bs];refine .cd (fun h=>.rg (by omega) ?_) fun h=>.rt ht.2
 simp only[decide_eq_true_eq]at h;have hv:=hb.cr i (by omega) ((b.zB.getD i []).getD j []) (zE8 (by omega));have hr:=ht.2.r (a.zA.length+i) (by omega);rw[show(a.zA.length:Int)+(i:Int)=((a.zA.length+i:Nat):Int)from by omega,zX [] (by have:=ht.2.l;omega),bs,bs,zX [] (by omega),bs,show(0:Int)=((0:Nat):Int)from rfl,zFw (by omega) (by omega) (by omega),bs,zX [] (by omega),bs];exact .rg (by omega) (.rt ⟨by omega,by simp only;omega,ht.2.set (by omega)⟩)
theorem zWf{s:zF}(hs:Src s){p:Int}(hp:p≤1000):Ans (zWO s p) fun r=>ShF r.1∧Src r.2:=by
 unfold zWO;rw[zAp (by simp),bs];have e:trv [p,p,p]=⟨[p,p,p],[[0,0,0],[0,0,0],[0,0,0]],[[[0,1,0],[0,0,1]],[[0,0,1]],[]]⟩:=rfl;rw[e];have key:∀{x y:List Int}{t:zF},x.length=3→y.length=3→Src t→Ans (iz ((SPr.mk [p,p,p] [x,y,[0,0,0]] [[[0,1,1],[0,0,1]],[[0,0,1]],[]]),t)) fun r=>ShF r.1∧Src r.2:=fun hx hy ht=>.rt ⟨shB.iff (by simp[shB,hx,hy,Kv]),ht⟩
 rw[show ixO (SPr.mk [p,p,p] [[0,0,0],[0,0,0],[0,0,0]] [[[0,1,0],[0,0,1]],[[0,0,1]],[]]).zB 0=iz [[0,1,0],[0,0,1]]from rfl,bs,show ixO [[(0:Int),1,0],[0,0,1]] 0=iz [0,1,0]from rfl,bs];refine .bd (xM hs (by omega)) fun r hr=>.cd (fun _=>.bd (xM hr.1 (by omega)) fun r1 gK=>?_) fun _=>key rfl rfl hr.1
 rw[show ixO (SPr.mk [p,p,p] [[0,0,0],[0,0,0],[0,0,0]] [[[0,1,0],[0,0,1]],[[0,0,1]],[]]).zJ 0=iz [0,0,0]from rfl,bs];refine .bd (xM gK.1 (by omega)) fun r2 gE=>?_
 rw[show ixO ((SPr.mk [p,p,p] [[0,0,0],[0,0,0],[0,0,0]] [[[0,1,0],[0,0,1]],[[0,0,1]],[]]).zJ.set (0:Int).toNat [0,0,r1.1]) 1=iz [0,0,0]from rfl,bs];exact key rfl rfl gE.1
theorem zJ9{s:zF}(hs:Src s):Ans (zUQ s) fun r=>ShF r.1∧Src r.2:=by
 have pair:∀{o:Option SPr}{t:zF},Ans o ShF→Src t→Ans (o.bind fun p=>iz (p,t)) fun r=>ShF r.1∧Src r.2:=fun h ht=>.bd h fun p hp=>.rt ⟨hp,ht⟩
 unfold zUQ;refine .bd (xM hs (by omega)) fun r hr=>.cd (fun _=>.bd (xM hr.1 (by omega)) fun r2 gE=>?_) fun _=>.cd (fun _=>.bd (zBE hr.1 (by simp) (by simp)) fun r2 gE=>?_) fun _=>.cd (fun _=>.bd (zBE hr.1 (by simp) (by simp)) fun r2 gE=>?_) fun _=>
  .cd (fun _=>.bd (zBE hr.1 (by simp) (by simp)) fun r2 gE=>?_) fun _=>.cd (fun _=>.bd (xM hr.1 (by omega)) fun r2 gE=>?_) fun _=>.cd (fun _=>.bd (zBE hr.1 (by simp) (by simp)) fun r2 gE=>?_) fun _=>.cd (fun _=>.bd (xM hr.1 (by omega)) fun r2 gE=>?_) fun _=>.bd (xM hr.1 (by omega)) fun r2 gE=>?_
 ·refine .bd (P:=fun t=>Src ⟨t.1,t.2.1,t.2.2.1⟩∧t.2.2.2.length≤5) (.lp (fun i t=>t.2.2.2.2=r2.1-i∧Src ⟨t.1,t.2.1,t.2.2.1⟩∧t.2.2.2.1.length=i) r2.1.toNat ⟨by simp,gE.1,rfl⟩ fun i t hi ht=>?_) fun t ht=>pair ⟨_,zAp (by omega),zZH (by omega)⟩ ht.1
  unfold zUP;refine .cd (fun h=>.bd (zBE ht.2.1 (by simp) (by simp)) fun r3 ex=>?_) fun h=>.rt ⟨ht.2.1,by simp only;omega⟩
  simp only[decide_eq_true_eq]at h;rw[zY (by simp;omega),bs];exact .rg (by omega) (.rt ⟨by omega,by simp only;omega,ex.1,by simp[ht.2.2]⟩)
 ·refine .bd (P:=fun t=>ShF t.1) ?_ fun t ht=>.rt ⟨ht,gE.1⟩
  have h:=cyc gE.2;cases e:wW r2.1 with
  |none=>rw[e]at h;cases h
  |some x=>exact⟨x,(m_f_spec_CyclicPresentation _).h x e,shB.iff (by rw[e]at h;exact h)⟩
 ·have:r2.1≤12∧3≤r2.1:=by have:=gE.2;simp at this;omega
  exact .rg (by omega) (pair (okP.sh (yBX gE.2)) gE.1)
 ·have:r2.1≤12∧3≤r2.1:=by have:=gE.2;simp at this;omega
  have e:xN r2.1 2=iz (r2.1.tdiv 2):=by have:=Hz (show 0≤r2.1 by omega) (b:=2);unfold xN;rw[if_neg (by omega),zI (by omega) (by omega)]
  refine .rg (by omega) ?_;rw[e,bs];exact pair (okP.sh (yBY gE.2)) gE.1
 ·have h:=yBZ
  simp only[J3]at h;obtain⟨⟨⟨⟨⟨h1,h2⟩,h3⟩,h4⟩,h5⟩,h6⟩:=h;exact .cd (fun _=>pair (okP.sh h1) gE.1) fun _=>.cd (fun _=>pair (okP.sh h2) gE.1) fun _=>.cd (fun _=>pair (okP.sh h3) gE.1) fun _=>.cd (fun _=>pair (okP.sh h4) gE.1) fun _=>.cd (fun _=>pair (okP.sh h5) gE.1) fun _=>pair (okP.sh h6) gE.1
 ·have:r2.1≤5:=by have:=gE.2;simp at this;omega
  exact .bd (zWf gE.1 (by omega)) fun r hr=>.rt hr
 ·have h:=aff
  simp only[J3]at h;obtain⟨⟨⟨⟨⟨h1,h2⟩,h3⟩,h4⟩,h5⟩,h6⟩:=h;exact .cd (fun _=>pair (okP.sh h1) gE.1) fun _=>.cd (fun _=>pair (okP.sh h2) gE.1) fun _=>.cd (fun _=>pair (okP.sh h3) gE.1) fun _=>.cd (fun _=>pair (okP.sh h4) gE.1) fun _=>.cd (fun _=>pair (okP.sh h5) gE.1) fun _=>pair (okP.sh h6) gE.1
 ·have h:=zTm
  rw[K4]at h;have:=h r2.1.toNat (Lf.2 (by omega));rw[show((r2.1.toNat:Nat):Int)=r2.1 from by omega]at this;exact pair (okP.sh this) gE.1
theorem zMk{s:zF}(hs:Src s){n:Int}:Ans (zUS s n) fun r=>qJ r.1∧Src r.2:=by
 unfold zUS;refine .bd (P:=Ei (fun t=>Src ⟨t.1,t.2.1,t.2.2⟩) fun r=>qJ r.1∧Src r.2) (.lp (fun i t=>t.2.2.2=i∧Src ⟨t.1,t.2.1,t.2.2.1⟩) 12 ⟨rfl,hs⟩ fun i t hi ht=>?_) fun x hx=>?_
 ·unfold zUR
  refine .cd (fun h=>?_) fun h=>.rt ht.2
  simp only[decide_eq_true_eq]at h;have key:∀{p:SPr}{t':zF},p.zA.length≤12→Src t'→Ans ((f_m p).bind fun r5=>
   cond r5 (
    (f_Q p.zA).bind fun r6=>
    cond (decide (r6≤n)) (
     iz (.inr (.inr (p,t')))) (
     (rng (t.2.2.2+1)).bind fun v7=>
     iz (.inl (t'.code,t'.at_,t'.seed,v7)))) (
    (rng (t.2.2.2+1)).bind fun v8=>
    iz (.inl (t'.code,t'.at_,t'.seed,v8)))) (Ei (fun s':(List Int)×Int×Int×Int=>i<12∧s'.2.2.2=((i+1:Nat):Int)∧Src ⟨s'.1,s'.2.1,s'.2.2.1⟩) (Ei (fun t:(List Int)×Int×Int=>Src ⟨t.1,t.2.1,t.2.2⟩) fun r:SPr×zF=>qJ r.1∧Src r.2)):=fun{p t'} hp cv=>by
   rcases uW (x:=p) (by omega)with⟨h1,h2⟩|⟨h1,h2⟩
   ·rw[h1,bs,zK,zEV h2.os,bs]
    refine .cd (fun _=>.rt ⟨h2,cv⟩) fun _=>.rg (by omega) (.rt ⟨by omega,by simp only;omega,cv⟩)
   ·rw[h1,bs,zL]
    exact .rg (by omega) (.rt ⟨by omega,by simp only;omega,cv⟩)
  refine .bd (zJ9 ht.2) fun r1 gK=>.bd (xM gK.2 (by omega)) fun r2 gE=>.cd (fun _=>.bd (zJ9 gE.1) fun r3 ex=>.bd (zWe gK.1 ex.1) fun r4 bW=>key bW ex.2) fun _=>key (p:=r1.1) (by have:=gK.1.n;omega) gE.1
 ·rcases x with t|r
  ·dsimp only
   rw[zAp (by simp),bs];refine .rt ⟨?_,hx⟩;rcases uW (x:=trv [2]) (by simp[trv])with⟨h1,h2⟩|⟨h1,h2⟩
   ·exact h2
   ·have:=(m_f_spec_IsPresentation (trv [2])).h iB (by decide+kernel)
    rw[this]at h1;cases h1
  ·exact .rt hx
end Go.Pl

namespace Go.Pl
open Go Go.Ab Go.Wk Go.Pc
theorem zYn{D:Nat}(hD:D≤1000):f_x (D:Int)=iz (idM D):=by
 unfold f_x;rw[tE (body:=zI3 (D:Int)) D (fun i=>mkv D fun j=>if j=i then 1 else 0) (fun i acc hi ha=>by
  unfold zI3;simp only
  rw[yM hi,zK,yX (by omega),bs,vY,K7,if_pos hi,bs,J6,uO,kE,zY (by grind),bs,zI (by omega) (by omega),bs];rfl) (fun acc=>by
  unfold zI3;simp),bs]
 rfl
theorem zYo{x:SPr}{q:Int}{D:Nat}(h6:x.zA.length≤1000)(hD:D≤1000):zU6 x q (D:Int)=iz ⟨q,D,gl x.zA.length fun _=>idM D⟩:=by
 unfold zU6;rw[tE (body:=zJI x (D:Int)) x.zA.length (fun _=>idM D) (fun i acc hi ha=>by
  unfold zJI;simp only
  rw[yM hi,zK,zYn hD,bs,zY (by grind),bs,zI (by omega) (by omega),bs];rfl) (fun acc=>by
  unfold zJI;simp),bs]
theorem zDy{α:Type}{v:List α}{a b:Nat}(h:a≤b)(k:b≤v.length):zO v (a:Int) (b:Int)=iz ((v.drop a).take (b-a)):=by unfold zO;exact if_pos (by omega)
structure DrP (p:SPr):Prop where
 n:p.zA.length≤7
 o:∀o∈p.zA,-100≤o∧o≤100
structure DrM (m:zC):Prop where
 p:-100≤m.Prime∧m.Prime≤100
 d:1≤m.Dim∧m.Dim≤4
 l:m.zE.length≤100
structure DrE (m:zC):Prop where
 p:-100≤m.Prime∧m.Prime≤100
 d:1≤m.Dim∧m.Dim≤3
 l:m.zE.length≤20
 a:∀A∈m.zE,(A.getD 0 []).length≠0
theorem qJ.drp{p:SPr}(h:qJ p):DrP p:=⟨by have:=h.n6;omega,fun o ho=>by obtain⟨i,hi,rfl⟩:=Jt.1 ho;have:=(h.os.2 i hi).pos;rw[at0,J2,J5 hi]at this;simp at this;omega⟩
section
variable {x:SPr} (h:Pres x)
 include h
theorem zE9{i:Nat}(hi:i<x.zA.length):(x.zJ.getD i []).length=x.zA.length:=(h.tl i hi).1.1.1
theorem zGb{i:Nat}(hi:i<x.zA.length):(x.zB.getD i []).length+i+1=x.zA.length:=(h.tl i hi).2.1
theorem zGc{i j:Nat}(hi:i<x.zA.length)(hj:j+i+1<x.zA.length):((x.zB.getD i []).getD j []).length=x.zA.length:=((h.tl i hi).2.2 j (by have:=(h.tl i hi).2.1;omega)).1.1
theorem zTn{β:Type}{Q:β→Prop}{i j:Nat}{f:List Int→Option β}(hi:i<j)(hj:j<x.zA.length)(k:∀v,v.length=x.zA.length→Ans (f v) Q):
  Ans ((ixO x.zB (i:Int)).bind fun v1=>(rng ((j:Int)-(i:Int))).bind fun v2=>(rng (v2-1)).bind fun v3=>(ixO v1 v3).bind f) Q:=by
 have h6:=h.os.1;rw[zX [] (by have:=h.cl;omega),bs];refine .rg (by omega) (.rg (by omega) ?_);rw[show(j:Int)-(i:Int)-1=((j-i-1:Nat):Int)from by omega,zX [] (by have:=zGb h (show i<x.zA.length by omega);omega),bs];exact k _ (zGc h (by omega) (by omega))
theorem zJA{k:Nat}(hk:k≤x.zA.length):Ans (zUV x k) fun _=>True:=by
 have h6:=h.os.1;unfold zUV;refine .bd (P:=fun _=>True) (.lp (fun i s=>s=i) k rfl fun i s hi hs=>?_) fun r _=>by rcases r with _|_<;>exact .rt trivial
 unfold zUU;refine .cd (fun hl=>?_) fun _=>.rt trivial
 simp only[decide_eq_true_eq]at hl;subst hs;refine .bd (P:=fun _=>True) (.lp (fun j t=>t=((k+j:Nat):Int)) (x.zA.length-k) rfl fun j t hj ht=>?_) fun r _=>by
  rcases r with _|_
  ·exact .rg (by omega) (.rt ⟨by omega,by omega⟩)
  ·exact .rt trivial
 unfold zUT;refine .cd (fun hl=>?_) fun _=>.rt trivial
 simp only[decide_eq_true_eq]at hl;subst ht;refine zTn h (by omega) (by omega) fun v hv=>?_
 rw[show(0:Int)=((0:Nat):Int)from rfl,zDy (by omega) (by omega),bs];rcases kY (v:=(v.drop 0).take (k-0)) (by grind)with⟨e,_⟩|⟨e,_⟩
 ·rw[e,bs,J7,zL];exact .rg (by omega) (.rt ⟨by omega,by omega⟩)
 ·rw[e,bs,Kc,zK];exact .rt trivial
theorem zWg(hx:qJ x){k:Nat}(hk:k≤x.zA.length):Ans (zXh x k) fun r=>DrP r.1:=by
 have h6:=h.os.1;have emp:∀{c:Int},Ans (iz (SPr.mk [] [] [],c)) fun r=>DrP r.1:=.rt ⟨by simp,by simp⟩
 unfold zXh yAd;refine .bd (P:=fun _=>True) (.bd (P:=fun _=>True) ?_ fun r _=>.cd (fun _=>.rt trivial) fun _=>?_) fun r _=>.cd (fun _=>emp) fun _=>.bd (zJA h hk) fun r _=>.cd (fun _=>emp) fun _=>?_
 ·rcases zHO (x:=x) (by omega)with⟨e,_⟩|⟨e,_⟩<;>exact⟨_,e,trivial⟩
 ·rcases zB6 k 0 x.zA.length with⟨e,_⟩|⟨e,_⟩
  ·rw[e,bs];exact .rt trivial
  ·rw[e,bs];exact .rt trivial
 rw[show(0:Int)=((0:Nat):Int)from rfl,zDy (by omega) (by omega),bs,wQ (by grind),bs];refine .bd (P:=fun _=>True) (.lp (fun i s=>s.2.2=i∧s.1.length=i∧s.2.1.length=i) k ⟨rfl,rfl,rfl⟩ fun i s hi hs=>?_) fun r _=>.rt ⟨by have:=hx.n6;simp only;grind,fun o ho=>hx.drp.o o (by grind)⟩
 unfold zPO;refine .cd (fun hl=>?_) fun _=>.rt trivial
 simp only[decide_eq_true_eq]at hl;have:=zE9 h (show i<x.zA.length by omega);rw[hs.1,zX [] (by have:=h.pl;omega),bs,show(0:Int)=((0:Nat):Int)from rfl,zDy (by omega) (by omega),bs,wQ (by grind),bs,zY (by simp;omega),bs];refine .bd (P:=fun _=>True) (.lp (fun j t=>t.2=j∧t.1.length=j) (k-1-i) ⟨rfl,rfl⟩ fun j t hj ht=>?_) fun r _=>?_
 ·unfold zUW
  rw[hs.1,ht.1];refine .rg (by omega) (.rg (by omega) (.cd (fun hl=>?_) fun _=>.rt trivial));simp only[decide_eq_true_eq]at hl;have hc:=zGb h (show i<x.zA.length by omega);have hr:=zGc h (show i<x.zA.length by omega) (show j+i+1<x.zA.length by omega);rw[zX [] (by have:=h.cl;omega),bs,zX [] (by omega),bs,show(0:Int)=((0:Nat):Int)from rfl,zDy (by omega) (by omega),bs,wQ (by grind),bs,zY (by simp;omega),bs];exact .rg (by omega) (.rt ⟨by omega,by simp only;omega,by simp[ht.2]⟩)
 ·rw[zY (by simp;omega),bs]
  exact .rg (by omega) (.rt ⟨by omega,by simp only;omega,by simp[hs.2.1],by simp[hs.2.2]⟩)
theorem zZI{i:Nat}(hi:i<x.zA.length):Ans (zG (zUX x i) ([],0)) fun r=>r.length≤20∧ ∀A∈r,(A.getD 0 []).length≠0:=by
 have h6:=h.os.1;refine .mp (.lp (Q:=fun r=>r.length≤i∧ ∀A∈r,(A.getD 0 []).length≠0) (fun q s=>s.2=q∧s.1.length=q∧q≤i∧ ∀A∈s.1,(A.getD 0 []).length≠0) i ⟨rfl,rfl,by omega,by simp⟩ fun q s hq hs=>?_) fun r hr=>⟨by omega,hr.2⟩
 unfold zUX;refine .cd (fun hl=>?_) fun _=>.rt ⟨by omega,hs.2.2.2⟩
 simp only[decide_eq_true_eq]at hl;refine .bd (P:=fun A=>(A.getD 0 []).length≠0) (.lp (fun j t=>t.2=((i+j:Nat):Int)∧t.1.length=j∧ ∀v∈t.1,v.length≠0) (x.zA.length-i) ⟨rfl,rfl,by simp⟩ fun j t hj ht=>?_) fun A hA=>?_
 ·unfold yAf
  rw[ht.1,hs.1];refine .cd (fun hl=>?_) fun hl=>.rt ?_
  ·simp only[decide_eq_true_eq]at hl
   refine zTn h (by omega) (by omega) fun v hv=>?_
   rw[zDy (by omega) (by omega),bs,wQ (by grind),bs,zY (by simp;omega),bs];exact .rg (by omega) (.rt ⟨by omega,by simp only;omega,by simp[ht.2.1],by grind⟩)
  ·simp only[decide_eq_false_iff_not]at hl
   exact ht.2.2 _ (zE8 (by omega))
 ·rw[zY (by simp;omega),bs]
  exact .rg (by omega) (.rt ⟨by omega,by simp only;omega,by simp[hs.2.1],by omega,by grind⟩)
end
end Go.Pl

namespace Go.Pl
open Go Go.Ab Go.Wk Go.Pc
theorem zTo{s:zF}{x:SPr}(hs:Src s)(hx:qJ x):Ans (f_j s x) fun r=>Src r.2.2.2∧(r.2.2.1=iB→DrP r.1∧DrE r.2.1):=by
 have h6:=hx.n6;have h:=hx.toPres;unfold f_j;have all:∀{i:Nat}{b:Bool},i<x.zA.length→Ans (zG (zXk x i) (b,(i:Int))) fun _=>True:=fun{i b} hi=>by
  refine .lp (fun q t=>t.2=((i+q:Nat):Int)) (x.zA.length-i) rfl fun q t hq ht=>?_
  unfold zXk;rw[ht];refine .cd (fun hl=>?_) fun _=>.rt trivial
  simp only[decide_eq_true_eq]at hl;refine .bd (P:=fun _=>True) (.jn ?_) fun b _=>.rg (by omega) (.bd (P:=fun _=>True) ?_ fun _ _=>.rg (by omega) (.rt ⟨by omega,by simp only;omega⟩))
  ·unfold zXj
   rw[ht];refine .cd (fun _=>?_) fun _=>.rt trivial
   rw[yH (by omega),bs,yH hi,bs];refine .cd (fun _=>?_) fun _=>.rt trivial
   rw[zX [] (by have:=h.pl;omega),bs];rcases kY (v:=x.zJ.getD (i+q) []) (by have:=zE9 h (show i+q<x.zA.length by omega);omega)with⟨e,_⟩|⟨e,_⟩<;>(rw[e,bs];exact .rt trivial)
  ·refine .lp (fun q' t=>t.2=((i+q+1+q':Nat):Int)) (x.zA.length-(i+q+1)) rfl fun q' t' hq' cv=>?_
   unfold yAe;rw[cv,ht];refine .cd (fun hl=>?_) fun _=>.rt trivial
   simp only[decide_eq_true_eq]at hl;refine .cd (fun _=>zTn h (by omega) (by omega) fun v hv=>?_) fun _=>.rg (by omega) (.rt ⟨by omega,by simp only;omega⟩)
   rw[zYm (by omega) (by omega),bs,zFO (by omega),bs];exact .rg (by omega) (.rt ⟨by omega,by simp only;omega⟩)
 refine .bd (P:=Ei (fun t=>Src ⟨t.1,t.2.1,t.2.2⟩) fun r=>Src r.2.2.2∧(r.2.2.1=iB→DrP r.1∧DrE r.2.1)) (.lp (fun q t=>t.2.2.2=((1+q:Nat):Int)∧Src ⟨t.1,t.2.1,t.2.2.1⟩) 3 ⟨rfl,hs⟩ fun q t hq ht=>?_) fun y hy=>?_
 ·unfold yAg
  refine .bd (P:=fun b=>b=iB→1+q<x.zA.length∧q<3) (.jn ?_) fun b hb=>.cd (fun e=>?_) fun _=>.rt ht.2
  ·unfold zXi
   rw[ht.1];refine .cd (fun hl=>.rt fun e=>?_) fun _=>.rt fun e=>by cases e
   simp only[decide_eq_true_eq]at hl e;omega
  obtain⟨hl,hq3⟩:=hb e;rw[ht.1];refine .rg (by omega) ?_;rw[show(x.zA.length:Int)-((1+q:Nat):Int)=((x.zA.length-(1+q):Nat):Int)from by omega]
  generalize hi:x.zA.length-(1+q)=i
  refine .bd (zJA h (by omega)) fun b _=>.bd (all (by omega)) fun b _=>.bd (P:=fun r=>Src ⟨r.1,r.2.1,r.2.2.1⟩) (.jn ?_) fun u hu=>.cd (fun _=>?_) fun _=>.rg (by omega) (.rt ⟨by omega,by simp only;omega,hu⟩)
  ·unfold zXl
   exact .cd (fun _=>.cd (fun _=>.rt ht.2) fun _=>.bd (xM ht.2 (by omega)) fun r hr=>.cd (fun _=>.rt hr.1) fun _=>.rg (by omega) (.rt hr.1)) fun _=>.rt ht.2
  refine .bd (zWg h hx (by omega)) fun r hr=>?_
  rw[yH (by omega),bs];refine .bd (zZI h (by omega)) fun A hA=>.rt ⟨hu,fun _=>⟨hr,?_,⟨by simp only;omega,by simp only;omega⟩,hA.1,hA.2⟩⟩
  have:=(h.os.2 i (by omega)).pos;exact⟨by simp only;omega,by simp only;omega⟩
 ·rcases y with t|r
  ·exact .rt ⟨hy,fun e=>by cases e⟩
  ·exact .rt hy
structure AL (n D:Nat) (c:List (List (List Int))):Prop where
 l:c.length=n
 d:∀i,i<n→(c.getD i []).length=D∧ ∀j,j<D→((c.getD i []).getD j []).length=D
theorem AL.set{n D:Nat}{c:List (List (List Int))}(h:AL n D c){i j k:Nat}{z:Int}(hi:i<n)(hj:j<D):AL n D (c.set i ((c.getD i []).set j (((c.getD i []).getD j []).set k z))):=by
 have hn:=h.l;refine⟨by rw[Ln,hn],fun q hq=>?_⟩
 by_cases e:q=i
 ·subst e
  have:=h.d q hq;rw[show(c.set q ((c.getD q []).set j (((c.getD q []).getD j []).set k z))).getD q []=(c.getD q []).set j (((c.getD q []).getD j []).set k z)from by grind];refine⟨by rw[Ln,this.1],fun w hw=>?_⟩
  by_cases e:w=j
  ·subst e;have:=this.2 w hw;grind
  ·have:=this.2 w hw;grind
 ·have:=h.d q hq;grind
theorem zTp{n D:Nat}:AL n D (gl n fun _=>idM D):=⟨xY,fun i hi=>by rw[show(gl n fun _=>idM D).getD i []=idM D from by simp[gl,hi]];exact⟨by simp[idM],fun j hj=>by simp[idM,hj,mkv]⟩⟩
theorem AL.dre{n D:Nat}{q:Int}{c:List (List (List Int))}(h:AL n D c)(hn:n≤7)(h1:1≤D)(h3:D≤3)(hq:-100≤q∧q≤100):DrE ⟨q,D,c⟩:=⟨hq,⟨by simp only;omega,by simp only;omega⟩,by have:=h.l;simp only;omega,fun A hA=>by
 obtain⟨i,hi,rfl⟩:=Jt.1 hA;have:=(h.d i (by rw[←h.l];exact hi)).2 0 (by omega);rw[show c.getD i []=c[i]from by grind]at this;exact fun e=>by have e:(c[i].getD 0 []).length=0:=e;omega⟩
end Go.Pl

namespace Go.Pl
open Go Go.Ab Go.Wk Go.Pc
section
variable {x:SPr}{D:Nat}
theorem zWh{r6:(List Int)×Int×Int×Int}{d r:Int×zF}{m:zC}{i:Nat}{n:Nat}(hm:m.Dim=(D:Int))(hi:r.1=(i:Int))(gU:i<n)(hq:-100≤r6.2.2.2∧r6.2.2.2≤100)(hD:D≤3)(hs:Src r.2)(ha:AL n D m.zE):
  Ans (zG (zXq r6 m r) (r.2.code,r.2.at_,r.2.seed,m.zE,0)) fun t=>Src ⟨t.1,t.2.1,t.2.2.1⟩∧AL n D t.2.2.2:=by
 have _:=d;refine .lp (fun k t=>t.2.2.2.2=k∧Src ⟨t.1,t.2.1,t.2.2.1⟩∧AL n D t.2.2.2.1) D ⟨rfl,hs,ha⟩ fun k t hk ht=>?_
 unfold zXq;rw[ht.1,hi];refine .cd (fun hl=>?_) fun _=>.rt ht.2
 simp only[decide_eq_true_eq,hm]at hl;have h1:=ht.2.2.d i gU;have h2:=h1.2 k (by omega);rw[zX [] (by have:=ht.2.2.l;omega),bs,zX [] (by omega),bs];refine .rg (by omega) (.bd (xM ht.2.1 (by omega)) fun r1 gK=>.rg (by omega) ?_);rw[yH (by omega),bs];have aw:AL n D (t.2.2.2.1.set (i:Int).toNat ((t.2.2.2.1.getD i []).set (k:Int).toNat (((t.2.2.2.1.getD i []).getD k []).set (k:Int).toNat (1+r1.1)))):=ht.2.2.set gU (by omega)
 generalize t.2.2.2.1.set (i:Int).toNat ((t.2.2.2.1.getD i []).set (k:Int).toNat (((t.2.2.2.1.getD i []).getD k []).set (k:Int).toNat (1+r1.1)))=c at aw ⊢
 refine .bd (P:=fun u=>Src ⟨u.1,u.2.1,u.2.2.1⟩∧(u.2.2.2=iB→0<k)) (.jn ?_) fun u hu=>.cd (fun eD=>?_) fun _=>.rg (by omega) (.rt ⟨by omega,by simp only;omega,hu.1,aw⟩)
 ·unfold zXp
  rw[ht.1];refine .cd (fun eD=>.bd (xM gK.1 (by omega)) fun r2 gE=>.rt ⟨gE.1,fun _=>?_⟩) fun _=>.rt ⟨gK.1,fun e=>by cases e⟩
  simp only[decide_eq_true_eq]at eD;omega
 have eD:=hu.2 eD;have h3:=aw.d i gU;have h4:=h3.2 k (by omega);rw[zX [] (by have:=aw.l;omega),bs,zX [] (by omega),bs];refine .rg (by omega) (.bd (xM hu.1 (by omega)) fun r3 ex=>?_);rw[show(k:Int)-1=((k-1:Nat):Int)from by omega,yH (by omega),bs];exact .rg (by omega) (.rt ⟨by omega,by simp only;omega,ex.1,aw.set gU (by omega)⟩)
theorem zTq{r6:(List Int)×Int×Int×Int}{s:zF}{m:zC}(hx:qJ x)(hq:-100≤r6.2.2.2∧r6.2.2.2≤100)(hs:Src s)(hm:DrE m):Ans ((zG (zXr x r6) (s.code,s.at_,s.seed,m.Prime,m.Dim,m.zE,0)).bind fun r33=>
     match r33 with
     |(.inl r33)=>
      iz ((zC.mk r33.2.2.2.1 r33.2.2.2.2.1 r33.2.2.2.2.2),(zF.mk r33.1 r33.2.1 r33.2.2.1))
     |(.inr r33)=>
      iz r33) fun r=>Src r.2∧DrE r.1:=by
 refine .bd (P:=Ei (fun t=>Src ⟨t.1,t.2.1,t.2.2.1⟩∧DrE ⟨t.2.2.2.1,t.2.2.2.2.1,t.2.2.2.2.2⟩) fun r=>Src r.2∧DrE r.1) (.lp (fun i t=>t.2.2.2.2.2.2=i∧Src ⟨t.1,t.2.1,t.2.2.1⟩∧DrE ⟨t.2.2.2.1,t.2.2.2.2.1,t.2.2.2.2.2.1⟩) 8 ⟨rfl,hs,hm⟩ fun i t hi ht=>?_) fun y hy=>?_
 ·unfold zXr
  refine .cd (fun hl=>.bd (xM ht.2.1 (by omega)) fun r1 gK=>.rg (by omega) ?_) fun _=>.rt ht.2
  simp only[decide_eq_true_eq]at hl;have h6:=hx.n6;obtain⟨D,hD⟩:∃D:Nat,1+r1.1=(D:Int):=⟨(1+r1.1).toNat,by omega⟩;rw[hD,zYo (by omega) (by omega),bs];refine .bd (xM gK.1 (by omega)) fun r2 gE=>.cd (fun _=>.rt ⟨gE.1,ht.2.2⟩) fun ue=>?_
  simp only[decide_eq_false_iff_not]at ue;obtain⟨k,hk⟩:∃k:Nat,r2.1=(k:Int):=⟨r2.1.toNat,by omega⟩;refine .bd (zWh (d:=r2) (n:=x.zA.length) rfl hk (by omega) hq (by omega) gE.1 zTp) fun t' cv=>?_
  have aJ:=cv.2.dre (q:=r6.2.2.2) (by omega) (by omega) (by omega) hq;rcases zHW (m:=⟨r6.2.2.2,D,t'.2.2.2⟩) hx.toPres with⟨e,_⟩|⟨e,_⟩
  ·rw[e,bs,zK];exact .rg (by omega) (.rt ⟨by omega,by simp only;omega,cv.1,aJ⟩)
  ·rw[e,bs,zL];exact .rg (by omega) (.rt ⟨by omega,by simp only;omega,cv.1,ht.2.2⟩)
 ·rcases y with t|r
  ·exact .rt hy
  ·exact .rt hy
end
theorem zP9{s:zF}{x:SPr}(hs:Src s)(hx:DrP x):Ans (f_p s x) fun r=>Src r.2∧DrE r.1:=by
 have h7:=hx.n;unfold f_p;refine .bd (zBE hs (by simp) (by simp)) fun r1 gK=>?_
 have hq:-100≤r1.1∧r1.1≤100:=by have:=gK.2;simp at this;omega
 refine .bd (P:=fun t=>Src ⟨t.1,t.2.1,t.2.2.1⟩∧ -100≤t.2.2.2∧t.2.2.2≤100) (.jn ?_) fun t ht=>.bd (xM ht.1 (by omega)) fun r2 gE=>.rg (by omega) ?_
 ·unfold zXn
  refine .bd (P:=fun u=>Src ⟨u.1,u.2.1,u.2.2.1⟩∧(u.2.2.2=iB→0<x.zA.length)) (.jn ?_) fun u hu=>.cd (fun e=>.bd (xM hu.1 (by omega)) fun r3 ex=>?_) fun _=>.rt ⟨hu.1,hq⟩
  ·unfold zXm
   refine .cd (fun hl=>.bd (xM gK.1 (by omega)) fun r2 gE=>.rt ⟨gE.1,fun _=>?_⟩) fun _=>.rt ⟨gK.1,fun e=>by cases e⟩
   simp only[decide_eq_true_eq]at hl;omega
  ·have hl:=hu.2 e
   obtain⟨k,hk⟩:∃k:Nat,r3.1=(k:Int):=⟨r3.1.toNat,by omega⟩;rw[hk,yH (by omega),bs];exact .rt ⟨ex.1,hx.o _ (zE8 (by omega))⟩
 obtain⟨D,hD⟩:∃D:Nat,1+r2.1=(D:Int):=⟨(1+r2.1).toNat,by omega⟩;rw[hD,zYo (by omega) (by omega),bs];have aJ:=(zTp (n:=x.zA.length) (D:=D)).dre (q:=t.2.2.2) h7 (by omega) (by omega) ht.2;refine .bd (P:=fun u=>Src ⟨u.1,u.2.1,u.2.2.1⟩∧(u.2.2.2=iC→qJ x)) (.jn ?_) fun u hu=>.cd (fun _=>.rt ⟨hu.1,aJ⟩) fun e=>zTq (hu.2 e) ht.2 hu.1 aJ
 unfold zXo;refine .bd (xM gE.1 (by omega)) fun r3 ex=>.cd (fun _=>.rt ⟨ex.1,fun e=>by cases e⟩) fun _=>?_
 rcases uW (x:=x) (by omega)with⟨e,h⟩|⟨e,_⟩
 ·rw[e,bs];exact .rt ⟨ex.1,fun _=>h⟩
 ·rw[e,bs];exact .rt ⟨ex.1,fun e=>by cases e⟩
theorem yCa{x:SPr}(hx:qJ x):f_X x=iz x:=by
 have h6:=hx.n6;unfold f_X;rw[wQ (by omega),bs,zFU (by have:=hx.pl;omega) (fun i hi=>by have:=zE9 hx.toPres (show i<x.zA.length by have:=hx.pl;omega);omega),bs];rw[tE (body:=zMI x) x.zB.length (fun i=>x.zB.getD i []) (fun i acc hi ha=>by
  have eh:i<x.zA.length:=by have:=hx.cl;omega
  have hc:=zGb hx.toPres eh;have:=hx.cl;unfold zMI;simp only
  rw[yM hi,zK,zX [] hi,bs,zFU (by omega) (fun j hj=>by have:=zGc hx.toPres eh (show j+i+1<x.zA.length by omega);omega),bs,zY (by simp;omega),bs,zI (by omega) (by omega),bs,cs]) (fun acc=>by
  unfold zMI;simp),bs]
 congr 2
 exact List.ext_getElem (by simp) fun i h1 h2=>by simp at h1 ⊢;grind
theorem zFx{o:List Int}{p:List (List Int)}{c:List (List (List Int))}(h:o.length≤7)(k:∀x∈o,-100≤x∧x≤100):DrP ⟨o,p,c⟩:=⟨h,k⟩
theorem zWi{s:zF}{x:SPr}(hs:Src s)(hx:qJ x):Ans (zXs s x) fun r=>DrP r.1∧Src r.2:=by
 have h6:=hx.n6;have ho:=hx.drp.o;have h7:=hx.drp.n;have fE:=hx.pl;have gD:=hx.cl;unfold zXs;rw[yCa hx,bs];refine .bd (xM hs (by omega)) fun r hr=>.cd (fun _=>?_) fun _=>.cd (fun _=>.cd (fun hl=>.bd (zBE hr.1 (by simp) (by simp)) fun r1 gK=>?_) fun _=>.rt ⟨hx.drp,hr.1⟩) fun _=>.cd (fun _=>.cd (fun hl=>?_) fun _=>.rt ⟨hx.drp,hr.1⟩) fun _=>
  .cd (fun _=>.cd (fun hl=>?_) fun _=>.rt ⟨hx.drp,hr.1⟩) fun _=>.cd (fun _=>.cd (fun hl=>?_) fun _=>.rt ⟨hx.drp,hr.1⟩) fun _=>?_
 ·rw[zY (by simp;omega),bs]
  refine .rt ⟨zFx (by simp;omega) fun y hy=>?_,hr.1⟩;rcases Jw.1 hy with hy|hy
  ·exact ho y hy
  ·simp at hy;omega
 ·simp only[decide_eq_true_eq]at hl
  rw[show(0:Int)=((0:Nat):Int)from rfl,yH (by omega),bs];refine .rt ⟨zFx (by simpa using h7) fun y hy=>?_,gK.1⟩;rcases List.mem_or_eq_of_mem_set hy with hy|hy
  ·exact ho y hy
  ·have:=gK.2;simp at this;omega
 ·simp only[decide_eq_true_eq]at hl
  have:=zE9 hx.toPres (show 0<x.zA.length by omega);rw[show(0:Int)=((0:Nat):Int)from rfl,zX [] (by omega),bs,wQ (by omega),bs,zY (by rw[H7];omega),bs,bs];exact .rt ⟨zFx h7 ho,hr.1⟩
 ·simp only[decide_eq_true_eq]at hl
  have:=zE9 hx.toPres (show 0<x.zA.length by omega);rw[show(0:Int)=((0:Nat):Int)from rfl,zX [] (by omega),bs];refine .cd (fun _=>?_) fun _=>.rt ⟨hx.drp,hr.1⟩
  rw[bs,yH (by omega),bs];exact .rt ⟨zFx h7 ho,hr.1⟩
 ·simp only[decide_eq_true_eq]at hl
  have hc:=zGb hx.toPres (show 0<x.zA.length by omega);rw[show(0:Int)=((0:Nat):Int)from rfl,zX [] (by omega),bs,zFU (by omega) (fun j hj=>by have:=zGc hx.toPres (show 0<x.zA.length by omega) (show j+0+1<x.zA.length by omega);omega),bs,yX (by omega),bs,zY (by rw[H7];omega),bs,bs];exact .rt ⟨zFx h7 ho,hr.1⟩
 ·rw[zAp (by simp),bs]
  refine .bd (xM hr.1 (by omega)) fun r1 gK=>.cd (fun _=>?_) fun _=>.rt ⟨zFx (by simp) (by simp),gK.1⟩
  rw[zAp (by simp),bs];exact .rt ⟨zFx (by simp) (by simp),gK.1⟩
theorem zPA{s:zF}{x:SPr}(hs:Src s)(hx:qJ x):Ans (zUY s x) fun r=>DrP r.1∧Src r.2:=by
 have h6:=hx.n6;have ho:=hx.drp.o;have h7:=hx.drp.n;have fE:=hx.pl;have gD:=hx.cl;unfold zUY;rw[yCa hx,bs];refine .bd (xM hs (by omega)) fun r hr=>.rg (by omega) (.rg (by omega) (.rg (by omega) (.bd (xM hr.1 (by omega)) fun r1 gK=>.rg (by omega) (.cd (fun _=>.rt ⟨hx.drp,gK.1⟩) fun hl=>.bd (xM gK.1 (by omega)) fun r2 gE=>?_))))
 simp only[decide_eq_false_iff_not]at hl;obtain⟨i,hi⟩:∃i:Nat,r.1=i:=⟨r.1.toNat,by omega⟩;obtain⟨j,hj⟩:∃j:Nat,r.1+1+r1.1=j:=⟨(r.1+1+r1.1).toNat,by omega⟩;rw[hj,hi];have dT:=(hx.os.2 j (by omega)).pos;refine .cd (fun _=>?_) fun _=>.rg (by omega) (.rg (by omega) (.rg (by omega) (.bd (xM gE.1 (by omega)) fun r3 ex=>.rg (by omega) ?_)))
 ·have:=zE9 hx.toPres (show i<x.zA.length by omega)
  rw[zX [] (by omega),bs,yH (by omega),bs];refine .bd (xM gE.1 (by omega)) fun r3 ex=>?_
  rw[yH (by omega),bs];exact .rt ⟨zFx h7 ho,ex.1⟩
 ·obtain⟨k,hk⟩:∃k:Nat,(i:Int)+1+r3.1=k:=⟨((i:Int)+1+r3.1).toNat,by omega⟩
  rw[hk];have hc:=zGb hx.toPres (show i<x.zA.length by omega);have hr:=zGc hx.toPres (show i<x.zA.length by omega) (show k-i-1+i+1<x.zA.length by omega);rw[zX [] (by omega),bs];refine .rg (by omega) (.rg (by omega) ?_);rw[show(k:Int)-i-1=((k-i-1:Nat):Int)from by omega,zX [] (by omega),bs,yH (by omega),bs];refine .bd (xM ex.1 (by omega)) fun r4 bW=>?_
  rw[yH (by omega),bs];exact .rt ⟨zFx h7 ho,bW.1⟩
theorem zWj{s:zF}(hs:Src s){n:Int}:Ans (zOp s n) fun r=>DrP r.1∧Src r.2:=by unfold zOp;refine .bd (zMk hs) fun r hr=>.bd (xM hr.2 (by omega)) fun r1 gK=>.cd (fun _=>.bd (zWi gK.1 hr.1) fun r2 gE=>.rt gE) fun _=>.cd (fun _=>.cd (fun _=>.bd (zPA gK.1 hr.1) fun r2 gE=>.rt gE) fun _=>.rt ⟨hr.1.drp,gK.1⟩) fun _=>.cd (fun _=>.bd (zPA gK.1 hr.1) fun r2 gE=>.rt gE) fun _=>.rt ⟨hr.1.drp,gK.1⟩
theorem DrE.drm{m:zC}(h:DrE m):DrM m:=⟨h.p,by have:=h.d;omega,by have:=h.l;omega⟩
theorem zTr{s:zF}(hs:Src s){n:Int}:Ans (zXt s n) fun r=>DrP r.1∧DrM r.2.1∧Src r.2.2:=by
 have fin:∀{s:zF}{x:SPr}{m:zC},Src s→DrP x→DrE m→Ans (
   (f_i s 30).bind fun r4=>
   cond (r4.1==0) (
    (rng (m.Dim+1)).bind fun v5=>
    iz (x,(zC.mk m.Prime v5 m.zE),r4.2)) (
    cond (r4.1==1) (
     (zFy r4.2 [2,3,4,11]).bind fun r6=>
     iz (x,(zC.mk r6.1 m.Dim m.zE),r6.2)) (
     cond (r4.1==2) (
      (f_x m.Dim).bind fun r7=>
      (yG m.zE [r7]).bind fun v8=>
      iz (x,(zC.mk m.Prime m.Dim v8),r4.2)) (
      cond (r4.1==3) (
       (zOp r4.2 n).bind fun r9=>
       iz (r9.1,m,r9.2)) (
       cond (r4.1==4) (
        cond (decide ((m.zE.length:Int)> 0)) (
         (ixO m.zE 0).bind fun v10=>
         (ixO v10 0).bind fun v11=>
         (f_i r4.2 m.Prime).bind fun r12=>
         (ixO v11 0).bind fun _=>
         iz (x,(zC.mk m.Prime m.Dim (m.zE.set (0:Int).toNat (v10.set (0:Int).toNat (v11.set (0:Int).toNat r12.1)))),r12.2)) (
         iz (x,m,r4.2))) (
        iz (x,m,r4.2))))))) fun r=>DrP r.1∧DrM r.2.1∧Src r.2.2:=fun{s x m} hs hx hm=>by
  have hp:=hm.p;have hd:=hm.d;have hl:=hm.l;refine .bd (xM hs (by omega)) fun r hr=>.cd (fun _=>.rg (by omega) (.rt ⟨hx,⟨hp,by simp only;omega,by simp only;omega⟩,hr.1⟩)) fun _=>.cd (fun _=>.bd (zBE hr.1 (by simp) (by simp)) fun r1 gK=>.rt ⟨hx,⟨by have:=gK.2;simp at this;simp only;omega,by simp only;omega,by simp only;omega⟩,gK.1⟩) fun _=>
   .cd (fun _=>?_) fun _=>.cd (fun _=>.bd (zWj hr.1) fun r1 gK=>.rt ⟨gK.1,hm.drm,gK.2⟩) fun _=>.cd (fun _=>.cd (fun hl=>?_) fun _=>.rt ⟨hx,hm.drm,hr.1⟩) fun _=>.rt ⟨hx,hm.drm,hr.1⟩
  ·obtain⟨D,hD⟩:∃D:Nat,m.Dim=(D:Int):=⟨m.Dim.toNat,by omega⟩
   rw[hD,zYn (by omega),bs,zY (by simp;omega),bs];exact .rt ⟨hx,⟨hp,by simp only;omega,by simp;omega⟩,hr.1⟩
  ·simp only[decide_eq_true_eq]at hl
   have h0:=hm.a (m.zE.getD 0 []) (zE8 (by omega));have h1:0<(m.zE.getD 0 []).length:=by
    rcases Nat.eq_zero_or_pos (m.zE.getD 0 []).length with e|e
    ·exact absurd (by rw[List.length_eq_zero_iff.1 e];rfl) h0
    ·exact e
   rw[show(0:Int)=((0:Nat):Int)from rfl,zX [] (by omega),bs,zX [] (by omega),bs];refine .bd (xM hr.1 (by omega)) fun r1 gK=>?_
   rw[yH (by omega),bs];exact .rt ⟨hx,⟨hp,by simp only;omega,by simp;omega⟩,gK.1⟩
 unfold zXt;refine .bd (zMk hs) fun r hr=>.bd (zTo hr.2 hr.1) fun r1 gK=>.cd (fun e=>.bd (xM gK.1 (by omega)) fun r2 gE=>.cd (fun _=>fin gE.1 (gK.2 e).1 (gK.2 e).2) fun _=>.bd (zP9 gE.1 hr.1.drp) fun r3 ex=>fin ex.1 hr.1.drp ex.2) fun _=>.bd (zP9 gK.1 hr.1.drp) fun r3 ex=>fin ex.1 hr.1.drp ex.2
end Go.Pl

namespace Go.Pl
open Go Go.Ab Go.Wk Go.Pc
abbrev VU(n:Int):Prop:=(Lit.int .u8 n).wf=iB
theorem vu{c:List Int}(h:VL VU c)(i:Nat)(hi:i<c.length):0≤c[i]∧c[i]≤255:=by have:=h.2 c[i] (K3 hi);simp only[VU,Lit.wf,J3,IntKind.min,IntKind.max,IntKind.signed,IntKind.bits]at this;simpa using this
theorem zZJ{c:List Int}:zWK c=iz (decide ((c.length:Int)> 4096)):=rfl
theorem zTs{α:Type}{c:List Int}{P:α→Prop}{o:Option α}{k:α→Option Bool}(hb:∀i(h:i<c.length),0≤c[i]∧c[i]≤255)(ho:(∀s,Src s→zU8 c=iz s→Ans o P))(hk:∀r,P r→k r=iz iB):
  ((zWK c).bind fun r1=>cond r1 (iz iB) (o.bind k))=iz iB:=by
 rw[zZJ,bs]
 by_cases h:(c.length:Int)> 4096
 ·rw[iE h,zK]
 ·rw[iD h,zL]
  obtain⟨s,h1,h2⟩:=zWc hb (by omega);obtain⟨r,h3,h4⟩:=ho s h2 h1;rw[h3,bs];exact hk r h4
end Go.Pl

namespace Go.Pl
open Go Go.Ab Go.Wk Go.Pc
theorem zMl{a b:List Int}(h:a.length≤1000000):zXv a b=iz (a==b):=zFO h
theorem zG2{A B:Mx}(hA:A.length≤1000000)(h:∀r∈A,r.length≤1000000):zOq A B=iz (A==B):=
 zPi (t:=zXv) (body:=zVa A B) rfl (fun _=>rfl) (by omega) (by grind[zMl])
end Go.Pl

namespace Go.Pl
open Go Go.Ab Go.Wk Go.Pc
structure IsM (x:SPr) (m:zC) (D:Nat):Prop where
 gr:zBn x
 ok:MOk x.zA.length m D
 rel:zFS x m D
section
variable {x:SPr}{m:zC}{D:Nat} (h:IsM x m D)
 include h
theorem IsM.sp:zNV x m=iz iB:=by
 have h6:=h.gr.1.os.1;rcases zBI (x:=x) (m:=m) (by omega)with⟨e,_⟩|⟨_,k⟩
 ·exact e
 ·exact absurd ⟨h.gr,D,h.ok,h.rel⟩ k
theorem IsM.im:f_C x m=iz iB:=by
 have h6:=h.gr.1.os.1;have:=h.ok.len;rcases zBJ (x:=x) (m:=m) (by omega) (by omega)with⟨e,_⟩|⟨_,k⟩
 ·exact e
 ·exact absurd ⟨h.gr,D,h.ok,h.rel⟩ k
end
end Go.Pl

namespace Go.Pl
open Go Go.Ab Go.Wk Go.Pc
theorem zWk{s:zF}{m:zC}(hs:Src s)(hm:DrM m):Ans (zXu s m) fun r=>Src r.2∧r.1.length≤100∧r.1.length≠0:=by
 have hd:=hm.d;have hp:=hm.p;unfold zXu;refine .bd (P:=fun t=>Src ⟨t.1,t.2.1,t.2.2.1⟩∧t.2.2.2.length≤10∧t.2.2.2.length≠0) (.lp (fun i t=>t.2.2.2.2=i∧Src ⟨t.1,t.2.1,t.2.2.1⟩∧t.2.2.2.1.length=i) m.Dim.toNat ⟨rfl,hs,rfl⟩ fun i t hi ht=>?_) fun t ht=>.bd (xM ht.1 (by omega)) fun r hr=>.cd (fun _=>?_) fun _=>.rt ⟨hr.1,by simp only;omega,ht.2.2⟩
 ·unfold zUZ
  refine .cd (fun hl=>.bd (xM ht.2.1 (by omega)) fun r hr=>?_) fun hl=>.rt ⟨ht.2.1,by simp only;omega,by simp only[decide_eq_false_iff_not]at hl;simp only;omega⟩
  simp only[decide_eq_true_eq]at hl;rw[zY (by simp;omega),bs];exact .rg (by omega) (.rt ⟨by omega,by simp only;omega,hr.1,by simp[ht.2.2]⟩)
 ·rw[zY (by simp;omega),bs]
  exact .rt ⟨hr.1,by simp;omega,by simp⟩
theorem zQ7{x:SPr}{m:zC}(hx:DrP x)(hm:DrM m):(∃D,IsM x m D)∨(zNV x m=iz iC∧f_C x m=iz iC):=by
 have hn:=hx.n;have hl:=hm.l;rcases(zBI (x:=x) (m:=m) (by omega)).both (zBJ (by omega) (by omega))with⟨_,_,c,D,hD,hr⟩|⟨s1,i1,_⟩
 ·exact .inl ⟨D,c,hD,hr⟩
 ·exact .inr ⟨s1,i1⟩
end Go.Pl

namespace Go.Pl
open Go Go.Ab Go.Wk Go.Pc
end Go.Pl

namespace Go.Pl
open Go Go.Ab Go.Wk Go.Pc
end Go.Pl

namespace Go.Pl
open Go Go.Ab Go.Wk Go.Pc
theorem zQ8{p:Int}(hp:Prime p){D:Nat}(hD:D≤1000){u v:List Int}(hu:Row p D u)(hv:Row p D v):zXw p u 1 v=iz (adv p D u v):=by
 have h7:=hp.pos;unfold zXw;rw[tE (body:=zMJ p u 1 v) D (fun j=>(at0 u j+at0 v j)%p) (fun i acc hi ha=>by
  have a:=hu.2 i hi;have b:=hv.2 i hi;have eI:=hu.1;have fT:=hv.1;have e1:=Kz (at0 u i+at0 v i) (show p≠0 by omega);have e2:=Kh (at0 u i+at0 v i) (show 0<p by omega);unfold zMJ;simp only
  rw[eI,yM hi,zK,yH (by omega),bs,yH (by omega),bs,Hc,zI (by omega) (by omega),bs,zI (by omega) (by omega),bs,yP,if_neg (by omega),bs,Kq (by omega),zI (by omega) (by omega),bs,yP,if_neg (by omega),bs,Kq (by omega),Ui,Jr,zY (by simp;omega),bs,zI (by omega) (by omega),bs,cs]) (fun acc=>by
  have eI:=hu.1;unfold zMJ;simp[eI]),bs]
 rfl
end Go.Pl

namespace Go.Pl
open Go Go.Ab Go.Wk Go.Pc
end Go.Pl

namespace Go.Pl
open Go Go.Ab Go.Wk Go.Pc
theorem zDz{α:Type}{l:List α}{x d:α}(h:x∈l):∃i,i<l.length∧l.getD i d=x:=by obtain⟨i,hi,rfl⟩:=Jt.1 h;exact⟨i,hi,by grind⟩
section
variable {x:SPr}{m:zC}{D:Nat} (h:IsM x m D)
 include h
theorem IsM.spres:zYb x:=by
 have h6:=h.gr.1.os.1;have fE:=h.gr.1.pl;have gD:=h.gr.1.cl;refine⟨by simp only[S1,c1];omega,?_,?_⟩
 ·have:=zId (c:=c1) (b:=14) (xs:=x.zJ) fun y hy=>by
   obtain⟨i,hi,rfl⟩:=zDz (d:=[]) hy;have:=zE9 h.gr.1 (show i<x.zA.length by omega);simp only[c1];omega
  have:x.zJ.length*14≤14*14:=Kj 14 (by omega);simp only[S2,c2];omega
 ·have:=zId (c:=c2) (b:=300) (xs:=x.zB) fun y hy=>by
   obtain⟨i,hi,rfl⟩:=zDz (d:=[]) hy;have eh:i<x.zA.length:=by omega
   have hl:=zGb h.gr.1 eh;have:=zId (c:=c1) (b:=14) (xs:=x.zB.getD i []) fun z hz=>by obtain⟨j,hj,rfl⟩:=zDz (d:=[]) hz;have:=zGc h.gr.1 eh (show j+i+1<x.zA.length by omega);simp only[c1];omega
   have:(x.zB.getD i []).length*14≤14*14:=Kj 14 (by omega);simp only[c2];omega
  have:x.zB.length*300≤14*300:=Kj 300 (by omega);simp only[S3,c3];omega
theorem IsM.smod:zZo m:=by
 have h6:=h.gr.1.os.1;have h3:=h.ok.d3;have hl:=h.ok.len;have:=zId (c:=c2) (b:=100) (xs:=m.zE) fun y hy=>by
  obtain⟨i,hi,rfl⟩:=zDz (d:=[]) hy;have hA:=h.ok.mat i (by omega);have fL:=hA.1;have:=zId (c:=c1) (b:=3) (xs:=m.zE.getD i []) fun z hz=>by obtain⟨j,hj,rfl⟩:=zDz (d:=[]) hz;have:=(hA.2 j (by omega)).1;simp only[c1];omega
  simp only[c2];omega
 have:m.zE.length*100≤14*100:=Kj 100 (by omega);simp only[zZo,S3,c3];omega
end
end Go.Pl

namespace Go.Pl
open Go Go.Ab Go.Wk Go.Pc
end Go.Pl

namespace Go.Pl
open Go Go.Ab Go.Wk Go.Pc
theorem zZK{p:Int}(hp:Prime p){n:Nat}(hn:n≤100000){R:Mx}{pv:Nat→Nat}(h:Red p n R pv){v:List Int}(hv:Row p n v):Sp p n R (mkv n fun j=>at0 (cl p n R pv v R.length) j-at0 v j):=by
 obtain⟨cf,eO⟩:=zGO hp hn h hv R.length (Jf _);refine⟨cf,fun j hj=>?_⟩;rw[zS hj,Gf,eO j hj,←Gf]
 congr 1
 omega
section
variable {p:Int}{D:Nat}
theorem zWl{u v:List Int}:vA p D u (-1) v=adv p D u (mkv D fun j=>(-1*at0 v j)%p):=by unfold vA;exact yD fun j hj=>by rw[zS hj,Ja7]
end
section
variable {x:SPr}{m:zC}{D:Nat}
theorem zQ9{p:Int}(hp:Prime p){c N:Nat}(gw:c+N≤100000){A:Mx}(hr:∀i,i<N→Row p c (A.getD i []))(hl:A.length=N){b:List Int}(hb:Row p c b):
  (Sp p c A b∧ ∃r,Row p N r∧(∀j,j<c→(S N fun k=>at0 r k*ent A k j)%p=at0 b j%p)∧f_W p A (c:Int) b=iz (r,iB)∧f_E (zT.mk p (c:Int) A) b=iz (r,iB))∨
  (¬Sp p c A b∧f_W p A (c:Int) b=iz ([],iC)∧f_E (zT.mk p (c:Int) A) b=iz ([],iC)):=by
 have h7:=hp.pos;obtain⟨r0,ok,q1,q2,_⟩:=zIj hp gw hr hl hb;rw[q2,←q1];simp only[and_self];obtain⟨W,pv,t,h,h2,h3⟩:=Nul.get hp gw hr hl;have eK:=h.le;have hy:=zFX hp gw h hb t;have hx:=zKw hp gw h (b:=b);have hK:=h.nred hp gw;have bS:=zGS hp gw h hb;obtain⟨cf,eO⟩:=zGO hp gw h.red bS t eK;have dI:=zNw hp gw h.red bS t eK;have eJ:∀j,j<c→at0 (b++J1 N (0:Int)) j=at0 b j:=fun j hj=>by rw[zC2,hb.1,if_pos hj]
 have hrr:∀k,at0 (b++J1 N (0:Int)) (c+k)=0:=fun k=>by rw[zC2,hb.1,if_neg (by omega),at0,J2,K7];split<;>rfl
 have hW:∀{u:List Int},Sp p (c+N) W u↔Gr p c N A u:=fun{u}=>zVN (by omega) hr h.red h.sp h.le h.lo h.hi
 have es:=zC5 hp gw h h2 hb;rw[es];have aA:sy p c N W pv b t=cl p (c+N) W pv (b++J1 N 0) t:=rfl;have fc:((sy p c N W pv b t).take c).length=c:=by rw[Kn,hy.1];omega
 have hta:∀j,j<c→at0 ((sy p c N W pv b t).take c) j=at0 (sy p c N W pv b t) j:=fun j hj=>by simp[at0,J2,hj]
 have ai:Sp p (c+N) W (mkv (c+N) fun j=>at0 (b++J1 N (0:Int)) j-at0 (sy p c N W pv b t) j):=⟨fun k=> -cf k,fun j hj=>by
  have e:(S W.length fun k=> -cf k*ent W k j)= -1*(S W.length fun k=>cf k*ent W k j):=by rw[←zBo];exact wK fun k _=>by rw[Int.neg_mul,Int.neg_mul,Hc]
  have e2:=eO j hj;rw[←aA]at e2;rw[e,zS hj,Gf,e2,←Gf]
  congr 1;omega⟩
 have cb:(∀i,i<((sy p c N W pv b t).take c).length→at0 ((sy p c N W pv b t).take c) i=0)↔ ∀j,j<c→at0 (sy p c N W pv b t) j=0:=by rw[fc];exact⟨fun g j hj=>by rw[←hta j hj];exact g j hj,fun g j hj=>by rw[hta j hj];exact g j hj⟩
 have um:(∀j,j<c→at0 (sy p c N W pv b t) j=0)→ ∀j,j<c→(S N fun k=>at0 (sx p c N W pv b t) k*ent A k j)%p=at0 b j%p:=fun g j hj=>by
  have e:=hW.1 ai j hj;rw[zS (by omega),eJ j hj,g j hj,Int.sub_zero]at e;rw[e];exact zAP fun k hk=>by rw[zS (by omega),hrr,sx,zS hk,Jk,Jr,←Jk]
 have ij:Sp p c A b→ ∀j,j<c→at0 (sy p c N W pv b t) j=0:=fun⟨s,hs⟩=>by
  rw[hl]at hs;have fM:Sp p (c+N) W (mkv (c+N) fun j=>if j<c then at0 b j else s (j-c)):=hW.2 fun j hj=>by
   rw[zS (by omega),if_pos hj,←hs j hj]
   congr 1
   exact wK fun k hk=>by rw[zS (by omega),if_neg (by omega),L6]
  have hw:Sp p (c+N) W (mkv (c+N) fun j=>if j<c then at0 (sy p c N W pv b t) j else at0 (sy p c N W pv b t) j+s (j-c)):=qV (k:=-1) fM ai fun j hj=>by
   rw[zS hj,zS hj,zS hj]
   congr 1
   by_cases g:j<c
   ·rw[if_pos g,if_pos g,eJ j g];omega
   ·obtain⟨k,rfl⟩:∃k,j=c+k:=⟨j-c,by omega⟩
    rw[if_neg g,if_neg g,hrr];omega
  refine Classical.byContradiction fun hn=>?_
  obtain⟨j,hj,aL⟩:∃j,j<c∧at0 (sy p c N W pv b t) j≠0:=by refine Classical.byContradiction fun g=>hn fun j hj=>Classical.byContradiction fun e=>g ⟨j,hj,e⟩
  have hj3:=hy.2 j (by omega);obtain⟨i,hi,i1,i2⟩:=h.red.lead hw ⟨j,by omega,by rw[zS (by omega),if_pos hj,tC hj3];exact aL⟩;rcases Jg i t with g|g
  ·have:=h.lo i g
   rw[zS (by omega),if_pos this,aA,dI i g]at i2;exact i2 (Q9 _)
  ·have:=h.hi i g hi
   have e:=i1 j (by omega);rw[zS (by omega),if_pos hj,tC hj3]at e;exact aL e
 rcases kY (v:=(sy p c N W pv b t).take c) (by omega)with⟨z1,z2⟩|⟨z1,z2⟩
 ·have hz:=cb.1 z2
  rw[z1,bs,J7,zL];have hs:=um hz;refine .inl ⟨⟨at0 (sx p c N W pv b t),fun j hj=>by rw[hl];exact hs j hj⟩,_,zBL hp (by omega) hK hx _,fun j hj=>?_,rfl⟩;have hd:=(h.nsp hp gw).1 (zZK hp (by omega) hK hx) j hj;have e:(S N fun k=>at0 (mkv N fun j=>at0 (cl p N (nul c t W) (fun i=>pv (t+i)-c) (sx p c N W pv b t) (nul c t W).length) j-at0 (sx p c N W pv b t) j) k*ent A k j)=(S N fun k=>at0 (cl p N (nul c t W) (fun i=>pv (t+i)-c) (sx p c N W pv b t) (nul c t W).length) k*ent A k j)+ -1*(S N fun k=>at0 (sx p c N W pv b t) k*ent A k j):=by rw[←zBo,←zFa];exact wK fun k hk=>by rw[zS hk,Int.sub_mul];omega
  rw[e]at hd;rw[←hs j hj];refine Int.emod_eq_emod_iff_emod_sub_eq_zero.2 ?_;rw[←hd]
  congr 1
  omega
 ·rw[z1,bs,Kc,zK]
  exact .inr ⟨fun g=>z2 (cb.2 (ij g)),rfl⟩
end
end Go.Pl

namespace Go.Pl
open Go Go.Ab Go.Wk Go.Pc
theorem zNN{p:Int}(hp:Prime p){n D:Nat}(hn:n≤100)(hD:D≤100){U W:Mx}(hU:VOk n p D U)(hW:VOk n p D W):zXx p U 1 W=iz (gl n fun i=>adv p D (U.getD i []) (W.getD i [])):=by
 unfold zXx;have:=hU.1;have:=hW.1;rw[tE (body:=zMK p U 1 W) n (fun i=>adv p D (U.getD i []) (W.getD i [])) (fun i acc hi ha=>by
  unfold zMK;simp only
  rw[hU.1,yM hi,zK,zX [] (by omega),bs,zX [] (by omega),bs,zQ8 hp (show D≤1000 by omega) (hU.2 i hi) (hW.2 i hi),bs,zY (by simp;omega),bs,zI (by omega) (by omega),bs,cs]) (fun acc=>by
  unfold zMK;simp only
  rw[hU.1,qD,zL])]
 rfl
theorem yCb{v:List Int}(hl:v.length≤1000000):IsB (yAh v) (∀i,i<v.length→at0 v i=0):=zHY hl
theorem zZL{A:Mx}(hA:A.length≤1000000)(h:∀i,i<A.length→(A.getD i []).length≤1000000):IsB (zOr A) (∀i,i<A.length→ ∀j,j<(A.getD i []).length→at0 (A.getD i []) j=0):=by
 refine sC A.length _ rfl (fun i hi _=>?_) ?_
 ·unfold zPP
  rw[yM hi,zK,zX [] hi,bs];exact vZ (yCb (h i hi)) (by omega) rfl
 ·unfold zPP
  rw[qD,zL]
theorem VOk.like{n D:Nat}{p:Int}{U:Mx}(h:VOk n p D U)(hn:n≤100)(hD:D≤100){W:Mx}:zOq U W=iz (U==W):=by
 refine zG2 (by have:=h.1;omega) fun r hr=>?_
 obtain⟨i,hi,rfl⟩:=Jt.1 hr;have:=(h.2 i (by have:=h.1;omega)).1;rw[J2,J5 hi,G5]at this;omega
theorem VOk.at_flat{n D:Nat}{p:Int}{U:Mx}(h:VOk n p D U){g j:Nat}(hg:g<n)(hj:j<D):at0 U.flatten (g*D+j)=at0 (U.getD g []) j:=by
 have hl:=h.1;have:=zLT (F:=fun v:List Int=>v) hj U g (U.getD g []) (fun v hv=>by
  obtain⟨i,hi,rfl⟩:=Jt.1 hv;have:=(h.2 i (by omega)).1;rw[J2,J5 hi,G5]at this;exact this) (by
  rw[J2,J5 (by omega),G5])
 simpa using this
theorem zDO{n D i:Nat}(h1:1≤D)(hi:i<n*D):∃g j,g<n∧j<D∧i=g*D+j:=by refine⟨i/D,i%D,Nat.div_lt_of_lt_mul (by rw[Nat.mul_comm];exact hi),Nat.mod_lt _ h1,?_⟩;rw[Nat.mul_comm];exact(Nat.div_add_mod i D).symm
end Go.Pl

namespace Go.Pl
open Go Go.Ab Go.Wk Go.Pc
abbrev rl(x:SPr)(r:Nat):Rl:=(yZ x).getD r ([],[])
theorem zTt{x:SPr}(h:Pres x)(h6:x.zA.length≤6):∀{w:List Nat}{r:Nat}{s w1:List Nat},(∀a∈w,a<x.zA.length)→stS x w=iz (r,s,w1)→ ∃pre,w=pre++((rl x r).1++s)∧w1=pre++((rl x r).2++s)∧(rl x r).1≠[]
 | [],_,_,_,_,hs=>by cases hs
 |a::w,r,s,w1,hw,hs=>by
  have ha:=hw a (by simp);simp only[stS]at hs;cases hh:hdS x (a::w)with
  |some q=>
   rw[hh]at hs;obtain rfl:=Km.inj hs;refine⟨[],?_⟩;unfold hdS at hh;cases cw:swp x (a::w)with
   |some q'=>
    rw[cw]at hh;obtain rfl:=Km.inj hh;cases w with
    |nil=>cases cw
    |cons b w=>
     have hb:=hw b (by simp);simp only[swp]at cw
     by_cases g:b<a
     ·rw[if_pos g]at cw
      cases cw;rw[rl,zTl h h6 hb (by omega)];have e:b+(a-(b+1))+1=a:=by omega
      simp only[r2,e];exact⟨rfl,rfl,by simp⟩
     ·rw[if_neg g]at cw;cases cw
   |none=>
    rw[cw]at hh;simp only[pws]at hh
    by_cases g:(a::w).take (xZ x a)=J1 (xZ x a) a
    ·rw[if_pos g]at hh
     cases hh;rw[rl,zTk ha];simp only[r1];refine⟨?_,rfl,?_⟩
     ·have:=List.take_append_drop (xZ x a) (a::w)
      rw[g]at this;exact this.symm
     ·have:=zNH h ha
      intro e;have:=congrArg Ja2 e;rw[K8]at this;have e2:(xZ x a)=0:=this;omega
    ·rw[if_neg g]at hh;cases hh
  |none=>
   rw[hh]at hs;cases ht:stS x w with
   |none=>rw[ht]at hs;cases hs
   |some q=>
    rw[ht]at hs;obtain⟨r',s',w'⟩:=q;have e:=Km.inj hs;simp only[Uq.injEq]at e;obtain⟨rfl,rfl,rfl⟩:=e;obtain⟨pre,p1,p2,p3⟩:=zTt h h6 (fun b hb=>hw b (by simp[hb])) ht;exact⟨a::pre,by rw[p1];rfl,by rw[p2];rfl,p3⟩
section
variable {x:SPr}{m:zC}{D:Nat}{vals:Mx} (h:IsM x m D) (hV:VOk x.zA.length m.Prime D vals)
 include h hV
theorem zGd:∀(ws:List Nat){u:List Int},(∀w∈ws,w<x.zA.length)→Row m.Prime D u→ev m D vals u ws=adv m.Prime D (xL m.Prime D u (wM m.Prime D m.zE ws (idM D))) (ev m D vals (z0 D) ws)
 | [],u,_,hu=>by have h7:=h.ok.p.pos;show u=adv m.Prime D (xL m.Prime D u (idM D)) (z0 D);rw[qK hu];exact(zBs hu).symm
 |w::ws,u,hw,hu=>by
  have h7:=h.ok.p.pos;have mU:=hw w (by simp);have aC:∀a∈ws,a<x.zA.length:=fun a ha=>hw a (by simp[ha])
  have hA:=h.ok.mat w mU;have hd:=hV.2 w mU;have st:∀a:List Int,stp m D vals a w=adv m.Prime D (xL m.Prime D a (m.zE.getD w [])) (vals.getD w []):=fun a=>by unfold stp vA;exact yD fun j _=>by rw[Hc]
  have e0:stp m D vals (z0 D) w=vals.getD w []:=by rw[st,show xL m.Prime D (z0 D) (m.zE.getD w [])=z0 D from qW];exact wV hd
  show ev m D vals (stp m D vals u w) ws=adv _ _ _ (ev m D vals (stp m D vals (z0 D) w) ws);have e1:wM m.Prime D m.zE (w::ws) (idM D)=PM m.Prime D (m.zE.getD w []) (wM m.Prime D m.zE ws (idM D)):=by have:=zST (p:=m.Prime) (D:=D) (A:=m.zE) (u:=[w]) (v:=ws) h7.1;rw[show wM m.Prime D m.zE [w] (idM D)=m.zE.getD w []from zB9 hA]at this;exact this
  rw[e0,zGd ws aC (by rw[st];exact tR (by omega)),zGd ws aC hd,st,zBu,e1,zDN hA.1,tH]
theorem zPB{lhs rhs s:List Nat}{u:List Int}(hu:Row m.Prime D u)(hl:∀w∈lhs,w<x.zA.length)(hr:∀w∈rhs,w<x.zA.length)(hs:∀w∈s,w<x.zA.length)(hM:wM m.Prime D m.zE lhs (idM D)=wM m.Prime D m.zE rhs (idM D)):
  ev m D vals u (lhs++s)=adv m.Prime D (xL m.Prime D (vA m.Prime D (ev m D vals (z0 D) lhs) (-1) (ev m D vals (z0 D) rhs)) (wM m.Prime D m.zE s (idM D))) (ev m D vals u (rhs++s)):=by
 have h7:=h.ok.p.pos;have h6:=h.gr.1.os.1;have hz:=zBK (p:=m.Prime) (D:=D) (by omega);have ef:∀ws,Row m.Prime D (ev m D vals u ws):=fun ws=>qT h.ok h6 hV hu ws
 have hb:Row m.Prime D (ev m D vals (z0 D) rhs):=qT h.ok h6 hV hz rhs;rw[jR,jR,zGd h hV s hs (ef lhs),zGd h hV s hs (ef rhs),zGd h hV lhs hl hu,zGd h hV rhs hr hu,hM,zWl]
 generalize ht:(mkv D fun j=>(-1*at0 (ev m D vals (z0 D) rhs) j)%m.Prime)=t
 generalize ev m D vals (z0 D) lhs=a
 generalize ev m D vals (z0 D) rhs=b at*
 generalize xL m.Prime D u (wM m.Prime D m.zE rhs (idM D))=c
 generalize wM m.Prime D m.zE s (idM D)=S
 have lc:∀a b c:List Int,adv m.Prime D a (adv m.Prime D b c)=adv m.Prime D b (adv m.Prime D a c):=fun a b c=>by rw[←tH,uC (u:=a),tH]
 have e0:adv m.Prime D t b=zeros D:=by
  rw[←ht];unfold adv zeros;rw[uO];exact yD fun j hj=>by rw[zS hj,Ua,show -1*at0 b j+at0 b j=0 by omega,Q9]
 have e1:adv m.Prime D (xL m.Prime D t S) (adv m.Prime D (xL m.Prime D b S) (ev m D vals (z0 D) s))=ev m D vals (z0 D) s:=by rw[←tH,←zBu,e0,qW,wV (qT h.ok h6 hV hz s)]
 simp only[zBu,tH];rw[lc (xL m.Prime D t S),e1,lc]
abbrev cob(x:SPr)(m:zC)(D:Nat)(vals:Mx):Mx:=(yZ x).map (dfc m D vals)
theorem zZM(h6:x.zA.length≤6){k:Nat}{w w':List Nat}{tr:List (Nat×List Nat)}(hc:Col x k w tr w'):adv m.Prime D (tv m.Prime D m (cob x m D vals) tr) (ev m D vals (z0 D) w')=ev m D vals (z0 D) w:=by
 have h7:=h.ok.p.pos;have aV:=h.gr.1.os.1;have hz:=zBK (p:=m.Prime) (D:=D) (by omega)
 induction hc with
 |refl w=>exact wV (qT h.ok aV hV hz w)
 | @step w w1 w' s r tr hw hs _ ih=>
  obtain⟨pre,p1,p2,p3⟩:=zTt h.gr.1 h6 (fun a ha=>(hw a ha).2) hs;have eJ:r<(yZ x).length:=by
   refine Classical.byContradiction fun g=>p3 ?_
   rw[rl,J2,Ku (by omega)];rfl
  have gu:rl x r∈yZ x:=by rw[rl,J2,J5 eJ];exact K3 eJ
  obtain⟨⟨g1,_⟩,g2,_⟩:=zCi h.gr.1 gu;have hT:(cob x m D vals).getD r []=dfc m D vals (rl x r):=by rw[rl,cob,J2,Jn,J2,J5 eJ];rfl
  show adv _ _ (adv _ _ (xL _ _ ((cob x m D vals).getD r []) _) (tv _ _ _ _ tr)) _=_;rw[tH,ih,hT,p1,p2];rw[jR (a:=pre),jR (a:=pre)];have aC:∀a∈s,a<x.zA.length:=fun a ha=>(hw a (by rw[p1];simp[ha])).2
  exact(zPB h hV (qT h.ok aV hV hz pre) g1 g2 aC ((zFb h.gr.1 h.ok).2 h.rel _ gu)).symm
 omit hV in
theorem zDP(h6:x.zA.length≤6):sU x m D (cob x m D vals):=by refine⟨by rw[cob,Jo,zBt h.gr.1 h6],fun i hi=>?_⟩;rw[cob,J2,Jn];rw[cob,Jo]at hi;rw[J5 hi];exact kF h.ok.p
theorem zTu:wH (suf (exx D x m (cob x m D vals)) 0):=by
 have gI:=h.gr.2.2;have h6:=gI.n6;have ht:=zDP h (vals:=vals) h6;have hE:=(zSN gI h.ok ht).b h.ok;have hx:=h.gr.1;have pt:∀k,k<x.zA.length→LC x k:=fun k hk=>((zA6 hx.w hk).1 (zCg h.gr.2.1 k)).2
 have same:∀{k r1 r2:Nat}{s1 s2 w1 w2 pre:List Nat}{t1 t2:List (Nat×List Nat)}{y1 y2:Vec},r1<(yZ x).length→r2<(yZ x).length→(∀a∈s1,a<x.zA.length)→(∀a∈s2,a<x.zA.length)→(∀a∈pre,a<x.zA.length)→y1=y2→sD x k w1 t1 y1→sD x k w2 t2 y2→w1=(rl x r1).2++s1→w2=pre++((rl x r2).2++s2)→(rl x r1).1++s1=pre++((rl x r2).1++s2)→tv m.Prime D m (cob x m D vals) ((r1,s1)::t1)=tv m.Prime D m (cob x m D vals) ((r2,s2)::t2):=by
  intro k r1 r2 s1 s2 w1 w2 pre t1 t2 y1 y2 gK gE cy pf cC hy c1 c2 e1 e2 e3;have h7:=h.ok.p.pos;have aV:=h.gr.1.os.1;have hz:=zBK (p:=m.Prime) (D:=D) (by omega);have one:∀{r:Nat}{s:List Nat}{w pre:List Nat}{t:List (Nat×List Nat)}{y:Vec},r<(yZ x).length→(∀a∈s,a<x.zA.length)→(∀a∈pre,a<x.zA.length)→sD x k w t y→w=pre++((rl x r).2++s)→adv m.Prime D (tv m.Prime D m (cob x m D vals) ((r,s)::t)) (ev m D vals (z0 D) (nw k y))=ev m D vals (z0 D) (pre++((rl x r).1++s)):=by
   intro r s w pre t y eJ hs cC c e;have gu:rl x r∈yZ x:=by rw[rl,J2,J5 eJ];exact K3 eJ
   obtain⟨⟨g1,_⟩,g2,_⟩:=zCi h.gr.1 gu;have hT:(cob x m D vals).getD r []=dfc m D vals (rl x r):=by rw[rl,cob,J2,Jn,J2,J5 eJ];rfl
   show adv _ _ (adv _ _ (xL _ _ ((cob x m D vals).getD r []) _) (tv _ _ _ _ t)) _=_;rw[tH,zZM h hV h6 c.col,hT,e,jR,jR (a:=pre)];exact(zPB h hV (qT h.ok aV hV hz pre) g1 g2 hs ((zFb h.gr.1 h.ok).2 h.rel _ gu)).symm
  have a1:=one gK cy (pre:=[]) (by simp) c1 e1;have a2:=one gE pf cC c2 e2;rw[Ju,e3,←a2,←hy,uC,uC (v:=ev m D vals (z0 D) (nw k y1))]at a1;exact(zVP (zK5 h7.1 _) (zK5 h7.1 _)).1 a1
 have hl:=zBt hx h6;have rc:∀{b a:Nat},b<a→a<x.zA.length→rl x (base x.zA.length b+(a-(b+1)))=([a,b],b::nw 0 (lcj x b a))∧base x.zA.length b+(a-(b+1))<(yZ x).length:=fun{b a} hb ha=>by
  have e:=zTl hx h6 (b:=b) (j:=a-(b+1)) (by omega) (by omega);have e2:b+(a-(b+1))+1=a:=by omega
  simp only[r2,e2]at e;refine⟨e,Classical.byContradiction fun g=>?_⟩;rw[J2,Ku (by omega)]at e;cases e
 have rp:∀{a:Nat},a<x.zA.length→rl x a=(J1 (xZ x a) a,nw 0 (x.zJ.getD a []))∧a<(yZ x).length:=fun{a} ha=>by refine⟨zTk ha,?_⟩;rw[yZ,Ja,Jo,Hj];omega
 have snoc:∀{a n:Nat},0<n→J1 n a=J1 (n-1) a++[a]:=fun{a n} hn=>by obtain⟨k,rfl⟩:∃k,n=k+1:=⟨n-1,by omega⟩;rw[Qf];exact Lv
 have pc:=xU hx hE ht.2;have key:∀(d k:Nat),k+d=x.zA.length→wH (suf (exx D x m (cob x m D vals)) k):=by
  intro d
  induction d with
  |zero=>
   intro k hk;exact zIq hx hE ht.2 D k (by omega) (by omega)
  |succ d ih=>
   intro k hk;have hc:=ih (k+1) (by omega);refine(zA6 (zFm hx hE ht.2) (by omega)).2 ⟨hc,zSF hx hE ht.2 h.rel (by omega) ((zQ6 hx hE ht.2 (by omega) (pt k (by omega)) hc).2 ⟨?_,?_,?_,?_⟩)⟩
   ·rintro j h1 h2 _ _ ⟨⟨u1,y1,rfl,k1⟩,⟨u2,y2,rfl,k2⟩⟩
    have hy:=(zTe hx hE ht.2 (by omega) hc (pt k (by omega)) (by omega) h2 k1 k2).1;obtain⟨a1,a2⟩:=rp (a:=j) h2;obtain⟨b1,b2⟩:=rc (b:=k) (a:=j) h1 h2;have:=zNH hx h2;refine same a2 b2 (by simp;omega) (by simp) (pre:=J1 (xZ x j-1) j) (fun a ha=>by have:=(Q6.1 ha).2;omega) hy k1 k2 (by rw[a1]) (by rw[b1];simp) ?_;rw[a1,b1];simp only[J9];rw[snoc (by omega),Jh];rfl
   ·rintro i j h1 gV h2 _ _ ⟨⟨u1,y1,rfl,k1⟩,⟨u2,y2,rfl,k2⟩⟩
    have hy:=(zTf hx hE ht.2 (by omega) hc (pt k (by omega)) (by omega) gV h2 k1 k2).1;obtain⟨a1,a2⟩:=rc (b:=i) (a:=j) gV h2;obtain⟨b1,b2⟩:=rc (b:=k) (a:=i) h1 (by omega);refine same a2 b2 (by simp;omega) (by simp) (pre:=[j]) (by simp;omega) hy k1 k2 (by rw[a1];rfl) (by rw[b1];simp) ?_;rw[a1,b1];rfl
   ·rintro _ _ ⟨⟨u1,y1,rfl,k1⟩,⟨u2,y2,rfl,k2⟩⟩
    have hy:=(zTc hx hE ht.2 (by omega) hc (pt k (by omega)) k1 k2).1;obtain⟨a1,a2⟩:=rp (a:=k) (by omega);refine same a2 a2 (by simp;omega) (by simp) (pre:=[k]) (by simp;omega) hy k1 k2 (by rw[a1]) (by rw[a1];simp) ?_;rw[a1,J9];simp only
    rw[←Lv];rfl
   ·rintro j h1 h2 _ _ ⟨⟨u1,y1,rfl,k1⟩,⟨u2,y2,rfl,k2⟩⟩
    have hy:=(zTi hx hE ht.2 (by omega) hc (pt k (by omega)) (by omega) h2 k1 k2).1;obtain⟨a1,a2⟩:=rc (b:=k) (a:=j) h1 h2;obtain⟨b1,b2⟩:=rp (a:=k) (by omega);have:=zNH hx (show k<x.zA.length by omega);refine same a2 b2 (fun a ha=>by have:=(Q6.1 ha).2;omega) (by simp) (pre:=[j]) (by simp;omega) hy k1 k2 (by rw[a1];rfl) (by rw[b1];simp) ?_;rw[a1,b1,J9];simp only
    obtain⟨q,hq⟩:∃q,xZ x k=q+1:=⟨xZ x k-1,by omega⟩;rw[hq,Qf,Jv];rfl
 exact key x.zA.length 0 (by omega)
end
end Go.Pl

namespace Go.Pl
open Go Go.Ab Go.Wk Go.Pc
section
variable {x:SPr}{m:zC}{D:Nat} (h:IsM x m D)
 include h
 omit h in
theorem sU.vo{T:Mx}(hT:sU x m D T):VOk (base x.zA.length x.zA.length) m.Prime D T:=⟨hT.1,fun i hi=>hT.2 i (by rw[hT.1];exact hi)⟩
theorem zQA:∃R pv,Red m.Prime (base x.zA.length x.zA.length*D) R pv∧(∀v,Sp m.Prime (base x.zA.length x.zA.length*D) R v↔Sp m.Prime (base x.zA.length x.zA.length*D) (uT x m D) v)∧ ∀v,Row m.Prime (base x.zA.length x.zA.length*D) v→
  yCh x m v=iz (sT (base x.zA.length x.zA.length) D (cl m.Prime (base x.zA.length x.zA.length*D) R pv v R.length))∧zWF x m v=iz (sT (base x.zA.length x.zA.length) D (cl m.Prime (base x.zA.length x.zA.length*D) R pv v R.length)):=by
 have gI:=h.gr.2.2;have h3:=h.ok.d3;obtain⟨R,pv,r1,r2,r3,r4,r5,r6⟩:=zNE gI h.ok;obtain⟨R',pv',s1,_,s3,_⟩:=zSQ gI h.ok;rw[r1]at s1;obtain rfl:=Km.inj s1;refine⟨R,pv,r4,s3,fun v hv=>?_⟩;have gD:=zBL h.ok.p (by omega) r4 hv R.length;unfold yCh zWF zZY;rw[r1,bs,zC1 h.ok.p (by omega) r4 hv (by omega),bs,h.ok.d,zIf h.ok.d1 (by omega) gD.1 (by omega),bs,r2,bs,r3,bs,bs,zDq h.ok.p (by omega) r4 hv (by omega),bs,zE0 h.ok.d1 gD.1 (by omega),bs];exact⟨rfl,rfl⟩
theorem zJB{A B:Mx}(hA:Coc x m D A)(hB:Coc x m D B):zOo x m A B=iz 0∧ ∀L:List Mx,L.length≤1000→(∀t,t∈L↔t=A∨t=B)→f_P x m L=iz 0:=by
 have gI:=h.gr.2.2;have fy:=tG x.zA.length (by have:=gI.n6;omega);have fL:A.length≤1048576:=by have:=hA.1.1;omega
 have aT:B.length≤1048576:=by have:=hB.1.1;omega
 have one:∀{T:Mx},Coc x m D T→zQO x m T=iz iB∧zQT x m T=iz iB:=fun{T} hT=>by
  have hE:=zSN gI h.ok hT.1;constructor
  ·rcases zAB gI h.ok (T:=T) (by have:=hT.1.1;omega)with⟨e,_⟩|⟨_,k⟩
   ·exact e
   ·exact absurd hT.1 k
  ·rcases zK3 h.gr.1 (hE.b h.ok) hT.1.2 (Mv.self h.ok) h.gr.2.1 h.rel with⟨e,_⟩|⟨_,k⟩
   ·exact e
   ·exact absurd hT.2 k
 have hs:zOo x m A B=iz 0:=by unfold zOo;simp only[h.sp,(one hA).1,(one hA).2,(one hB).1,(one hB).2,bs,J7,zL]
 refine⟨hs,fun L hL hm=>?_⟩;obtain⟨c,e1,e2,_⟩:=zQ3 h.spres h.smod fL aT hL hm;rw[hs]at e1;rw[e2,←Km.inj e1]
end
end Go.Pl

namespace Go.Pl
open Go Go.Ab Go.Wk Go.Pc
end Go.Pl

namespace Go.Pl
open Go Go.Ab Go.Wk Go.Pc
section
variable {x:SPr}{m:zC}{D:Nat} (h:IsM x m D) {v:List Int}
 include h
 omit h in
theorem zTv:∀(ws:List Nat)(u:List Int)(U:Nat→List Int),(∀w∈ws,w<x.zA.length)→(∀c,c<D→at0 u c%m.Prime=(S (x.zA.length*D) fun k=>at0 v k*at0 (U k) c)%m.Prime)→
    ∀c,c<D→at0 (ev m D (sT x.zA.length D v) u ws) c%m.Prime=(S (x.zA.length*D) fun k=>at0 v k*at0 (ev m D (uv x.zA.length D k) (U k) ws) c)%m.Prime:=by
  intro ws
  induction ws with
  |nil=>intro u U _ hu;exact hu
  |cons w ws ih=>
    intro u U hw hu;have mU:=hw w (by simp);refine ih (stp m D (sT x.zA.length D v) u w) (fun k=>stp m D (uv x.zA.length D k) (U k) w) (fun a ha=>hw a (by simp[ha])) fun c hc=>?_
    have hp:=zDK (D:=D) mU;have t:∀k,k<x.zA.length*D→(at0 v k*at0 (stp m D (uv x.zA.length D k) (U k) w) c)%m.Prime=((S D fun l=>at0 v k*at0 (U k) l*ent (m.zE.getD w []) l c)+at0 v k*(if k=w*D+c then 1 else 0))%m.Prime:=fun k hk=>by
      have e1:(S D fun l=>at0 v k*at0 (U k) l*ent (m.zE.getD w []) l c)=at0 v k*S D fun l=>at0 (U k) l*ent (m.zE.getD w []) l c:=by rw[←zBo];exact wK fun l _=>by rw[Lo]
      have e2:(if w*D+c=k then(1:Int)else 0)=if k=w*D+c then 1 else 0:=by
        by_cases g:k=w*D+c
        ·rw[if_pos g,if_pos g.symm]
        ·rw[if_neg g,if_neg fun e=>g e.symm]
      rw[stp,vA,zS hc,xL,zS hc,zZG mU hc,Ua,Jk,Jr,←Jk,Hc,e2,Int.mul_add,e1]
    rw[zAP t,zFa,zB8 (f:=fun k=>at0 v k*(if k=w*D+c then 1 else 0)) (k:=w*D+c) (by omega) (fun i _ gf=>by rw[if_neg gf,H3]),if_pos rfl,Lq,zHP];have e3:at0 (stp m D (sT x.zA.length D v) u w) c%m.Prime=((S D fun l=>at0 u l*ent (m.zE.getD w []) l c)+at0 v (w*D+c))%m.Prime:=by rw[stp,vA,zS hc,xL,zS hc,sT,xR mU,zS hc,Jr,Ua,Hc]
    rw[e3,Jx,Jx (S D _)]
    congr 2
    exact zAP fun l hl=>by rw[zL9,Jk,hu l hl,←Jk]
theorem zPC{i:Nat}(hi:i<base x.zA.length x.zA.length*D):at0 (cob x m D (sT x.zA.length D v)).flatten i%m.Prime=(S (uT x m D).length fun k=>at0 v k*ent (uT x m D) k i)%m.Prime:=by
 have gI:=h.gr.2.2;have h6:=gI.n6;have h1:=h.ok.d1;have hl:=zBt h.gr.1 h6;have cX:(uT x m D).length=x.zA.length*D:=xY;obtain⟨g,c,hg,hc,rfl⟩:=zDO h1 hi;have gu:rl x g∈yZ x:=by rw[rl,J2,J5 (by omega)];exact K3 _
 obtain⟨⟨g1,_⟩,g2,_⟩:=zCi h.gr.1 gu;have hT:∀V:Mx,at0 (cob x m D V).flatten (g*D+c)=at0 (dfc m D V (rl x g)) c:=fun V=>by rw[(zDP h (vals:=V) h6).vo.at_flat hg hc,rl,cob,J2,Jn,J2,J5 (by omega)];rfl
 have hz:∀c,c<D→at0 (z0 D) c%m.Prime=(S (x.zA.length*D) fun k=>at0 v k*at0 ((fun _=>z0 D) k:List Int) c)%m.Prime:=fun c hc=>by
  have e:at0 (z0 D) c=0:=by rw[z0,uO,zS hc]
  simp only[e];rw[wK (g:=fun _=>0) (fun k _=>H3 _),kD]
 have a1:=zTv (rl x g).1 (z0 D) (fun _=>z0 D) g1 hz c hc;have a2:=zTv (rl x g).2 (z0 D) (fun _=>z0 D) g2 hz c hc;rw[hT,cX,dfc,vA,zS hc,Jr];have t:∀k,k<x.zA.length*D→(at0 v k*ent (uT x m D) k (g*D+c))%m.Prime=(at0 v k*at0 (ev m D (uv x.zA.length D k) (z0 D) (rl x g).1) c+ -1*(at0 v k*at0 (ev m D (uv x.zA.length D k) (z0 D) (rl x g).2) c))%m.Prime:=fun k hk=>by
  have e:ent (uT x m D) k (g*D+c)=at0 (cob x m D (uv x.zA.length D k)).flatten (g*D+c):=by rw[ent,uT,zJ3,xR hk]
  rw[e,hT,dfc,vA,zS hc,Jk,Jr,←Jk,Int.mul_add]
  congr 2
  rw[←Lo,←Lo,Hx (at0 v k)]
 rw[zAP t,zFa,zBo,Jx,a1,Jk,a2,←Jk,←Jx]
theorem zZN:Sp m.Prime (base x.zA.length x.zA.length*D) (uT x m D) (cob x m D (sT x.zA.length D v)).flatten:=
 ⟨at0 v,fun _ hj=>(zPC h hj).symm⟩
end
theorem zZO{n D:Nat}{p:Int}{V:Mx}(hV:VOk n p D V):sT n D V.flatten=V:=by
 refine zFQ xY hV.1 fun i hi=>?_
 rw[sT,xR hi]
 conv=>rhs;rw[wT (hV.2 i hi).1]
 exact yD fun j hj=>hV.at_flat hi hj
section
variable {x:SPr}{m:zC}{D:Nat} (h:IsM x m D)
 include h
theorem zPD{vals:Mx}(hV:VOk x.zA.length m.Prime D vals):zOt x m vals=iz (cob x m D vals,0)∧zOs x m vals=iz (cob x m D vals,0):=by
 have h3:=h.ok.d3;have h6:=h.gr.1.os.1;have fT:=hV.1;unfold zOt zOs;rw[h.sp,h.im,bs,bs,J7,zL,zL];rcases(zGy (x:=x) (vals:=vals) h.ok.p h.ok.d (by omega) (by omega)).both (zGx (x:=x) h.ok.p h.ok.d (by omega) (by omega))with⟨v1,w1,_⟩|⟨_,_,k⟩
 ·rw[v1,w1,bs,bs,J7,zL,zL,zIg h.gr.1 h.ok hV,bs,zAZ h.gr.1 h.ok hV,bs]
  exact⟨rfl,rfl⟩
 ·exact absurd hV k
theorem zQB{T:Mx}(hT:Coc x m D T)(hs:Sp m.Prime (base x.zA.length x.zA.length*D) (uT x m D) T.flatten):∃r,Row m.Prime (x.zA.length*D) r∧(∀i,i<base x.zA.length x.zA.length*D→at0 (cob x m D (sT x.zA.length D r)).flatten i%m.Prime=(-1*at0 T.flatten i)%m.Prime)∧
  zWI x m T=iz (sT x.zA.length D r,0)∧zWJ x m T=iz (sT x.zA.length D r,0):=by
 have gI:=h.gr.2.2;have eK:=zP1 gI h.ok;obtain⟨c1,c2⟩:=zJB h hT hT;obtain⟨t1,t2,t3⟩:=zE5 gI h.ok hT.1;have cX:(uT x m D).length=x.zA.length*D:=xY;have dX:Row m.Prime (base x.zA.length x.zA.length*D) (ngv m.Prime (base x.zA.length x.zA.length*D) T.flatten):=kF h.ok.p;obtain⟨u,ok,s1,s2,s3,_⟩:=zDw gI h.ok t1;obtain⟨U,ok',q1,q2,_⟩:=zNF gI h.ok hT.1;have gB:ok=iB:=s2.2 hs;subst gB;rw[s3]at q2;have q3:=Km.inj q2;simp only[if_true,Uq.injEq]at q3;obtain⟨rfl,rfl⟩:=q3;rcases zQ9 h.ok.p (c:=base x.zA.length x.zA.length*D) (N:=x.zA.length*D) (by omega) (A:=uT x m D) (fun i hi=>zCl gI h.ok hi) cX dX with⟨_,r,r1,r2,r3,_⟩|⟨k,_⟩
 ·rw[s1]at r3
  have r4:=Km.inj r3;simp only[Uq.injEq,and_true]at r4;subst r4;refine⟨u,r1,fun i hi=>?_,?_,?_⟩
  ·rw[zPC h hi,cX,r2 i hi,ngv,vA,zS hi,uB,Jr,Kw]
  ·unfold zWI
   rw[c1,bs,show((0:Int) != 0)=iC from rfl,zL,q1,bs];simp only[J7,zL]
  ·unfold zWJ
   rw[c2 [T] (by simp) (fun t=>by simp),bs,show((0:Int) != 0)=iC from rfl,zL,t3,bs,s3,bs];simp only[J7,zL,if_true]
 ·exact absurd (zSP.2 hs) k
end
theorem zGe(c:List Int)(hb:∀i(h:i<c.length),0≤c[i]∧c[i]≤255):zXz c=iz iB:=by
 unfold zXz yAi;refine zTs hb (P:=fun r=>DrP r.1∧DrM r.2.1∧r.2.2.length≤1000) (fun s hs e=>by
  rw[e,bs];refine .bd (zTr hs) fun r hr=>?_
  have hn:=hr.1.n;refine .bd (P:=fun t:Mx=>t.length≤1000) (.lp (fun i t=>t.2.2.2.2=i∧Src ⟨t.1,t.2.1,t.2.2.1⟩∧t.2.2.2.1.length=i) r.1.zA.length ⟨rfl,hr.2.2,rfl⟩ fun i t hi ht=>?_) fun t ht=>.rt ⟨hr.1,hr.2.1,ht⟩
  unfold zVb;refine .cd (fun hl=>.bd (zWk ht.2.1 hr.2.1) fun v hv=>?_) fun hl=>.rt (by omega)
  simp only[decide_eq_true_eq]at hl;rw[zY (by simp;omega),bs];exact .rg (by omega) (.rt ⟨by omega,by simp only;omega,hv.1,by simp[ht.2.2]⟩)) fun r hr=>?_
 obtain⟨x,m,vals⟩:=r;obtain⟨hx,hm,fT⟩:=hr;simp only at hx hm fT ⊢
 have nl:zOq [] []=iz iB:=zG2 (A:=[]) (by simp) (by simp);have cases':(∃D,IsM x m D∧VOk x.zA.length m.Prime D vals∧zQN x m vals=iz iB)∨(zOt x m vals=iz ([],1)∧zOs x m vals=iz ([],1)):=by
  unfold zOt zOs;rcases zQ7 hx hm with⟨D,h⟩|⟨s1,i1⟩
  ·have h3:=h.ok.d3
   rcases(zGy (x:=x) (vals:=vals) h.ok.p h.ok.d (by omega) (by omega)).both (zGx (x:=x) h.ok.p h.ok.d (by omega) (by omega))with⟨v1,w1,hV⟩|⟨v1,w1,_⟩
   ·exact .inl ⟨D,h,hV,w1⟩
   ·refine .inr ⟨?_,?_⟩
    ·rw[h.sp,bs,J7,zL,v1,bs];rfl
    ·rw[h.im,bs,J7,zL,w1,bs];rfl
  ·refine .inr ⟨?_,?_⟩
   ·rw[s1,bs];rfl
   ·rw[i1,bs];rfl
 rcases cases' with⟨D,h,hV,w1⟩|⟨s1,i1⟩
 ·have h3:=h.ok.d3
  have h1:=h.ok.d1;have h7:=h.ok.p.pos;have gI:=h.gr.2.2;have h6:=gI.n6;have eK:=zP1 gI h.ok;have fy:=tG x.zA.length (by omega);have hvf:=zQz hV;have ux:=zZO hV;have hT:=zDP h (vals:=vals) h6;have pA:Coc x m D (cob x m D vals):=⟨hT,zTu h hV⟩;have fM:Sp m.Prime (base x.zA.length x.zA.length*D) (uT x m D) (cob x m D vals).flatten:=by
   have:=zZN h (v:=vals.flatten)
   rwa [ux]at this
  obtain⟨t1,t2,t3⟩:=zE5 gI h.ok hT;obtain⟨R,pv,r1,r2,r3⟩:=zQA h;have gD:=zBL h.ok.p (by omega) r1 t1 R.length;have fx:=(zPt h.ok.p (by omega) r1 t1).2 ((r2 _).2 fM);obtain⟨c1,c2⟩:=zJB h pA pA;have zz:∀{N:Nat}{V:Mx},VOk N m.Prime D V→N≤100→IsB (zOr V) (∀i,i<N*D→at0 V.flatten i=0):=fun{N V} hV hN=>(zZL (A:=V) (by have:=hV.1;omega) (fun i hi=>by have:=(hV.2 i (by have:=hV.1;omega)).1;omega)).iff (by
   constructor
   ·intro g i hi
    obtain⟨a,j,ha,hj,rfl⟩:=zDO h1 hi;rw[hV.at_flat ha hj];exact g a (by have:=hV.1;omega) j (by rw[(hV.2 a ha).1];exact hj)
   ·intro g a ha j hj
    rw[hV.1]at ha;rw[(hV.2 a ha).1]at hj;rw[←hV.at_flat ha hj];exact g _ (by have:=zDK (D:=D) ha;omega))
  have one:∀{o:Option Bool}{P:Prop},IsB o P→P→o=iz iB:=fun h p=>by
   rcases h with⟨e,_⟩|⟨_,k⟩
   ·exact e
   ·exact absurd p k
  obtain⟨w,q1,q2,q3,q4⟩:=zQB h pA fM;obtain⟨d1,d2⟩:=zPD h hV;obtain⟨d3,d4⟩:=zPD h (zKv q1);have iu:=zDP h (vals:=sT x.zA.length D w) h6;have i1:zW8 x m (cob x m D vals)=iz (iB,0):=by unfold zW8;rw[h.im,bs,J7,zL,one (zG0 gI h.ok (T:=cob x m D vals) (by have:=hT.1;omega)) hT,bs,J7,zL,one (zP0 gI h.ok hT) pA.2,bs]
  have i2:zWG x m (cob x m D vals)=iz (sT (base x.zA.length x.zA.length) D (cl m.Prime (base x.zA.length x.zA.length*D) R pv (cob x m D vals).flatten R.length),0):=by unfold zWG;simp only[c2 [cob x m D vals] (by simp) (fun t=>by simp),bs,t3,(r3 _ t1).2,bne_self_eq_false,zL]
  have i3:∃b,zXy x m vals=iz (b,0)∧(b=iB↔zZv x m D vals):=by
   unfold zXy;rw[h.im,bs,J7,zL,w1,bs,J7,zL];have:=zNt h.gr.1 h.ok hV;rw[zAZ h.gr.1 h.ok hV,bs]at this ⊢
   rw[show f_z ((yZ x).map (dfc m D vals))=iz (cob x m D vals).flatten from t3,bs]at this ⊢
   rcases this with⟨e,k⟩|⟨e,k⟩
   ·exact⟨iB,by rw[e,bs],by simp[k]⟩
   ·exact⟨iC,by rw[e,bs],by simp[k]⟩
  obtain⟨b,b1,b2⟩:=i3;have hadd:(gl (base x.zA.length x.zA.length) fun i=>adv m.Prime D ((cob x m D vals).getD i []) ((cob x m D (sT x.zA.length D w)).getD i [])).flatten.length=(gl (base x.zA.length x.zA.length) fun i=>adv m.Prime D ((cob x m D vals).getD i []) ((cob x m D (sT x.zA.length D w)).getD i [])).flatten.length:=rfl;have pZ:VOk (base x.zA.length x.zA.length) m.Prime D (gl (base x.zA.length x.zA.length) fun i=>adv m.Prime D ((cob x m D vals).getD i []) ((cob x m D (sT x.zA.length D w)).getD i [])):=⟨xY,fun i hi=>by rw[xR hi];exact tR (by omega)⟩;have haz:∀i,i<base x.zA.length x.zA.length*D→at0 (gl (base x.zA.length x.zA.length) fun i=>adv m.Prime D ((cob x m D vals).getD i []) ((cob x m D (sT x.zA.length D w)).getD i [])).flatten i=0:=fun i hi=>by obtain⟨a,j,ha,hj,rfl⟩:=zDO h1 hi;have e:=q2 _ hi;rw[iu.vo.at_flat ha hj,hT.vo.at_flat ha hj]at e;rw[pZ.at_flat ha hj,xR ha,adv,zS hj,Jx,e,←Jx];rw[show at0 ((cob x m D vals).getD a []) j+ -1*at0 ((cob x m D vals).getD a []) j=0 by omega,Q9]
  have hzd:(∀i,i<base x.zA.length x.zA.length*D→at0 (cob x m D vals).flatten i=0)↔zZv x m D vals:=by
   have pb:=zBK (p:=m.Prime) (D:=D) (by omega);have ef:∀ws,Row m.Prime D (ev m D vals (z0 D) ws):=fun ws=>qT h.ok h.gr.1.os.1 hV pb ws
   have hl:=zBt h.gr.1 h6;constructor
   ·intro g q hq
    refine(zDH (ef _) (ef _)).1 fun j hj=>?_
    obtain⟨a,ha,rfl⟩:=Jt.1 hq;have:=g (a*D+j) (by have:=zDK (D:=D) (show a<base x.zA.length x.zA.length by omega);omega);rw[hT.vo.at_flat (by omega) hj,cob,J2,Jn,J5 ha]at this;exact this
   ·intro g i hi
    obtain⟨a,j,ha,hj,rfl⟩:=zDO h1 hi;rw[hT.vo.at_flat ha hj,cob,J2,Jn,J5 (by omega)];exact(zDH (ef _) (ef _)).2 (g _ (K3 _)) j hj
  have ch:=zKv gD;have e1:zOr (sT (base x.zA.length x.zA.length) D (cl m.Prime (base x.zA.length x.zA.length*D) R pv (cob x m D vals).flatten R.length))=iz iB:=one (zz ch (by omega)) (fun i hi=>by rw[zTj h1 gD.1];exact fx i hi);rw[d2,bs,d1,bs];simp only[bne_self_eq_false,zL];rw[hT.vo.like (by omega) (by omega),bs];simp only[beq_self_eq_true,J7,zL];rw[i1,bs,i2,bs,q4,bs,q3,bs];simp only[bne_self_eq_false,zL,J7];rw[e1,bs];simp only[J7,zL];rw[(zKv q1).like (by omega) (by omega),bs];simp only[beq_self_eq_true,J7,zL];rw[d4,bs,d3,bs,b1,bs];simp only[beq_self_eq_true,zK];rw[iu.vo.like (by omega) (by omega),bs];simp only[beq_self_eq_true,zK];rw[zNN h.ok.p (by omega) (by omega) hT.vo iu.vo,bs,one (zz pZ (by omega)) haz,bs,zK];rcases(zz hT.vo (by omega)).iff hzd with⟨e,k⟩|⟨e,k⟩
  ·rw[e,bs,b2.2 k];rfl
  ·rw[e,bs]
   cases b with
   |false=>rfl
   |true=>exact absurd (b2.1 rfl) k
 ·rw[i1,bs,s1,bs]
  simp only[bne_self_eq_false,zL,nl,bs,J7];rfl
theorem zD0(c:List Int)(h:VL VU c):zXz c=iz iB:=zGe c (vu h)
end Go.Pl
