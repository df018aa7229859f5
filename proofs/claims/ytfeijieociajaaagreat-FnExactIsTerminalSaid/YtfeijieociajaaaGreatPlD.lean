/- The program's IsTerminal returns what the reference's returns,for all arguments;no conditions. -/
import Derived.Test.YtfeijieociajaaaGreatPlC
import Derived.Test.YtfeijieociajaaaGreatPlA
open List renaming replicate→J1,getD_eq_getElem?_getD→J2,getElem?_eq_getElem→J3,length_append→J5,length_cons→J7,mem_cons→J9,mem_append→Ja,length_singleton→Jb,mem_map→Jc,range→Jd,length_map→Jf,append_assoc→Jg,append_nil→Jh,length_replicate→Jk,getElem?_append_right→Jm,take_left'→Jr,getElem_mem→Js,length_nil→Jt,map_cons→Ju,replicate_succ→Jv,getElem?_map→Jw,take_of_length_le→Jx,nil_append→Jz,drop_left'→K0,getElem?_append_left→K1,take_succ_eq_append_getElem→K5,map_append→K6,range'→K7,cons_append→K9,take_zero→Kc,length_take→Kd,length_drop→Kk,flatMap_cons→Kq,range_eq_range'→Ku,ext_getElem?→Kx,range_succ→Kz,map_nil→La,length_range→Le,getElem?_eq_none→Lf,mem_range→Lh,mem_flatMap→Li,take_length→Lm,eq_of_mem_replicate→H1,mem_iff_getElem→H3,filterMap_cons→Hk,range'_succ→Ho,flatMap_append→U5,getD→U7,drop_zero→Uf,flatMap_nil→qd9,getElem?_range→Qt,append_cancel_left→Qu,mem_filterMap→Jai,map_map→Jb1,mem_range'→Jb8,mem_filter→Jb9,take_append_drop→Jbm,range_zero→Jc0
open Int renaming toNat_natCast->J8,emod_eq_of_lt->Jp,mul_emod->Jy,emod_emod->K3,add_emod->Ka,emod_lt_of_pos->Kg,emod_nonneg->Kj,zero_add->Ko,add_zero->L7,emod_add_emod->G4,one_mul->Gs,sub_emod->Qe,natCast_succ->Jbe,add_mul->Jbp
open Nat renaming le_refl->Je,zero_add->Ji,lt_or_ge->Jo,mul_le_mul->Jq,succ_mul->K8,mul_one->Ly,add_sub_cancel_left->H4,add_zero->Um,add_sub_cancel->Jax
open Option renaming isSome_iff_exists->Kt,getD_some->Lt
open Bool renaming not_true->L5
open Option renaming some->jd,none->je
open Bool renaming true->jf,false->jg
namespace Go.Pl
open Go Go.Ab Go.Wk Go.Pc
variable {x:SPr}{u a:Vec}{q i k j:Nat}{C:Mx}{pc:Nat->Nat}
theorem zNl(h:Pres x):zXb x=jd (gns x):=by
 have h9:=h.os.1;have l:=zN (body:=zEX (x.zA.length:Int)) (r:=gns x) (fun i=>((Jd i).map (wZ x.zA.length),(i:Int))) x.zA.length (fun i hi=>by
  unfold zEX;simp only
  rw[show decide ((i:Int)<(x.zA.length:Int))=jf from ji,zH,yH,bs,yA 0 (by rw[Jk];exact hi),bs,show((i:Nat):Int).toNat=i from rfl,zV (by simp only[Jf,Le,Jb];omega),bs,zB,bs,Kz,K6,uB,sO];rfl) (by
  unfold zEX;simp only
  rw[show decide ((x.zA.length:Int)<(x.zA.length:Int))=jg from jh (by omega),zJ];rfl)
 unfold zXb f_v;rw[Jc0,La,show((0:Nat):Int)=0 from rfl]at l;rw[l,bs,bs]
theorem zDv(h:Pres x):∀a∈gns x,V (suf x 0) a:=fun a ha=>by
 obtain⟨k,hk,rfl⟩:=Jc.1 ha;have bj:=Lh.1 hk;refine zXM x.zA.length 0 _ (by omega) (by simp[wZ,mkv]) fun i hi=>?_
 have hp:=(h.os.2 i hi).pos;have e:at0 (wZ x.zA.length k) i=if i=k then 1 else 0:=by exact zW hi
 rw[Ji,e];split<;>omega
theorem zRi:(gns x).length=x.zA.length:=by simp[gns]
section
variable {x:SPr} (h:Pres x) (hc:xC (suf x 0))
 include h hc
theorem zSj{u:Mx}(hu:∀a∈u,V (suf x 0) a)(gT:u.length<=14){q:Int}(q0:0<=q)(q1:q<=1000):
  ∃(L:Vec->Prop)(C D:Nat->Option Vec),zXf x u q=jd (xZ C 0 x.zA.length)/\zXn u x q=jd (xZ C 0 x.zA.length)/\
   zAt x (· ∈xZ D 0 x.zA.length++u.map fun a=>pw (mul (suf x 0)) (zeros (suf x 0).length) a q.toNat) C/\zAt x L D/\(∀a,L a->V (suf x 0) a)/\
   ∀a,vP x L a↔NCl (V (suf x 0)) (mul (suf x 0)) (zeros (suf x 0).length) (· ∈cms x u (gns x) u.length) (· ∈u++gns x) a:=by
 have h9:=h.os.1;have G:=g0 h hc;obtain⟨L,D,s1,i1,d1,d2,d3⟩:=zGs h hc hu gT (zDv h) (by rw[zRi];exact h9);have hdl:=zC9 D 0 x.zA.length;obtain⟨pi,ps⟩:=zNk h hc (l0:=xZ D 0 x.zA.length) hu gT (by omega) q0 q1;have tq:∀a∈xZ D 0 x.zA.length++u.map (fun a=>pw (mul (suf x 0)) (zeros (suf x 0).length) a q.toNat),V (suf x 0) a:=fun a ha=>by
  rcases Ja.1 ha with ha|ha
  ·obtain⟨k,_,hk⟩:=Jai.1 ha
   exact(d1.i hk).2.2.1
  ·obtain⟨a0,k0,rfl⟩:=Jc.1 ha
   exact wS G.toMon (hu a0 k0) _
 obtain⟨C,c1,c2,c3⟩:=zIm h hc tq (by simp only[J5,Jf];omega);refine⟨L,C,D,?_,?_,c3,d1,d2,d3⟩
 ·unfold zXf
  rw[zNl h,bs,s1,bs,ps,bs,c1,bs]
 ·unfold zXn
  rw[zNj h,bs,i1,bs,pi,bs,c2,bs]
end
theorem zNm(a:List Int):∀l:Nat,(∀j,j<l->at0 a j=0)\/ ∃j,j<l/\(∀i,i<j->at0 a i=0)/\at0 a j≠0
 |0=>.inl fun j hj=>by omega
 |l+1=>by
  rcases zNm a l with h|⟨j,h1,h2⟩
  ·by_cases hl:at0 a l=0
   ·refine .inl fun j hj=>?_
    by_cases hjl:j=l
    ·subst hjl;exact hl
    ·exact h j (by omega)
   ·exact .inr ⟨l,by omega,h,hl⟩
  ·exact .inr ⟨j,by omega,h2⟩
noncomputable def gtb (x:SPr) (k:Nat):Option Vec:=if k<x.zA.length then jd (wZ x.zA.length k)else je
theorem zYp:xZ (gtb x) 0 x.zA.length=gns x:=by
 have:∀(l:List Nat),(∀k∈l,k<x.zA.length)->l.filterMap (gtb x)=l.map (wZ x.zA.length):=by
  intro l
  induction l with
  |nil=>intro _;rfl
  |cons k l ih=>
   intro hk;rw[Hk,gtb,if_pos (hk k (by simp)),Ju,ih fun j hj=>hk j (by simp[hj])]
 rw[xZ,this _ fun k hk=>by simpa[Jb8]using hk,gns,Ku]
section
variable {x:SPr} (h:Pres x) (hc:xC (suf x 0))
 include h hc
theorem zCZ:zAt x (· ∈gns x) (gtb x):=by
 have G:=g0 h hc;have F:=zBS h hc;have at_:∀{k j},j<x.zA.length->at0 (wZ x.zA.length k) j=if j=k then 1 else 0:=fun hj=>zW hj
 refine⟨fun{k t} hk=>?_,fun{a} ha gc=>?_⟩
 ·by_cases eY:k<x.zA.length
  ·rw[gtb,if_pos eY]at hk
   cases hk;have hm:wZ x.zA.length k∈gns x:=Jc.2 ⟨k,Lh.2 eY,rfl⟩;refine⟨eY,.x hm,zDv h _ hm,fun j hj=>?_,?_,fun j hj fL _=>?_⟩
   ·rw[at_ (by omega),if_neg (by omega)]
   ·rw[at_ eY,if_pos rfl]
   ·rw[at_ fL,if_neg (by omega)]
  ·rw[gtb,if_neg eY]at hk;cases hk
 ·have haV:=ha.in G (zDv h)
  rcases zNm a x.zA.length with hz|⟨j,h1,h2,h3⟩
  ·exact absurd (F.ex haV G.ein fun d hd=>by rw[F.e0 hd];exact hz d hd) gc
  ·exact⟨j,h1,by rw[gtb,if_pos h1];rfl,h2,h3⟩
end
section
variable {x:SPr} (h:Pres x) (hc:xC (suf x 0))
 include h hc
theorem zDw{c:Vec}(cU:V (suf x 0) c):vP x (· ∈gns x) c:=by
 have G:=g0 h hc;have F:=zBS h hc;have key:∀l k:Nat,k+l=x.zA.length-> ∀{a:Vec},V (suf x 0) a->(∀j,j<k->at0 a j=0)->vP x (· ∈gns x) a:=by
  intro l
  induction l with
  |zero=>
   intro k hk a ha za;rw[F.ex ha G.ein fun d hd=>by rw[F.e0 hd];exact za d (by omega)];exact .one
  |succ l ih=>
   intro k hk a ha za
   by_cases h0:at0 a k=0
   ·exact ih (k+1) (by omega) ha fun j hj=>by
     by_cases hjk:j=k
     ·subst hjk;exact h0
     ·exact za j (by omega)
   ·obtain⟨_,t2,t3,t4,t5,_⟩:=(zCZ h hc).i (k:=k) (t:=wZ x.zA.length k) (by rw[gtb,if_pos (by omega)])
    have eZ:=F.killl (d:=k) (by omega) t3 t4 t5 ha za;have hp:=F.pw1 (d:=k) (by omega) t3 t4 t5 (at0 x.zA k-at0 a k).toNat;have hy:=ih (k+1) (by omega) (G.cl hp.1 ha) fun j hj=>by
     by_cases hjk:j=k
     ·subst hjk;exact eZ
     ·exact F.dm (d:=k) (by omega) hp.1 ha hp.2.1 za j (by omega)
    exact Gen.right G (zDv h) (t2.pw _) ha hy
 exact key x.zA.length 0 (by omega) cU fun j hj=>by omega
end
open Go Go.Ab Go.Wk Go.Pc GrT
def EA(x:SPr)(_:Pres x/\xC (suf x 0)):Type:={a:Vec // V (suf x 0) a}
variable {x:SPr}{w:Pres x/\xC (suf x 0)}
noncomputable instance:GrT (EA x w) where
 mul a b:=⟨mul (suf x 0) a.1 b.1,(g0 w.1 w.2).cl a.2 b.2⟩
 one:=⟨zeros (suf x 0).length,(g0 w.1 w.2).ein⟩
 inv a:=⟨Classical.choose ((g0 w.1 w.2).invl a.2),(Classical.choose_spec ((g0 w.1 w.2).invl a.2)).1⟩
 as a b c:=Subtype.ext ((g0 w.1 w.2).assoc a.2 b.2 c.2)
 ol a:=Subtype.ext ((g0 w.1 w.2).onel a.2)
 or1 a:=Subtype.ext ((g0 w.1 w.2).oner a.2)
 il a:=Subtype.ext (Classical.choose_spec ((g0 w.1 w.2).invl a.2)).2.2
 ir a:=Subtype.ext (Classical.choose_spec ((g0 w.1 w.2).invl a.2)).2.1
def mkE(w:Pres x/\xC (suf x 0))(a:Vec)(h:V (suf x 0) a):EA x w:=⟨a,h⟩
theorem yB6(a b:EA x w):(a*b).1=mul (suf x 0) a.1 b.1:=rfl
theorem zRj(a:EA x w):∀k,(pg a k).1=pw (mul (suf x 0)) (zeros (suf x 0).length) a.1 k
 |0=>rfl
 |k+1=>by rw[pg,yB6,zRj a k,Pc.pw,Pc.pw,xP]
theorem zZV{a b c:EA x w}(h:mul (suf x 0) (mul (suf x 0) b.1 a.1) c.1=mul (suf x 0) a.1 b.1):c=a⁻¹*b⁻¹*a*b:=
 zQ2 (a:=b*a) (by simp only[as,cl2];rw[<-as];exact Subtype.ext h)
theorem yEe{a b c:EA x w}(h:mul (suf x 0) b.1 c.1=mul (suf x 0) a.1 b.1):c=b⁻¹*a*b:=
 zQ2 (a:=b) (by simp only[as,cl2];exact Subtype.ext h)
theorem zVx(X:Vec->Prop):Sg (A:=EA x w) fun a=>vP x X a.1:=⟨.one,fun h1 h2=>.m h1 h2,fun{a} h=>.i h (a⁻¹).2 (congrArg (·.1) (ir a))⟩
theorem zLk{X:Vec->Prop}{H:EA x w->Prop}(hH:Sg H)(hX:∀a,X a-> ∃h,H (mkE w a h))(ha:vP x X a):∃h,H (mkE w a h):=by
 induction ha with
 |one=>exact⟨_,hH.o⟩
 |x k=>exact hX _ k
 |m _ _ k1 k2=>obtain⟨a,a1⟩:=k1;obtain⟨b,b1⟩:=k2;exact⟨_,hH.m a1 b1⟩
 | @i a b _ hb hh k=>
  obtain⟨h,h1⟩:=k;refine⟨hb,?_⟩;rw[show mkE w b hb=(mkE w a h)⁻¹ from zDE (Subtype.ext hh)];exact hH.i h1
theorem zVy:Fil (fun _:EA x w=>True) (· *·) 1 x.zA.length (fun d=>at0 x.zA d) (fun a d=>at0 a.1 d):=by
 have F:=zBS w.1 w.2;exact⟨⟨⟨fun _ _=>trivial,trivial,fun _ _ _=>as _ _ _,fun _=>ol _,fun _=>or1 _⟩,fun{a} _=>⟨a⁻¹,trivial,ir a⟩⟩,fun{a d} _ hd=>F.r a.2 hd,fun hd=>F.e0 hd,
  fun{a b} _ _ h=>Subtype.ext (F.ex a.2 b.2 h),fun{a b d} _ _ hd h=>F.ad a.2 b.2 hd h⟩
def zCB(w:Pres x/\xC (suf x 0))(q i:Nat)(t:Mx):Prop:=∃Y C,t=xZ C 0 x.zA.length/\zAt x Y C/\(∀a,Y a->V (suf x 0) a)/\ ∀a:EA x w,vP x Y a.1↔Qm q i a
theorem zCB.v{t:Mx}(h:zCB w q i t):(∀a∈t,V (suf x 0) a)/\t.length<=x.zA.length/\ ∀a:EA x w,Ge (fun b=>b.1∈t) a↔Qm q i a:=by
 obtain⟨Y,C,rfl,hC,hY,hQ⟩:=h;have pL:=zEV w.1 w.2 hY hC;have hV:∀a∈xZ C 0 x.zA.length,V (suf x 0) a:=fun a ha=>((pL a).2 (.x ha)).in (g0 w.1 w.2) hY
 refine⟨hV,zC9 C 0 x.zA.length,fun a=>?_⟩;rw[<-hQ a,pL];constructor
 ·intro h;exact h.to (zVx _) fun b hb=>.x hb
 ·intro h
  obtain⟨_,h1⟩:=zLk (w:=w) (H:=Ge fun b=>b.1∈xZ C 0 x.zA.length) (Ge.s _) (fun a ha=>⟨hV a ha,.x ha⟩) h;exact h1
theorem zPk(a:EA x w):Ge (fun b=>b.1∈gns x) a:=by obtain⟨_,h1⟩:=zLk (w:=w) (H:=Ge fun b=>b.1∈gns x) (Ge.s _) (fun a ha=>⟨zDv w.1 a ha,.x ha⟩) (zDw w.1 w.2 a.2);exact h1
theorem zVz(hq:q<=1000){t:Mx}(h:zCB w q i t)(hl:x.zA.length<=14):∃s,zXf x t q=jd s/\zXn t x q=jd s/\zCB w q (i+1) s:=by
 obtain⟨hV,fd,hQ⟩:=h.v;obtain⟨L,C,D,e1,e2,c3,d1,d2,d3⟩:=zSj w.1 w.2 hV (by omega) (q:=(q:Int)) (by omega) (by omega);simp only[J8]at c3;have eg:=zEV w.1 w.2 d2 d1;have uy:Qm q i=Ge (A:=EA x w) (fun b=>b.1∈t):=funext fun a=>propext (hQ a).symm
 have hn:=Qm.n (A:=EA x w) q i;have bc:=Qm.n (A:=EA x w) q (i+1);have gK:∀a,NCl (V (suf x 0)) (mul (suf x 0)) (zeros (suf x 0).length) (· ∈cms x t (gns x) t.length) (· ∈t++gns x) a-> ∃h,Qm q (i+1) (mkE w a h):=fun a ha=>by
  induction ha with
  |one=>exact⟨_,bc.o⟩
  |x hx=>
   obtain⟨y,hy,b,hb,rfl⟩:=zLi.1 hx;obtain⟨k1,k2,_,_⟩:=zCA w.1 w.2 (hV y hy) (zDv w.1 b hb);refine⟨k1,.x (.inl ⟨mkE w y (hV y hy),mkE w b (zDv w.1 b hb),(hQ _).1 (.x hy),zZV (c:=mkE w _ k1) k2⟩)⟩
  |m _ _ k1 k2=>obtain⟨a,a1⟩:=k1;obtain⟨b,b1⟩:=k2;exact⟨_,bc.m a1 b1⟩
  | @i a b _ hb hh k=>
   obtain⟨h,h1⟩:=k;refine⟨hb,?_⟩;rw[show mkE w b hb=(mkE w a h)⁻¹ from zDE (Subtype.ext hh)];exact bc.i h1
  | @c a b c _ hb cU hh k=>
   obtain⟨h,h1⟩:=k;have tk:V (suf x 0) b:=by
    rcases Ja.1 hb with hb|hb
    ·exact hV b hb
    ·exact zDv w.1 b hb
   refine⟨cU,?_⟩;rw[yEe (a:=mkE w a h) (b:=mkE w b tk) (c:=mkE w c cU) hh];exact bc.c _ h1
 refine⟨_,e1,e2,_,C,rfl,c3,fun a ha=>?_,fun a=>⟨fun ha=>?_,fun ha=>?_⟩⟩
 ·rcases Ja.1 ha with ha|ha
  ·exact((eg a).2 (.x ha)).in (g0 w.1 w.2) d2
  ·obtain⟨b,hb,rfl⟩:=Jc.1 ha
   exact wS (g0 w.1 w.2).toMon (hV b hb) _
 ·obtain⟨_,h1⟩:=zLk (w:=w) bc.toSg (fun b hb=>by
   rcases Ja.1 hb with hb|hb
   ·exact gK b ((d3 b).1 ((eg b).2 (.x hb)))
   ·obtain⟨c,hc,rfl⟩:=Jc.1 hb
    have:Qm (A:=EA x w) q (i+1) (pg (mkE w c (hV c hc)) q):=.x (.inr ⟨_,(hQ _).1 (.x hc),rfl⟩);refine⟨wS (g0 w.1 w.2).toMon (hV c hc) _,?_⟩;rw[show mkE w _ (wS (g0 w.1 w.2).toMon (hV c hc) q)=pg (mkE w c (hV c hc)) q from Subtype.ext (zRj (mkE w c (hV c hc)) q).symm];exact this) ha
  exact h1
 ·change Ge (NX q (Qm q i)) a at ha
  rw[uy]at ha;have hN:Nm (A:=EA x w) fun a=>vP x L a.1:=Nm.of zVy (zVx _) (B:=fun b=>b.1∈gns x) zPk fun{a b} ha hb=>(d3 _).2 (.c ((d3 _).1 ha) (Ja.2 (.inr hb)) (b⁻¹*a*b).2 (by rw[<-yB6,<-yB6];simp[as,cl2]))
  refine zXJ zPk hN (fun{u b} hu hb=>(d3 _).2 (.x (zLi.2 ⟨u.1,hu,b.1,hb,?_⟩))) (zVx _) (fun b hb=>?_) (fun u hu=>?_) ha
  ·obtain⟨k1,k2,_,_⟩:=zCA w.1 w.2 u.2 b.2
   exact congrArg (·.1) (zZV (a:=u) (b:=b) (c:=mkE w _ k1) k2)
  ·exact Gen.to (fun c hc=>.x (Ja.2 (.inl hc))) ((eg _).1 hb)
  ·rw[zRj];exact .x (Ja.2 (.inr (Jc.2 ⟨u.1,hu,rfl⟩)))
variable {x:SPr}{w:Pres x/\xC (suf x 0)}
theorem zV0{s t:Mx}(ht:zCB w q i t)(hs:zCB w q (i+1) s):s.length<=t.length/\(s.length=t.length->s=t/\ ∀a:EA x w,Qm q i a->Qm q (i+1) a)/\(s.length<t.length-> ∃a:EA x w,Qm q i a/\ ¬Qm q (i+1) a):=by
 obtain⟨Y,C,rfl,hC,hY,hQ⟩:=ht;obtain⟨Z,D,rfl,hD,hZ,hR⟩:=hs;have G:=g0 w.1 w.2;have er:∀a,vP x Z a->vP x Y a:=fun a ha=>(hQ (mkE w a (ha.in G hZ))).2 ((Qm.n q i).sub ((hR (mkE w a (ha.in G hZ))).1 ha))
 have fd:=(Pc.some_len (C:=D) (D:=C) (K7 0 x.zA.length) (fun k _ hk=>Pc.Can.sub (zBS w.1 w.2) hD hC er hk)).1;refine⟨fd,fun hl=>?_,fun hl=>?_⟩
 ·have e:=zRh w.1 w.2 hY hD hC er hl
  exact⟨zIn w.1 w.2 hD hC e,fun a ha=>(hR a).1 ((e _).2 ((hQ a).2 ha))⟩
 ·refine Classical.byContradiction fun hn=>?_
  have e:∀a,vP x Z a↔vP x Y a:=fun a=>⟨er a,fun ha=>(hR (mkE w a (ha.in G hY))).2 (Classical.byContradiction fun h=>hn ⟨_,(hQ (mkE w a (ha.in G hY))).1 ha,h⟩)⟩
  rw[zIn w.1 w.2 hD hC e]at hl;omega
theorem zV1{t:Mx}(h:zCB w q i t):∀r∈t,r.length<=1000:=fun r hr=>by have:=zBs w.1 w.2 (h.v.1 r hr);have:=w.1.os.1;omega
theorem zIp(w:Pres x/\xC (suf x 0))(hq:q<=1000:=by omega):∃s,zPJ x q=jd s/\zNQ x q=jd s/\0<s.length/\s.length<=20/\(∀i,i<s.length->zCB w q i (s.getD i []))/\
  (∀i,i+1<s.length-> ∃a:EA x w,Qm q i a/\ ¬Qm q (i+1) a)/\ ∀a:EA x w,Qm q (s.length-1) a->Qm q (s.length-1+1) a:=by
 have h9:=w.1.os.1;have dv:zCB w q 0 (gns x):=⟨(· ∈gns x),gtb x,zYp.symm,zCZ w.1 w.2,zDv w.1,fun a=>⟨fun _=>trivial,fun _=>zDw w.1 w.2 a.2⟩⟩;obtain⟨s,r1,r2,r3⟩:=vX (body:=zRu (x,(q:Int))) (Q:=fun s=>zG (zIz x q) [gns x]=jd s/\0<s.length/\s.length<=20/\(∀i,i<s.length->zCB w q i (s.getD i []))/\
  (∀i,i+1<s.length-> ∃a:EA x w,Qm q i a/\ ¬Qm q (i+1) a)/\ ∀a:EA x w,Qm q (s.length-1) a->Qm q (s.length-1+1) a)
  (fun s=>zG (zIz x q) [gns x]=zG (zIz x q) s/\ ∃s0 t,s=s0++[t]/\s0.length+t.length<=19/\(∀i,i<s.length->zCB w q i (s.getD i []))/\ ∀i,i+1<s.length-> ∃a:EA x w,Qm q i a/\ ¬Qm q (i+1) a) (fun s=>30-s.length) (fun s hs=>by
   obtain⟨p7,s0,t,rfl,hl,hM,hN⟩:=hs;have gf:(s0++[t]).length=s0.length+1:=by simp
   have ht:=hM s0.length (by omega);have et:(s0++[t]).getD s0.length []=t:=by simp
   rw[et]at ht;obtain⟨z,e1,e2,hz⟩:=zVz hq ht h9;obtain⟨k1,k2,k3⟩:=zV0 ht hz;have ei:ixO (s0++[t]) ((((s0++[t]).length:Nat):Int)-1)=jd t:=by rw[show(((s0++[t]).length:Nat):Int)-1=(s0.length:Int)from by simp,yA [] (by simp)];simp
   have spec1:zIz x q (s0++[t])=cond ((z.length:Int)==(t.length:Int)) (jd (.inr (s0++[t]))) (jd (.inl (s0++[t]++[z]))):=by unfold zIz;rw[zB,bs,ei,bs,e1,bs,zV (by simp only[J5,Jb];omega),bs]
   unfold zRu;simp only
   rw[zB,bs,ei,bs,e2,bs,bs,ei,bs,zI8 (by have:=hz.v.2.1;omega) (zV1 hz),bs]
   by_cases g:z.length=t.length
   ·right
    obtain⟨g1,g2⟩:=k2 g;rw[show(z==t)=jf from by rw[g1];simp,zH];refine⟨_,rfl,?_,by omega,by omega,hM,hN,fun a=>?_⟩
    ·rw[p7,yP,spec1,show((z.length:Int)==(t.length:Int))=jf from by simp[g],zH]
    ·rw[gf,Jax];exact g2 a
   ·left
    rw[show(z==t)=jg from by apply beq_false_of_ne;intro e;exact g (by rw[e]),zJ,zV (by simp only[J5,Jb];omega),bs]
    refine⟨_,rfl,⟨?_,s0++[t],z,rfl,by omega,fun i hi=>?_,fun i hi=>?_⟩,by simp only[J5,Jb];omega⟩
    ·rw[p7,yP,spec1,show((z.length:Int)==(t.length:Int))=jg from by simp;omega,zJ]
    ·simp only[J5,Jb]at hi
     by_cases c:i<s0.length+1
     ·have:=hM i (by omega)
      rwa [J2,K1 (by omega),<-J2]
     ·obtain rfl:i=s0.length+1:=by omega
      rw[show(s0++[t]++[z]).getD (s0.length+1) []=z by simp];exact hz
    ·simp only[J5,Jb]at hi
     by_cases c:i+1<s0.length+1
     ·exact hN i (by omega)
     ·obtain rfl:i=s0.length:=by omega
      exact k3 (by omega)) 100 [gns x] (by simp)
  ⟨rfl,[],gns x,rfl,by rw[zRi];simp;omega,fun i hi=>by
   obtain rfl:i=0:=by simpa using hi
   exact dv,fun i hi=>by simp at hi⟩
 refine⟨s,?_,?_,r3⟩
 ·unfold zPJ
  rw[zNl w.1,bs,r2,bs]
 ·unfold zNQ zYY
  rw[zNj w.1,bs,r1,bs,bs]
theorem zV2(hq:q=2\/q=3\/q=5\/q=7)(ho:∀d,d<x.zA.length->at0 x.zA d=q)(h:∀a:EA x w,Qm q i a->Qm q (i+1) a)(a:EA x w)(ha:Qm q i a):a=1:=by
 have F:=zVy (w:=w);have F':Fil (fun _:EA x w=>True) (· *·) 1 x.zA.length (fun _=>(q:Int)) (fun a d=>at0 a.1 d):=⟨F.g,fun{a d} _ hd=>by
  have:=F.r (a:=a) trivial hd
  rwa [ho d hd]at this,F.e0,F.ex,fun{a b d} _ _ hd hz=>by
  have:=F.ad (a:=a) (b:=b) trivial trivial hd hz
  rwa [ho d hd]at this⟩
 refine Classical.byContradiction fun hn=>?_
 obtain⟨b,b1,b2⟩:=yD5 F' hq (fun i hi=>by obtain⟨_,_,t3,t4,t5,_⟩:=(zCZ w.1 w.2).i (k:=i) (t:=wZ x.zA.length i) (by rw[gtb,if_pos hi]);exact⟨mkE w _ t3,t4,t5⟩) (Qm.n q i) ⟨a,ha,hn⟩
 exact b2 (h b b1)
def wt(g:Nat->Int):List Nat->Int
 | []=>0
 |a::w=>g a+wt g w
theorem zBH{g:Nat->Int}:∀(u v:List Nat),wt g (u++v)=wt g u+wt g v
 | [],v=>by simp[wt]
 |a::u,v=>by rw[K9,wt,zBH u v,wt];omega
theorem zIq{g:Nat->Int}{a:Nat}:∀k:Nat,wt g (J1 k a)=k*g a
 |0=>by simp[wt]
 |k+1=>by rw[Jv,wt,zIq k,Jbe,Jbp];omega
def tsm(t:Nat->Int):Trc->Int
 | []=>0
 |q::tr=>t q.1+tsm t tr
section
variable {x:SPr}{g t:Nat->Int}
structure Wt (x:SPr) (g t:Nat->Int):Prop where
 p:∀a,a<x.zA.length->t a=wt g (nw 0 (x.zP.getD a []))-yC x a*g a
 c:∀b a,b<a->a<x.zA.length->t (base x.zA.length b+(a-(b+1)))=wt g (nw 0 (lcj x b a))-g a
variable (hW:Wt x g t)
 include hW
theorem yEf:∀{w:List Nat}{r:zC3},(∀a∈w,a<x.zA.length)->hdS x w=jd r->wt g r.2.2=wt g w+t r.1/\ ∀a∈r.2.1,a∈w:=by
 intro w r hw h;unfold hdS at h;have pw:∀{w:List Nat},(∀a∈w,a<x.zA.length)->pws x w=jd r->wt g r.2.2=wt g w+t r.1/\ ∀a∈r.2.1,a∈w:=fun{w} hw h=>by
  match w,h with
  | [],h=>cases h
  |a::w,h=>
   simp only[pws]at h
   by_cases k:(a::w).take (yC x a)=J1 (yC x a) a
   ·rw[if_pos k]at h
    cases h;refine⟨?_,fun b hb=>List.mem_of_mem_drop hb⟩;have e:=Jbm (yC x a) (a::w);rw[k]at e;have:=congrArg (wt g) e;rw[zBH,zIq]at this;simp only
    rw[zBH,hW.p a (hw a (by simp))];omega
   ·rw[if_neg k]at h;cases h
 match w,h with
 | [],h=>exact pw hw h
 | [a],h=>exact pw hw h
 |a::b::s,h=>
  simp only[swp]at h
  by_cases k:b<a
  ·rw[if_pos k]at h
   cases h;refine⟨?_,fun c hc=>by simp only at hc;simp[hc]⟩;simp only[wt];rw[zBH,hW.c b a k (hw a (by simp))];omega
  ·rw[if_neg k]at h;exact pw hw h
theorem zZW:∀{w:List Nat}{r:zC3},(∀a∈w,a<x.zA.length)->stS x w=jd r->wt g r.2.2=wt g w+t r.1/\ ∀a∈r.2.1,a∈w
 | [],_,_,h=>by cases h
 |a::w,r,hw,h=>by
  simp only[stS]at h;cases e:hdS x (a::w)with
  |some q=>rw[e]at h;cases h;exact yEf hW hw e
  |none=>
   rw[e]at h;cases e2:stS x w with
   |none=>rw[e2]at h;cases h
   |some q=>
    rw[e2]at h;cases h;obtain⟨k1,k2⟩:=zZW (fun b hb=>hw b (by simp[hb])) e2;exact⟨by simp only[wt];omega,fun b hb=>by simp[k2 b hb]⟩
theorem zV3{w w':List Nat}{tr:Trc}(hc:Col x k w tr w'):wt g w'=wt g w+tsm t tr/\ ∀q∈tr,∀a∈q.2,a<x.zA.length:=by
 induction hc with
 |refl w=>exact⟨by simp[tsm],by simp⟩
 | @step w w1 w' s r tr hw hs _ ih=>
  obtain⟨k1,k2⟩:=zZW hW (fun a ha=>(hw a ha).2) hs;simp only at k1 k2;refine⟨by rw[ih.1,k1,tsm];show _=_+(t r+_);omega,fun q hq=>?_⟩;rcases J9.1 hq with rfl|hq
  ·exact fun a ha=>(hw a (k2 a ha)).2
  ·exact ih.2 q hq
end
theorem zPl{q:Int}(hq:Prime q){n N:Nat}{T:Mx}{t:Nat->Int}(hT:∀i,i<N->Row q 1 (T.getD i [])/\at0 (T.getD i []) 0%q=t i%q):∀tr:Trc,(∀p∈tr,p.1<N/\ ∀a∈p.2,a<n)->tv q 1 (xN q 1 n) T tr=mkv 1 fun _=>tsm t tr%q
 | [],_=>by rfl
 |(r,s)::tr,h=>by
  have h0:=h (r,s) (by simp);have ih:=zPl hq hT tr fun p hp=>h p (by simp[hp])
  obtain⟨h1,h2⟩:=hT r h0.1;simp only[tv,tsm];rw[ih,zBr s (tJ hq.pos.1) h0.2,sY h1,adv];refine zX fun j hj=>?_
  obtain rfl:j=0:=by omega
  rw[zW,Int.add_emod_emod,Ka,h2,<-Ka]
theorem zRk{x:SPr}(h:Pres x)(h6:x.zA.length<=6):∀b,b<=x.zA.length->x.zA.length+((Jd b).flatMap (R2 x)).length=base x.zA.length b
 |0,_=>by simp[base]
 |b+1,hb=>by
  have ih:=zRk h h6 b (by omega);have:=(h.tl b (by omega)).2.1;have e:((Jd (b+1)).flatMap (R2 x)).length=((Jd b).flatMap (R2 x)).length+(x.zF.getD b []).length:=by rw[Kz,U5,J5];simp only[Kq,qd9,Jh,R2,Jf,Le]
  rw[zJ5 _ (by omega) b (by omega),<-ih,e];omega
theorem yB7{x:SPr}{a:Nat}(ha:a<x.zA.length):(wL x).getD a ([],[])=r1 x a:=by rw[wL,J2,K1 (by simp;exact ha)];simp[ha]
theorem yB8{x:SPr}(h:Pres x)(h6:x.zA.length<=6){b:Nat}(hb:b<x.zA.length:=by omega)(hj:b+j+1<x.zA.length:=by omega):(wL x).getD (base x.zA.length b+j) ([],[])=r2 x b j:=by
 have hf:=zRk h h6 b (by omega);have hl:=(h.tl b hb).2.1;have e:Jd x.zA.length=Jd b++b::K7 (b+1) (x.zA.length-(b+1)):=by have a1:=@List.range'_append_1 0 b (x.zA.length-b);rw[Ji,show b+(x.zA.length-b)=x.zA.length by omega,show x.zA.length-b=x.zA.length-(b+1)+1 by omega,Ho]at a1;rw[Ku,Ku,<-a1]
 have e2:(Jd x.zA.length).flatMap (R2 x)=(Jd b).flatMap (R2 x)++(R2 x b++(K7 (b+1) (x.zA.length-(b+1))).flatMap (R2 x)):=by rw[e,U5,Kq]
 have l1:((Jd x.zA.length).map (r1 x)).length=x.zA.length:=by simp
 have l2:(R2 x b).length=(x.zF.getD b []).length:=by simp only[R2,Jf,Le]
 have ei:base x.zA.length b+j-((Jd x.zA.length).map (r1 x)++(Jd b).flatMap (R2 x)).length=j:=by rw[J5,l1];omega
 rw[wL,e2,<-Jg,J2,Jm (by rw[J5,l1];omega),ei,K1 (by omega),R2,Jw,Qt (by omega)];rfl
theorem zPm{q:Int}(hq:Prime q){n:Nat}{u:Mx}:∀(w:List Nat)(v:List Int),(∀a∈w,a<n)->Row q 1 v->at0 (ev (xN q 1 n) 1 u v w) 0=(at0 v 0+wt (fun a=>at0 (u.getD a []) 0) w)%q
 | [],v,_,hv=>by have:=hv.2 0 (by omega);show at0 v 0=_;rw[wt,L7,Jp (by omega) (by omega)]
 |a::w,v,hw,hv=>by show at0 (ev (xN q 1 n) 1 u (stp (xN q 1 n) 1 u v a) w) 0=_;rw[zVp (hw a (by simp)) hv,zPm hq w _ (fun b hb=>hw b (by simp[hb])) (qT hq),uN,zW,wt,G4,Gs,Int.add_assoc]
theorem zPn{g:Nat->Int}:∀w,wt (fun a=> -g a) w= -wt g w
 | []=>rfl
 |a::w=>by rw[wt,zPn w,wt];omega
section
variable {x:SPr} (hx:zA2 x) {q:Int} (hq:Prime q) (hc:xC (suf x 0)) (h0:0<x.zA.length)
 include hx hq
theorem yB9(hi:i<x.zA.length):∃g t,Wt x g t/\ ∀r,r<base x.zA.length x.zA.length->at0 ((zC2 x (xN q 1 x.zA.length) 1).getD i []) r%q=t r%q:=by
 have h:=hx.toPres;have h6:=hx.n6;have hl:=zEF h h6;refine⟨fun a=> -at0 ((uv x.zA.length 1 i).getD a []) 0,fun r=>wt (fun a=> -at0 ((uv x.zA.length 1 i).getD a []) 0) ((wL x).getD r ([],[])).2-wt (fun a=> -at0 ((uv x.zA.length 1 i).getD a []) 0) ((wL x).getD r ([],[])).1,⟨fun a ha=>?_,fun b a hb ha=>?_⟩,fun r hr=>?_⟩
 ·rw[yB7 ha,r1,zIq]
 ·rw[yB8 h h6,r2,wt,wt,wt,wt,show b+(a-(b+1))+1=a by omega,show(x.zF.getD b []).getD (a-(b+1)) []=lcj x b a from rfl]
  omega
 ·have cz:r<(wL x).length:=by omega
  have pB:(wL x)[r]? =jd (wL x)[r]:=by simp
  obtain⟨z1,z2⟩:=yB5 h _ (Js cz);have hz:=zF2 (p:=q) (D:=1) (by have:=hq.pos;omega);have:=zMH (F:=dfc (xN q 1 x.zA.length) 1 (uv x.zA.length 1 i)) (show 0<1 by omega) (wL x) r (wL x)[r] (fun _ _=>zM6) pB;rw[Ly,Um]at this;rw[zC2,zJ7,xI,this,dfc,uN,zW,zPm hq _ _ z1 hz,zPm hq _ _ z2 hz];show _=(wt _ _-wt _ _)%q;rw[zPn,zPn,J2,pB];have e0:at0 (z0 1) 0=0:=rfl;rw[e0,Ko,Ko];show _%q%q=_;rw[K3,G4];simp only[Lt];rw[show(-1)*(wt (fun a=>at0 ((uv x.zA.length 1 i).getD a []) 0) (wL x)[r].2%q)= -(wt (fun a=>at0 ((uv x.zA.length 1 i).getD a []) 0) (wL x)[r].2%q)by omega,<-Int.sub_eq_add_neg,Qe,K3,<-Qe]
  congr 1
  omega
 include hc h0
theorem zYq{g t:Nat->Int}(hW:Wt x g t){y:Vec}(hy:Row q (base x.zA.length x.zA.length) y)(ht:∀r,r<base x.zA.length x.zA.length->at0 y r%q=t r%q):xC (suf (exx 1 x (xN q 1 x.zA.length) (Tc (base x.zA.length x.zA.length) 1 y)) 0):=by
 have h:=hx.toPres;have h6:=hx.n6;have hD:MOk x.zA.length (xN q 1 x.zA.length) 1:=zEQ hq;have hr:=zC7 (D:=1) h hq;have hB:=Ly (base x.zA.length x.zA.length);obtain⟨K,pk,_,_,k3⟩:=zAB hx hD h0 hc hr;have hz:Row q (base x.zA.length x.zA.length*1) (zeros (base x.zA.length x.zA.length*1)):=yX (by have:=hq.pos;omega);have c0:=(k3 _ hz).1 (zA5 fun j _=>by rw[wH];rfl);obtain⟨dE,dA⟩:=zMX hx hD hz;obtain⟨hE,hT⟩:=zMX hx hD (y:=y) (by rw[hB];exact hy);have pd:∀k,k<x.zA.length->LC x k:=fun k hk=>((kD h.w hk).1 (tM hc k)).2
 refine(zJA h hE hT hc hr).1 ?_;have hTT:∀i,i<base x.zA.length x.zA.length->Row q 1 ((Tc (base x.zA.length x.zA.length) 1 y).getD i [])/\at0 ((Tc (base x.zA.length x.zA.length) 1 y).getD i []) 0%q=t i%q:=fun i hi=>by
  have e:(Tc (base x.zA.length x.zA.length) 1 y).getD i []=mkv 1 fun j=>at0 y (i*1+j):=by rw[Tc,xI hi];rfl
  refine⟨hT i (by rw[Tc,wK];exact hi),?_⟩;rw[e,zW,Ly,Um];exact ht i hi
 have bb:=xY x.zA.length (by omega);have key:∀{k r1 r2:Nat}{s1 s2 w1 w2:List Nat}{u1 u2:Trc}{y1 y2:Vec},tR x k w1 u1 y1->tR x k w2 u2 y2->y1=y2->r1<base x.zA.length x.zA.length->r2<base x.zA.length x.zA.length->(∀a∈s1,a<x.zA.length)->(∀a∈s2,a<x.zA.length)->t r1-wt g w1=t r2-wt g w2->
   tv q 1 (xN q 1 x.zA.length) (Tc (base x.zA.length x.zA.length) 1 y) ((r1,s1)::u1)=tv q 1 (xN q 1 x.zA.length) (Tc (base x.zA.length x.zA.length) 1 y) ((r2,s2)::u2):=by
  intro k r1 r2 s1 s2 w1 w2 u1 u2 y1 y2 k1 k2 hyy b1 b2 a1 a2 he;obtain⟨e1,l1⟩:=zV3 hW k1.col;obtain⟨e2,l2⟩:=zV3 hW k2.col;have m1:=Col.lt h6 k1.col;have m2:=Col.lt h6 k2.col;rw[zPl hq hTT _ (fun p hp=>by
   rcases J9.1 hp with rfl|hp
   ·exact⟨b1,a1⟩
   ·exact⟨m1 p hp,l1 p hp⟩),zPl hq hTT _ (fun p hp=>by
   rcases J9.1 hp with rfl|hp
   ·exact⟨b2,a2⟩
   ·exact⟨m2 p hp,l2 p hp⟩)]
  refine zX fun _ _=>?_
  subst hyy
  congr 1
  simp only[tsm];omega
 have ho:∀i,i<x.zA.length->1<=yC x i:=fun i hi=>by have:=(h.os.2 i hi).pos;show 1<=(at0 x.zA i).toNat;omega
 have fw:∀i j,i<j->j<x.zA.length->base x.zA.length i+(j-(i+1))<base x.zA.length x.zA.length:=fun i j hi hj=>by have:=zAa x.zA.length (by omega) i (by omega);omega
 have hm1:∀o:Nat,1<=o-> ∀c:Int,((o-1:Nat):Int)*c=o*c-c:=fun o ho c=>by rw[Int.natCast_sub ho,Int.sub_mul];omega
 refine⟨?_,?_,?_,?_⟩
 ·rintro k j h1 h2 t1 t2 ⟨⟨u1,y1,rfl,k1⟩,⟨u2,y2,rfl,k2⟩⟩
  refine key k1 k2 (zUX h dE dA (by omega) (tM c0 _) (pd k (by omega)) (by omega) h2 k1 k2).1 (by omega) (fw k j h1 h2) (by simp;omega) (by simp) ?_;rw[hW.p j h2,hW.c k j h1 h2,zBH,zBH,zIq,wt,wt,wt,hm1 _ (ho j h2)];omega
 ·rintro k i j h1 gI h2 t1 t2 ⟨⟨u1,y1,rfl,k1⟩,⟨u2,y2,rfl,k2⟩⟩
  refine key k1 k2 (zUY h dE dA (by omega) (tM c0 _) (pd k (by omega)) (by omega) gI h2 k1 k2).1 (fw i j gI h2) (fw k i h1 (by omega)) (by simp;omega) (by simp) ?_;rw[hW.c i j gI h2,hW.c k i h1 (by omega),wt,zBH,wt,wt,wt,wt];omega
 ·rintro k hk t1 t2 ⟨⟨u1,y1,rfl,k1⟩,⟨u2,y2,rfl,k2⟩⟩
  refine key k1 k2 (zUW h dE dA hk (tM c0 _) (pd k hk) k1 k2).1 (by omega) (by omega) (by simp;omega) (by simp) ?_;rw[zBH,wt,wt,wt];omega
 ·rintro k j h1 h2 t1 t2 ⟨⟨u1,y1,rfl,k1⟩,⟨u2,y2,rfl,k2⟩⟩
  refine key k1 k2 (zVa h dE dA (by omega) (tM c0 _) (pd k (by omega)) (by omega) h2 k1 k2).1 (fw k j h1 h2) (by omega) (fun a ha=>by rw[H1 ha];omega) (by simp) ?_;rw[hW.c k j h1 h2,hW.p k (by omega),wt,zBH,zIq,wt,hm1 _ (ho k (by omega))];omega
end
section
variable {x:SPr} (hc:uK x) (hp:zIC x)
 include hc hp
theorem zPo(hC:zIw x=jd C):∀i,i<C.length->xC (suf (exx 1 x (xN (at0 x.zA 0) 1 x.zA.length) (Tc (base x.zA.length x.zA.length) 1 (C.getD i []))) 0):=by
 have hx:=hc.2.2;have h6:=hx.n6;have hq:=hc.1.os.2 0 hp.1;have hD:MOk x.zA.length (xN (at0 x.zA 0) 1 x.zA.length) 1:=zEQ hq;have hr:=zC7 (D:=1) hc.1 hq;have hb:=xY x.zA.length (by omega);have hB:=Ly (base x.zA.length x.zA.length);obtain⟨R,pv,r1,r2,r3,r4⟩:=zJD hx hD;obtain⟨R',pv',r1',_,s1,_⟩:=zUN hx hD;rw[r1]at r1';cases r1';obtain⟨K,pk,k1,k2,k3⟩:=zAB hx hD hp.1 hc.2.1 hr;have hK:=k2.len_le;have hl:(gl K.length fun i=>cl (xN (at0 x.zA 0) 1 x.zA.length).Prime (base x.zA.length x.zA.length*1) R pv (K.getD i []) R.length).length=K.length:=wK;obtain⟨C',pc,c1,c2,c3,c4⟩:=sK hD.p (n:=base x.zA.length x.zA.length*1) (rows:=gl K.length fun i=>cl (xN (at0 x.zA 0) 1 x.zA.length).Prime (base x.zA.length x.zA.length*1) R pv (K.getD i []) R.length) (by omega) (by omega) (fun i hi=>by rw[hl]at hi;rw[xI hi];exact(r4 _ (k2.row i hi)).1)
 have e:zIw x=jd C':=by
  unfold zIw zYL;rw[show(0:Int)=((0:Nat):Int)from rfl,yK hp.1,bs,show(1:Int)=((1:Nat):Int)from rfl,zJE hq h6,bs,bs];unfold zWR;rw[r1,bs,k1,bs,wG (body:=zGg (xN (at0 x.zA 0) 1 x.zA.length) R K) K.length (fun i=>cl (xN (at0 x.zA 0) 1 x.zA.length).Prime (base x.zA.length x.zA.length*1) R pv (K.getD i []) R.length) (fun i acc hi ha=>by
   unfold zGg;simp only
   rw[yS hi,zH,yA [] hi,bs,(r4 _ (k2.row i hi)).2.1,bs,zV (by simp only[J7,Jt];omega),bs,zB,bs];rfl) (fun acc=>by
   unfold zGg;simp),bs,c1,bs,bs]
 rw[e]at hC;cases hC;have hR:∀i,i<R.length->Sp (at0 x.zA 0) (base x.zA.length x.zA.length*1) K (R.getD i []):=fun i hi=>by
  refine sJ (fun k hk=>?_) ((s1 _).1 (uO hi));have bj:k<x.zA.length:=by have:(zC2 x (xN (at0 x.zA 0) 1 x.zA.length) 1).length=x.zA.length*1:=wK;omega
  have gG:=zRS hx hD (i:=k) (by omega);obtain⟨g,t,g1,g2⟩:=yB9 hx hq bj;refine(k3 _ gG).2 (zYq hx hq hc.2.1 hp.1 g1 ?_ g2);rw[hB]at gG;exact gG
 intro i hi;refine(k3 _ (c3.row i hi)).1 (sJ (fun k hk=>?_) (c4.iff.1 (uO hi)));rw[hl]at hk;rw[xI hk];obtain⟨cf,c7⟩:=zQC hD.p (by omega) r2 (k2.row k hk) R.length (Je _);refine jH (k:=1) (v:=K.getD k []) (w:=mkv (base x.zA.length x.zA.length*1) fun j=>S R.length fun k=>cf k*ent R k j) (uO hk) (sJ hR ⟨cf,fun j hj=>by rw[zW hj]⟩) fun j hj=>?_
 rw[zW hj,Gs];exact c7 j hj
theorem zRl{D:Nat}(dH:D<=8):Mv D x.zA.length (xN (at0 x.zA 0) D x.zA.length) (xN (at0 x.zA 0) D x.zA.length):=by
 have hq:=hc.1.os.2 0 hp.1;have hE:=zIg (n:=x.zA.length) (D:=D) hq;refine⟨rfl,fun k hk u hu=>?_⟩;have hA:=hE.mat k hk;have gT:=hu.1;have hl:=hE.len;unfold zWA;rw[yP]
 by_cases hD:D=0
 ·subst hD
  unfold zDx;simp only
  rw[jh (by omega),zJ];rfl
 have e1:zDx (xN (at0 x.zA 0) D x.zA.length) u (k:Int) ([],0)=jd (.inl (xK (xN (at0 x.zA 0) D x.zA.length).Prime D u ((xN (at0 x.zA 0) D x.zA.length).zL.getD k []),(D:Int))):=by
  unfold zDx;simp only
  rw[ji,zH,hE.d,zB,bs,Ko];have cx:zR u 0 (D:Int)=jd u:=by
   unfold zR;rw[if_pos (by omega)]
   congr 1
   rw[show((D:Int)).toNat=D from by omega,show(0:Int).toNat=0 from rfl,Uf,Jx (by omega)]
  rw[cx,bs,yA [],bs,zDH hE.p (by omega) hu hA,bs,zV (by grind[xK,zU]),bs,bs,Jz]
 have e2:zDx (xN (at0 x.zA 0) D x.zA.length) u (k:Int) (xK (xN (at0 x.zA 0) D x.zA.length).Prime D u ((xN (at0 x.zA 0) D x.zA.length).zL.getD k []),(D:Int))=jd (.inr (xK (xN (at0 x.zA 0) D x.zA.length).Prime D u ((xN (at0 x.zA 0) D x.zA.length).zL.getD k []))):=by
  unfold zDx;simp only
  rw[jh (by omega),zJ]
 rw[e1];simp only
 rw[yP,e2];rfl
theorem zV4(hR:Red (at0 x.zA 0) (base x.zA.length x.zA.length) C pc)(dH:C.length<=30):
  ExB x.zA.length C.length x (xN (at0 x.zA 0) C.length x.zA.length) (kI (base x.zA.length x.zA.length) C)/\ ∀i,i<(kI (base x.zA.length x.zA.length) C).length->Row (at0 x.zA 0) C.length ((kI (base x.zA.length x.zA.length) C).getD i []):=by
 have hx:=hc.2.2;have hq:=hc.1.os.2 0 hp.1;have hD:MOk x.zA.length (xN (at0 x.zA 0) 1 x.zA.length) 1:=zEQ hq;have hE:=zIg (n:=x.zA.length) hq dH;refine⟨zOU hx hD ⟨hE.p,by omega,hE.len,hE.mat⟩ zC8,fun i hi=>?_⟩;rw[zC8]at hi;rw[kI,xI hi];exact⟨zU _ _,fun j hj=>by rw[zW hj];exact(hR.row j hj).2 i hi⟩
theorem zPp(hC:zIw x=jd C)(hR:Red (at0 x.zA 0) (base x.zA.length x.zA.length) C pc)(dH:C.length<=8):
  xC (suf (exx C.length x (xN (at0 x.zA 0) C.length x.zA.length) (kI (base x.zA.length x.zA.length) C)) 0):=by
 have hx:=hc.2.2;have hq:=hc.1.os.2 0 hp.1;have hD:MOk x.zA.length (xN (at0 x.zA 0) 1 x.zA.length) 1:=zEQ hq;obtain⟨hE,hT⟩:=zV4 hc hp hR (by omega);have hM:=zRl hc hp dH;obtain⟨L,l1,l2,l3,l4⟩:=zHZ (φ:=id) hc.1 hE hT hE hT ⟨rfl,fun _ h=>h,rfl,fun _ _ _ _=>rfl,fun _ _ _ _=>rfl,fun _ _=>rfl⟩ hM hc.2.1 (zC7 hc.1 hq);refine l4.1 fun r hr=>?_
 have gG:=l3 r hr;show r=_;rw[show zeros C.length=mkv C.length fun _=>0 from uB _];refine(vE gG.1).trans (zX fun j hj=>?_);have hy:=hR.row j hj;obtain⟨gN,gR⟩:=zMX hx hD (y:=C.getD j []) (by rw[Ly];exact hy);obtain⟨L',m1,_,_,m4⟩:=zHZ (φ:=fun u=>mkv 1 fun _=>at0 u j) hc.1 hE hT gN gR ⟨rfl,fun u hu=>yDX hq hj hu,by
  show(mkv 1 fun _=>at0 (zeros C.length) j)=_;rw[wH];rfl,fun u v hu hv=>zX fun i hi=>by
  obtain rfl:i=0:=by omega
  rw[adv,zW hj,zW,zW],fun k hk u hu=>by
  have fq:Row (at0 x.zA 0) C.length u:=hu;rw[qP hk,qP hk];show(mkv 1 fun _=>at0 (xK (at0 x.zA 0) C.length u (idM C.length)) j)=xK (at0 x.zA 0) 1 (mkv 1 fun _=>at0 u j) (idM 1);rw[zGC fq,zGC (yDX hq hj fq)],fun r hr=>by
  rw[kI,xI hr,Tc,xI hr];refine zX fun i hi=>?_
  obtain rfl:i=0:=by omega
  rw[zW hj,Ly,Um]⟩ hM hc.2.1 (zC7 hc.1 hq)
 rw[l1]at m1;cases m1;have e:at0 (mkv 1 fun _=>at0 r j) 0=at0 (zeros 1) 0:=congrArg (fun v=>at0 v 0) (m4.2 (zPo hc hp hC j hj) r hr);rw[zW,wH]at e;exact e
end
structure zNn (x:SPr) (C:Mx) (q:Nat):Prop where
 c:uK x
 p:zIC x
 q:at0 x.zA 0=q
 d:C.length<=8
 r:∀i,i<C.length->Row (at0 x.zA 0) (base x.zA.length x.zA.length) (C.getD i [])
 e:ExB x.zA.length C.length x (xN (at0 x.zA 0) C.length x.zA.length) (kI (base x.zA.length x.zA.length) C)
 t:∀i,i<(kI (base x.zA.length x.zA.length) C).length->Row (at0 x.zA 0) C.length ((kI (base x.zA.length x.zA.length) C).getD i [])
 cc:xC (suf (exx C.length x (xN (at0 x.zA 0) C.length x.zA.length) (kI (base x.zA.length x.zA.length) C)) 0)
abbrev cvX(x:SPr)(C:Mx):SPr:=exx C.length x (xN (at0 x.zA 0) C.length x.zA.length) (kI (base x.zA.length x.zA.length) C)
section
variable {x:SPr}{C:Mx}{q:Nat} (h:zNn x C q)
 include h
theorem yFs:q=2\/q=3\/q=5\/q=7:=by have:=h.c.1.os.2 0 h.p.1;rw[h.q]at this;rcases this with h|h|h|h<;>omega
theorem zDT:(cvX x C).zA.length=x.zA.length+C.length:=xV h.c.1 h.e h.t
theorem zPq:Pres (cvX x C):=(zE9 h.c.1 h.e h.t).p (by rw[zDT h];have:=h.c.2.2.n6;have:=h.d;omega)
theorem zEW:Pres (cvX x C)/\xC (suf (cvX x C) 0):=⟨zPq h,h.cc⟩
theorem zGe:Pres x/\xC (suf x 0):=⟨h.c.1,h.c.2.1⟩
theorem zPr(v:Vec):V (suf (cvX x C) 0) v↔ ∃y u,v=y++u/\V (suf x 0) y/\Row (at0 x.zA 0) C.length u:=tK h.c.1 h.e h.t x.zA.length 0 (by omega) v
theorem zYr{d:Nat}(hd:d<x.zA.length):at0 x.zA d=q:=by rw[h.p.2 d hd,h.q]
abbrev EX(h:zNn x C q):Type:=EA (cvX x C) (zEW h)
abbrev EG(h:zNn x C q):Type:=EA x (zGe h)
theorem zAD{v:Vec}(hv:V (suf x 0) v):v.length=x.zA.length:=zBs h.c.1 h.c.2.1 hv
 omit h in
def pj(h:zNn x C q)(a:EX h):EG h:=mkE (zGe h) (a.1.take x.zA.length) (by
  obtain⟨y,u,e,hy,_⟩:=(zPr h a.1).1 a.2;rw[e,Jr (zAD h hy)];exact hy)
 omit h in
def up(h:zNn x C q)(b:EG h):EX h:=mkE (zEW h) (b.1++zeros C.length) ((zPr h _).2 ⟨b.1,_,rfl,b.2,yX (by have:=(h.c.1.os.2 0 h.p.1).pos;omega)⟩)
theorem zPs(a b:EX h):pj h (a*b)=pj h a*pj h b:=Subtype.ext (zG7 h.c.1 h.e h.t x.zA.length 0 (by omega) a.1 b.1 a.2 b.2)
theorem zRm(b:EG h):pj h (up h b)=b:=Subtype.ext (Jr (zAD h b.2))
theorem zV5{a:EX h}(ha:pj h a=1):∃u,Row (at0 x.zA 0) C.length u/\a.1=zeros x.zA.length++u:=by obtain⟨y,u,e,hy,hu⟩:=(zPr h a.1).1 a.2;have:=congrArg (·.1) ha;have e2:a.1.take x.zA.length=zeros (suf x 0).length:=this;rw[e,Jr (zAD h hy)]at e2;refine⟨u,hu,?_⟩;rw[e,e2,yB];rfl
theorem yFt(y:Vec):aM (xN (at0 x.zA 0) C.length x.zA.length) C.length 0 y=idM C.length:=by
 have hi:=tJ (D:=C.length) (h.c.1.os.2 0 h.p.1).pos.1;refine qD (S:=(· =idM C.length)) (fun{a b} ha hb=>?_) _ _ (fun c hc=>?_) rfl
 ·rw[ha,hb];exact zCQ hi
 ·rw[Uf,xN]at hc
  obtain⟨_,_,rfl⟩:=Jc.1 hc;rfl
theorem zRn{y r:Vec}(hy:V (suf x 0) y)(hu:Row (at0 x.zA 0) C.length u)(hr:Row (at0 x.zA 0) C.length r):mul (suf (cvX x C) 0) (y++u) (zeros x.zA.length++r)=y++adv (at0 x.zA 0) C.length u r:=zDt h.c.1 h.e h.t x.zA.length 0 (by omega) y u r hy hu hr
theorem z0V:V (suf x 0) (zeros x.zA.length):=by
 have:=(g0 h.c.1 h.c.2.1).ein
 rwa [yB]at this
theorem yFu(z:EX h)(hz:pj h z=1)(a:EX h):z*a=a*z:=by obtain⟨u,hu,e⟩:=zV5 h hz;obtain⟨y,v,e2,hy,hv⟩:=(zPr h a.1).1 a.2;refine Subtype.ext ?_;show mul _ z.1 a.1=mul _ a.1 z.1;have:=zML h.c.1 h.e h.t x.zA.length 0 (by omega) u y v hu hy hv;rw[yFt h,show(xN (at0 x.zA 0) C.length x.zA.length).Prime=at0 x.zA 0 from rfl,zGC hu]at this;rw[e,e2,zRn h hy hv hu,uS];exact this
theorem yBA{z:EX h}{u:Vec}(hu:Row (at0 x.zA 0) C.length u)(e:z.1=zeros x.zA.length++u):∀k,(pg z k).1=zeros x.zA.length++iter k (fun w=>adv (at0 x.zA 0) C.length w u) (zeros C.length)/\Row (at0 x.zA 0) C.length (iter k (fun w=>adv (at0 x.zA 0) C.length w u) (zeros C.length))
 |0=>by have hp:=(h.c.1.os.2 0 h.p.1).pos;refine⟨?_,yX⟩;show zeros (suf (cvX x C) 0).length=_;rw[yB,zDT h];simp[zeros,iter]
 |k+1=>by
  have hp:=(h.c.1.os.2 0 h.p.1).pos;obtain⟨h1,h2⟩:=yBA hu e k;rw[xP];refine⟨?_,zU _ _,fun j hj=>?_⟩
  ·show mul _ (pg z k).1 z.1=_
   rw[h1,e,zRn h (z0V h) h2 hu]
  ·rw[adv,zW hj]
   exact⟨Kj _ (by omega),by have:=Kg (at0 (iter k (fun w=>adv (at0 x.zA 0) C.length w u) (zeros C.length)) j+at0 u j) (show 0<at0 x.zA 0 by omega);omega⟩
theorem yFv(z:EX h)(hz:pj h z=1):pg z q=1:=by
 obtain⟨u,hu,e⟩:=zV5 h hz;have hp:=(h.c.1.os.2 0 h.p.1).pos;have:=(yBA h hu e q).1;have hq:q=(at0 x.zA 0).toNat:=by rw[h.q];omega
 have e2:iter q (fun w=>adv (at0 x.zA 0) C.length w u) (zeros C.length)=zeros C.length:=by rw[hq];exact zOM (p:=at0 x.zA 0) (D:=C.length)
 rw[e2]at this;refine Subtype.ext (this.trans ?_);show _=zeros (suf (cvX x C) 0).length;rw[yB,zDT h];simp[zeros]
theorem yBB{t:Mx}(ht:zCB (zGe h) q k t)(hk:∀b:EG h,Qm q (k+1) b->b=1)(a:EX h):Qm q (k+1) a↔Ge (RwC (up h) q (fun b=>b.1∈t) (fun b=>b.1∈gns x)) a:=
 cov (zPs h) (zRm h) (yFu h) (yFv h) zPk hk ht.v.2.2 a
theorem zSk:∃k s S,zPJ x q=jd s/\zNQ x q=jd s/\s.length=k+2/\k<=20/\zCB (zGe h) q k (s.getD k [])/\(∀b:EG h,Qm q (k+1) b->b=1)/\
  zNQ (cvX x C) q=jd S/\k+1<S.length/\zCB (zEW h) q (k+1) (S.getD (k+1) []):=by
 have hq:=yFs h;obtain⟨s,s1,s2,s3,s4,s5,s6,s7⟩:=zIp (zGe h) (q:=q);obtain⟨S,t1,t2,t3,t4,t5,t6,t7⟩:=zIp (zEW h) (q:=q);have hl:=zV2 hq (fun d hd=>zYr h hd) s7;have av:2<=s.length:=by
  refine Classical.byContradiction fun hn=>?_
  have e:s.length-1=0:=by omega
  rw[e]at hl;obtain⟨_,_,u3,_,u5,_⟩:=(zCZ h.c.1 h.c.2.1).i (k:=0) (t:=wZ x.zA.length 0) (by rw[gtb,if_pos h.p.1]);have:=congrArg (·.1) (hl (mkE (zGe h) _ u3) trivial);have e3:wZ x.zA.length 0=zeros (suf x 0).length:=this;rw[e3,wH]at u5;omega
 obtain⟨k,hk⟩:∃k,s.length=k+2:=⟨s.length-2,by omega⟩;rw[show s.length-1=k+1 by omega]at hl;have hS:k+1<S.length:=by
  refine Classical.byContradiction fun hn=>?_
  obtain⟨b,b1,b2⟩:=s6 (S.length-1) (by omega);obtain⟨a,a1,rfl⟩:=Qm.back (zPs h) (zRm h) q (S.length-1) b1;exact b2 (Qm.to (zPs h) q _ (t7 a a1))
 exact⟨k,s,S,s1,s2,hk,by omega,s5 k (by omega),hl,t2,hS,t5 _ hS⟩
end
section
variable {x:SPr}{C:Mx}{q:Nat}
noncomputable def pwr (x:SPr) (C:Mx) (q:Nat) (a:Vec):Vec:=(pw (mul (suf (cvX x C) 0)) (zeros (suf (cvX x C) 0).length) (a++zeros C.length) q).drop x.zA.length
noncomputable def gpr (x:SPr) (C:Mx) (a:Vec) (i:Nat):Vec:=uN (at0 x.zA 0) C.length ((mul (suf (cvX x C) 0) (a++zeros C.length) (wZ x.zA.length i++zeros C.length)).drop x.zA.length) (-1) ((mul (suf (cvX x C) 0) (wZ x.zA.length i++zeros C.length) (a++zeros C.length)).drop x.zA.length)
noncomputable def rw1 (x:SPr) (C:Mx) (q:Nat) (a:Vec):Mx:=pwr x C q a::(Jd x.zA.length).map (gpr x C a)
noncomputable def nrw (x:SPr) (C:Mx) (q:Nat) (t:Mx):Mx:=t.flatMap (rw1 x C q)
variable (h:zNn x C q)
 include h
theorem zIr(ha:V (suf x 0) a):V (suf (cvX x C) 0) (a++zeros C.length):=(up h (mkE _ a ha)).2
theorem zPt(hi:i<x.zA.length):V (suf x 0) (wZ x.zA.length i):=zDv h.c.1 _ (Jc.2 ⟨i,Lh.2 hi,rfl⟩)
theorem zIs{v:Vec}(hv:V (suf (cvX x C) 0) v):Row (at0 x.zA 0) C.length (v.drop x.zA.length):=by obtain⟨y,u,rfl,hy,hu⟩:=(zPr h v).1 hv;rw[K0 (zAD h hy)];exact hu
theorem zYs(ha:V (suf x 0) a):Row (at0 x.zA 0) C.length (pwr x C q a):=zIs h (wS (g0 (zPq h) h.cc).toMon (zIr h ha) q)
theorem zYt:Row (at0 x.zA 0) C.length (gpr x C a i):=qT (h.c.1.os.2 0 h.p.1)
theorem zNo(w:Vec):prE x 0 w=⟨w.take x.zA.length,w.drop x.zA.length⟩:=by have _:=h;rw[prE,fv0];rfl
theorem zV6(ha:V (suf x 0) a):(⟨a,zeros C.length⟩:zC)=prE x 0 (a++zeros C.length):=by rw[zNo h,Jr (zAD h ha),K0 (zAD h ha)]
theorem zV7{b:Vec}(ha:V (suf (cvX x C) 0) a)(hb:V (suf (cvX x C) 0) b):f_b ⟨x,xN (at0 x.zA 0) C.length x.zA.length,kI (base x.zA.length x.zA.length) C⟩ 0 (prE x 0 a) (prE x 0 b)=jd (prE x 0 (mul (suf (cvX x C) 0) a b)):=
 zEE h.c.1 h.e h.t (zRl h.c h.p (by have:=h.d;omega)) (k:=0) (by omega) a b ha hb
theorem zYu{b:Vec}(ha:V (suf (cvX x C) 0) a)(hb:V (suf (cvX x C) 0) b):zIv ⟨x,xN (at0 x.zA 0) C.length x.zA.length,kI (base x.zA.length x.zA.length) C⟩ (prE x 0 a) (prE x 0 b)=jd (uN (at0 x.zA 0) C.length (a.drop x.zA.length) (-1) (b.drop x.zA.length)):=by
 have hq:=h.c.1.os.2 0 h.p.1;have h7:=hq.pos;unfold zIv;rw[zNo h,zNo h];simp only
 rw[show(xN (at0 x.zA 0) C.length x.zA.length).Prime=at0 x.zA 0 from rfl,zB,bs,uR hq (zIs h ha) (zIs h hb) (by omega) (by have:=h.d;omega),bs,zB3]
theorem zV8{s:List Mx}(hs:zPJ x q=jd s)(hk:s.length=k+2)(eZ:k<=20)(hV:∀a∈s.getD k [],V (suf x 0) a)(hl:(s.getD k []).length<=6):
  f_A x C=f_q (at0 x.zA 0) (nrw x C q (s.getD k [])):=by
 have hq:=h.c.1.os.2 0 h.p.1;have h7:=hq.pos;have h6:=h.c.2.2.n6;have hd:=h.d;have hb:=xY x.zA.length (by omega);have G:=g0 (zPq h) h.cc;have pB:(at0 x.zA 0)=(q:Int):=h.q;have eM:0<(kI (base x.zA.length x.zA.length) C).length:=by rw[zC8];have:=h.p.1;omega
 have hz:zIu ⟨x,xN (at0 x.zA 0) C.length x.zA.length,kI (base x.zA.length x.zA.length) C⟩=jd ⟨zeros x.zA.length,zeros C.length⟩:=by unfold zIu;rw[ji (by show((kI _ C).length:Int)> 0;omega),zH,show(0:Int)=((0:Nat):Int)from rfl,yA [] eM,bs,yH (by show x.zA.length<=_;omega),bs,yH (by rw[(h.t 0 eM).1];omega),bs,(h.t 0 eM).1];rfl
 have pwV:∀{a:Vec},V (suf x 0) a-> ∀j,V (suf (cvX x C) 0) (pw (mul (suf (cvX x C) 0)) (zeros (suf (cvX x C) 0).length) (a++zeros C.length) j):=fun ha j=>wS G.toMon (zIr h ha) j
 have cz:∀a,(rw1 x C q a).length=x.zA.length+1:=fun a=>by simp[rw1]
 have bq:∀l:Mx,(l.flatMap (rw1 x C q)).length=l.length*(x.zA.length+1):=fun l=>by
  induction l with
  |nil=>simp
  |cons a l ih=>rw[Kq,J5,ih,cz,J7,K8];omega
 have iJ:∀j,j<=(s.getD k []).length->(((s.getD k []).take j).flatMap (rw1 x C q)).length<=6*7:=fun j hj=>by rw[bq];exact Jq (by rw[Kd];omega) (by omega)
 have main:=zN (body:=zXi x (at0 x.zA 0) (s.getD k []) (xN (at0 x.zA 0) C.length x.zA.length) (kI (base x.zA.length x.zA.length) C) ⟨zeros x.zA.length,zeros C.length⟩) (r:=nrw x C q (s.getD k [])) (fun j=>(((s.getD k []).take j).flatMap (rw1 x C q),(j:Int))) (s.getD k []).length (fun j hj=>by
  have hm:(s.getD k [])[j]∈s.getD k []:=Js hj;have ha:=hV _ hm;have e0:(s.getD k []).getD j []=(s.getD k [])[j]:=by rw[J2,J3 hj];rfl
  have hjl:=iJ j (by omega);have l1:=zN (body:=zXg x (at0 x.zA 0) (xN (at0 x.zA 0) C.length x.zA.length) (kI (base x.zA.length x.zA.length) C) ⟨zeros x.zA.length,zeros C.length⟩ (s.getD k [])[j])
   (r:=((pw (mul (suf (cvX x C) 0)) (zeros (suf (cvX x C) 0).length) ((s.getD k [])[j]++zeros C.length) q).take x.zA.length,pwr x C q (s.getD k [])[j]))
   (fun i=>((pw (mul (suf (cvX x C) 0)) (zeros (suf (cvX x C) 0).length) ((s.getD k [])[j]++zeros C.length) i).take x.zA.length,(pw (mul (suf (cvX x C) 0)) (zeros (suf (cvX x C) 0).length) ((s.getD k [])[j]++zeros C.length) i).drop x.zA.length,(i:Int))) q (fun i hi=>by
    unfold zXg;simp only
    rw[ji,zH,<-zNo h,zV6 h ha,zV7 h (pwV ha i) (zIr h ha),bs,zB,bs,zNo h];simp only
    rw[show pw (mul (suf (cvX x C) 0)) (zeros (suf (cvX x C) 0).length) ((s.getD k [])[j]++zeros C.length) (i+1)=mul (suf (cvX x C) 0) (pw (mul (suf (cvX x C) 0)) (zeros (suf (cvX x C) 0).length) ((s.getD k [])[j]++zeros C.length) i) ((s.getD k [])[j]++zeros C.length)from by rw[Pc.pw,xP];rfl];rfl) (by
    unfold zXg;simp only
    rw[jh (by omega),zJ];rfl)
  have ez:zeros (suf (cvX x C) 0).length=zeros x.zA.length++zeros C.length:=by rw[yB,zDT h];simp[zeros]
  rw[show pw (mul (suf (cvX x C) 0)) (zeros (suf (cvX x C) 0).length) ((s.getD k [])[j]++zeros C.length) 0=zeros x.zA.length++zeros C.length from ez,Jr (zT _),K0 (zT _),show((0:Nat):Int)=0 from rfl]at l1;have l2:=zN (body:=zXh x (xN (at0 x.zA 0) C.length x.zA.length) (kI (base x.zA.length x.zA.length) C) ⟨zeros x.zA.length,zeros C.length⟩ (s.getD k [])[j])
   (r:=((s.getD k []).take (j+1)).flatMap (rw1 x C q))
   (fun i=>(((s.getD k []).take j).flatMap (rw1 x C q)++pwr x C q (s.getD k [])[j]::(Jd i).map (gpr x C (s.getD k [])[j]),(i:Int))) x.zA.length (fun i hi=>by
    have hu:=zPt h hi;unfold zXh;simp only
    rw[yS hi,zH,yDY hi,bs,zV6 h ha,zV6 h hu,zV7 h (zIr h ha) (zIr h hu),bs,zV7 h (zIr h hu) (zIr h ha),bs,zYu h ((ok0 (zPq h) h.cc|> fun o=>yO o (zIr h ha) (zIr h hu))) ((ok0 (zPq h) h.cc|> fun o=>yO o (zIr h hu) (zIr h ha))),bs,zV (by simp only[J5,J7,Jf,Le,Jt];omega),bs,zB,bs,Jg,K9,Kz,K6];rfl) (by
    unfold zXh;simp only
    rw[tQ,zJ,K5 hj,U5,Kq,qd9,Jh];rfl)
  rw[Jc0,La,show((0:Nat):Int)=0 from rfl]at l2;unfold zXi;simp only
  rw[yS hj,zH,yA [] hj,bs,e0,l1,bs];simp only
  rw[zV (by simp only[J7,Jt];omega),bs,l2,bs,zB,bs];rfl) (by
  unfold zXi;simp only
  rw[tQ,zJ,Lm];rfl)
 rw[Kc,qd9,show((0:Nat):Int)=0 from rfl]at main;have gF:zPJ x (at0 x.zA 0)=jd s:=by rw[pB];exact hs
 have hT:f_U x C=jd (kI (base x.zA.length x.zA.length) C):=by have gG:∀i,i<C.length->Row (at0 x.zA 0) (base x.zA.length x.zA.length) (C.getD i []):=h.r;exact zSc gG (by omega) h6 rfl
 unfold f_A;rw[show(0:Int)=((0:Nat):Int)from rfl,yK h.p.1,bs,gF,bs,show((s.length:Int)-2)=(k:Int)from by omega,zB,bs,yA [],bs,zPa h6,bs,hT,bs,hz,bs,show((0:Nat):Int)=0 from rfl,main,bs];cases f_q (at0 x.zA 0) (nrw x C q (s.getD k []))<;>rfl
end
theorem zZX{C:Nat->Option Vec}:∀l:List Nat,l.filterMap C=(l.filter fun j=>(C j).isSome).map fun j=>(C j).getD []
 | []=>rfl
 |a::l=>by
  rw[Hk,List.filter_cons,zZX l];cases hc:C a with
  |none=>rfl
  |some v=>simp[hc]
theorem zPu{n:Nat}{v:Vec}:(j<n->at0 (zeros n++v) j=0)/\at0 (zeros n++v) (n+j)=at0 v j:=by
 refine⟨fun hj=>?_,?_⟩
 ·rw[zCU,zT,if_pos hj,wH]
 ·rw[zCU,zT,if_neg (by omega),H4]
section
variable {x:SPr}{C:Mx}{q:Nat} (h:zNn x C q)
 include h
theorem zNp{v:Vec}(hv:Row (at0 x.zA 0) C.length v):V (suf (cvX x C) 0) (zeros x.zA.length++v):=(zPr h _).2 ⟨_,v,rfl,z0V h,hv⟩
theorem yBC{a b:EX h}{v:Vec}(hu:Row (at0 x.zA 0) C.length u)(hv:Row (at0 x.zA 0) C.length v)(ea:a.1=zeros x.zA.length++u)(eb:b.1=zeros x.zA.length++v):(a*b).1=zeros x.zA.length++adv (at0 x.zA 0) C.length u v:=by show mul _ a.1 b.1=_;rw[ea,eb,zRn h (z0V h) hu hv]
theorem yBD:(1:EX h).1=zeros x.zA.length++zeros C.length:=by show zeros (suf (cvX x C) 0).length=_;rw[yB,zDT h];simp[zeros]
theorem zV9{v:Vec}:Row (at0 x.zA 0) C.length (adv (at0 x.zA 0) C.length u v):=by have hp:=(h.c.1.os.2 0 h.p.1).pos;refine⟨zU _ _,fun j hj=>?_⟩;rw[adv,zW hj];exact⟨Kj _ (by omega),by have:=Kg (at0 u j+at0 v j) (show 0<at0 x.zA 0 by omega);omega⟩
theorem zZY(R:Mx):Sg fun a:EX h=> ∃v,Row (at0 x.zA 0) C.length v/\a.1=zeros x.zA.length++v/\Sp (at0 x.zA 0) C.length R v:=by
 have hp:=(h.c.1.os.2 0 h.p.1).pos;refine⟨⟨zeros C.length,yX,yBD h,zA5 fun j _=>by rw[wH];rfl⟩,?_,?_⟩
 ·rintro a b ⟨u,u1,u2,u3⟩ ⟨v,v1,v2,v3⟩
  exact⟨_,zV9 h,yBC h u1 v1 u2 v2,jH (k:=1) u3 v3 fun j hj=>by rw[adv,zW hj,K3,Gs]⟩
 ·rintro a ⟨u,u1,u2,u3⟩
  have hk:pj h a=1:=Subtype.ext (by show a.1.take x.zA.length=zeros (suf x 0).length;rw[u2,Jr (zT _),yB];rfl)
  obtain⟨v,v1,v2⟩:=zV5 h (a:=a⁻¹) (by rw[h_i (zPs h),hk,i1]);refine⟨v,v1,v2,jH (k:=-1) (v:=zeros C.length) (zA5 fun j _=>by rw[wH];rfl) u3 fun j hj=>?_⟩;have e:=congrArg (·.1) (ir a);have e2:(a*a⁻¹).1=(1:EX h).1:=e;rw[yBC h u1 v1 u2 v2,yBD h]at e2;have e3:at0 (adv (at0 x.zA 0) C.length u v) j=at0 (zeros C.length) j:=congrArg (fun w=>at0 w j) (Qu e2);rw[adv,zW hj,wH]at e3;rw[wH,show(0:Int)+ -1*at0 u j=at0 v j-(at0 u j+at0 v j)by omega,Qe,e3,Int.sub_zero,K3]
theorem yEg{R:Mx}(hR:∀i,i<R.length->Row (at0 x.zA 0) C.length (R.getD i [])){K:EX h->Prop}(hK:Sg K)(hr:∀i(hi:i<R.length),K (mkE (zEW h) _ (zNp h (hR i hi)))){v:Vec}(hv:Row (at0 x.zA 0) C.length v)(hs:Sp (at0 x.zA 0) C.length R v):K (mkE (zEW h) _ (zNp h hv)):=by
 have hp:=(h.c.1.os.2 0 h.p.1).pos;obtain⟨c,hc⟩:=hs;have key:∀m,m<=R.length-> ∃a:EX h,K a/\a.1=zeros x.zA.length++mkv C.length fun j=>(S m fun i=>c i*ent R i j)%at0 x.zA 0:=by
  intro m
  induction m with
  |zero=>
   intro _;refine⟨1,hK.o,?_⟩;rw[yBD h,show zeros C.length=mkv C.length fun _=>0 from uB _];rfl
  |succ m ih=>
   intro hm;obtain⟨a,a1,a2⟩:=ih (by omega);have gG:=hR m (by omega);have hk:=yBA h (z:=mkE (zEW h) _ (zNp h gG)) gG rfl (c m%at0 x.zA 0).toNat;refine⟨a*pg (mkE (zEW h) _ (zNp h gG)) (c m%at0 x.zA 0).toNat,hK.m a1 (hK.pg (hr m (by omega)) _),?_⟩;rw[yBC h ⟨zU _ _,fun j hj=>by rw[zW hj];exact⟨Kj _ (by omega),by have:=Kg (S m fun i=>c i*ent R i j) (show 0<at0 x.zA 0 by omega);omega⟩⟩ hk.2 a2 hk.1]
   congr 1
   refine zX fun j hj=>?_
   have bw:=Kj (c m) (show at0 x.zA 0≠0 by omega);rw[zW hj,zEA (by omega) _ _ (yX),zW hj,wH,Ko,<-Ka,show(((c m%at0 x.zA 0).toNat:Nat):Int)=c m%at0 x.zA 0 by omega,Ka,Jy,K3,<-Jy,<-Ka];rfl
 obtain⟨a,a1,a2⟩:=key R.length (Je _);rw[show mkE (zEW h) _ (zNp h hv)=a from Subtype.ext ?_]
 ·exact a1
 ·show zeros x.zA.length++v=a.1
  rw[a2]
  congr 1
  refine(vE hv.1).trans (zX fun j hj=>?_);have:=hv.2 j hj;rw[hc j hj,Jp (by omega) (by omega)]
theorem zZZ{t:Mx}(ht:zCB (zGe h) q k t)(hk:∀b:EG h,Qm q (k+1) b->b=1)(a:EX h):RwC (up h) q (fun b=>b.1∈t) (fun b=>b.1∈gns x) a↔ ∃r,r∈nrw x C q t/\a.1=zeros x.zA.length++r:=by
 have hp:=(h.c.1.os.2 0 h.p.1).pos;have P1:∀b:EG h,b.1∈t->(pg (up h b) q).1=zeros x.zA.length++pwr x C q b.1:=fun b hb=>by
  obtain⟨u,_,e⟩:=zV5 h (a:=pg (up h b) q) (by rw[zRB (zPs h),zRm];exact hk _ (.x (.inr ⟨b,(ht.v.2.2 b).1 (.x hb),rfl⟩)))
  rw[e,pwr];have:=zRj (up h b) q;rw[e]at this;have e2:(up h b).1=b.1++zeros C.length:=rfl;rw[e2]at this;rw[<-this,K0 (zT _)]
 have P2:∀(b g:EG h)(i:Nat),b.1∈t->i<x.zA.length->g.1=wZ x.zA.length i->((up h b)⁻¹*(up h g)⁻¹*up h b*up h g).1=zeros x.zA.length++gpr x C b.1 i:=fun b g i hb hi hg=>by
  obtain⟨u,u1,e⟩:=zV5 h (a:=(up h b)⁻¹*(up h g)⁻¹*up h b*up h g) (by simp only[zPs h,h_i (zPs h),zRm];exact hk _ (.x (.inl ⟨b,g,(ht.v.2.2 b).1 (.x hb),rfl⟩)))
  have e3:up h b*up h g=up h g*up h b*((up h b)⁻¹*(up h g)⁻¹*up h b*up h g):=by simp[as,cl2]
  have e4:=congrArg (·.1) e3;obtain⟨y,v,e5,hy,hv⟩:=(zPr h _).1 (up h g*up h b).2;have e6:(up h g*up h b).1=mul (suf (cvX x C) 0) (wZ x.zA.length i++zeros C.length) (b.1++zeros C.length):=by rw[<-hg];rfl
  have e7:(up h b*up h g).1=mul (suf (cvX x C) 0) (b.1++zeros C.length) (wZ x.zA.length i++zeros C.length):=by rw[<-hg];rfl
  have e8:(up h b*up h g).1=y++adv (at0 x.zA 0) C.length v u:=by refine e4.trans ?_;show mul _ (up h g*up h b).1 ((up h b)⁻¹*(up h g)⁻¹*up h b*up h g).1=_;rw[e5,e,zRn h hy hv u1]
  rw[e,gpr,<-e6,<-e7,e8,e5,K0 (zAD h hy),K0 (zAD h hy)]
  congr 1
  refine(vE u1.1).trans (zX fun j hj=>?_);have:=u1.2 j hj;rw[adv,zW hj,G4,show at0 v j+at0 u j+ -1*at0 v j=at0 u j by omega,Jp (by omega) (by omega)]
 constructor
 ·rintro⟨b,hb,⟨g,hg,rfl⟩|rfl⟩
  ·obtain⟨i,hi,e⟩:=Jc.1 hg
   exact⟨_,Li.2 ⟨b.1,hb,J9.2 (.inr (Jc.2 ⟨i,hi,rfl⟩))⟩,P2 b g i hb (Lh.1 hi) e.symm⟩
  ·exact⟨_,Li.2 ⟨b.1,hb,J9.2 (.inl rfl)⟩,P1 b hb⟩
 ·rintro⟨r,hr,e⟩
  obtain⟨b,hb,hr⟩:=Li.1 hr;have tk:=ht.v.1 b hb;rcases J9.1 hr with rfl|hr
  ·exact⟨mkE _ b tk,hb,.inr (Subtype.ext (e.trans (P1 (mkE _ b tk) hb).symm))⟩
  ·obtain⟨i,hi,rfl⟩:=Jc.1 hr
   have hi:=Lh.1 hi;exact⟨mkE _ b tk,hb,.inl ⟨mkE _ _ (zPt h hi),Jc.2 ⟨i,Lh.2 hi,rfl⟩,Subtype.ext (e.trans (P2 (mkE _ b tk) (mkE _ _ (zPt h hi)) i hb hi rfl).symm)⟩⟩
theorem zRo{t:Mx}(ht:∀a∈t,V (suf x 0) a):∀r∈nrw x C q t,Row (at0 x.zA 0) C.length r:=fun r hr=>by
 obtain⟨b,hb,hr⟩:=Li.1 hr;rcases J9.1 hr with rfl|hr
 ·exact zYs h (ht b hb)
 ·obtain⟨i,_,rfl⟩:=Jc.1 hr
  exact zYt h
theorem zLl{R:Mx}(hi:i<R.length):R.getD i []∈R:=by have _:=h;rw[J2,J3 hi];exact Js hi
theorem yEh{t:Mx}(ht:zCB (zGe h) q k t)(hk:∀b:EG h,Qm q (k+1) b->b=1)(a:EX h):Qm q (k+1) a↔ ∃v,Row (at0 x.zA 0) C.length v/\a.1=zeros x.zA.length++v/\Sp (at0 x.zA 0) C.length (nrw x C q t) v:=by
 rw[yBB h ht hk a];have gG:=zRo h (C:=C) (q:=q) ht.v.1;constructor
 ·refine Ge.to (zZY h _) fun b hb=>?_
  obtain⟨r,hr,e⟩:=(zZZ h ht hk b).1 hb;obtain⟨i,hi,rfl⟩:=H3.1 hr;refine⟨_,gG _ hr,e,?_⟩;have:=uO (p:=at0 x.zA 0) (n:=C.length) hi
  rwa [J2,J3 hi]at this
 ·rintro⟨v,v1,v2,v3⟩
  rw[show a=mkE (zEW h) _ (zNp h v1)from Subtype.ext v2];exact yEg h (fun i hi=>gG _ (zLl h hi)) (Ge.s _) (fun i hi=>.x ((zZZ h ht hk _).2 ⟨_,zLl h hi,rfl⟩)) v1 v3
theorem zYv{t:Mx}{R:Mx}(hR:∀i,i<R.length->Row (at0 x.zA 0) C.length (R.getD i []))(hm:zCB (zEW h) q j t)(hq:∀a:EX h,Qm q j a↔ ∃v,Row (at0 x.zA 0) C.length v/\a.1=zeros x.zA.length++v/\Sp (at0 x.zA 0) C.length R v):
  ∃pv,Red (at0 x.zA 0) C.length (t.map (·.drop x.zA.length)) pv/\qQ (at0 x.zA 0) C.length (t.map (·.drop x.zA.length)) R:=by
 obtain⟨Y,D,rfl,hC,hY,hQ⟩:=hm;have hl:=zDT h;have et:xZ D 0 (cvX x C).zA.length=((K7 0 (cvX x C).zA.length).filter fun j=>(D j).isSome).map fun j=>(D j).getD []:=zZX _
 have er:∀p∈(K7 0 (cvX x C).zA.length).filter fun j=>(D j).isSome,(D p).isSome=jf:=fun p hp=>(Jb9.1 hp).2
 have bZ:((K7 0 (cvX x C).zA.length).filter fun j=>(D j).isSome).Pairwise (· <·):=List.Pairwise.filter _ (List.pairwise_lt_range')
 generalize (K7 0 (cvX x C).zA.length).filter (fun j=>(D j).isSome)=P at et er bZ
 have key:∀i(hi:i<P.length),∃v,D P[i]=jd (zeros x.zA.length++v)/\Row (at0 x.zA 0) C.length v/\Sp (at0 x.zA 0) C.length R v/\x.zA.length<=P[i]/\P[i]<x.zA.length+C.length/\(∀j,j<P[i]-x.zA.length->at0 v j=0)/\at0 v (P[i]-x.zA.length)=1/\ ∀p,P[i]<p->(D p).isSome=jf->at0 v (p-x.zA.length)=0:=fun i hi=>by
  obtain⟨r,hr⟩:=Kt.1 (er _ (Js hi));obtain⟨c1,c2,c3,c4,c5,c6⟩:=hC.i hr;obtain⟨v,v1,v2,v3⟩:=(hq (mkE (zEW h) r c3)).1 ((hQ _).1 c2);have e:r=zeros x.zA.length++v:=v2;subst e;have hn:x.zA.length<=P[i]:=Classical.byContradiction fun g=>by have:=(zPu (n:=x.zA.length) (v:=v) (j:=P[i])).1 (by omega);rw[this]at c5;omega
  have ea:∀p,x.zA.length<=p->at0 (zeros x.zA.length++v) p=at0 v (p-x.zA.length):=fun p hp=>by
   have:=(zPu (n:=x.zA.length) (v:=v) (j:=p-x.zA.length)).2
   rwa [show x.zA.length+(p-x.zA.length)=p by omega]at this
  refine⟨v,hr,v1,v3,hn,by omega,fun j hj=>?_,?_,fun p hp hs=>?_⟩
  ·have:=c4 (x.zA.length+j) (by omega)
   rwa [zPu.2]at this
  ·rw[<-ea _ hn];exact c5
  ·rw[<-ea _ (by omega)]
   refine c6 p hp ?_ hs;obtain⟨r',bY⟩:=Kt.1 hs;exact(hC.i bY).1
 have ew:∀i(hi:i<P.length) v,D P[i]=jd (zeros x.zA.length++v)->((xZ D 0 (cvX x C).zA.length).map (·.drop x.zA.length)).getD i []=v:=fun i hi v hv=>by rw[et,Jb1,J2,Jw,J3 hi];show((D P[i]).getD []).drop x.zA.length=v;rw[hv];exact K0 (zT _)
 have gf:((xZ D 0 (cvX x C).zA.length).map (·.drop x.zA.length)).length=P.length:=by rw[et,Jf,Jf]
 have m8:∀i k(hi:i<P.length)(hk:k<P.length),i<k->P[i]<P[k]:=fun i k hi hk aS=>List.pairwise_iff_getElem.1 bZ i k hi hk aS
 have p7:∀i,i<P.length->Sp (at0 x.zA 0) C.length R (((xZ D 0 (cvX x C).zA.length).map (·.drop x.zA.length)).getD i []):=fun i hi=>by obtain⟨v,k1,_,k3,_⟩:=key i hi;rw[ew i hi v k1];exact k3
 refine⟨fun i=>P.getD i 0-x.zA.length,⟨?_,?_,?_,?_,?_,?_⟩,⟨fun i hi=>p7 i (by omega),fun i hi=>?_⟩⟩
 ·intro i hi
  rw[gf]at hi;obtain⟨v,k1,k2,_⟩:=key i hi;rw[ew i hi v k1];exact k2
 ·intro i hi
  rw[gf]at hi;obtain⟨v,_,_,_,k4,k5,_⟩:=key i hi;simp only[J2,J3 hi,Lt];omega
 ·intro i hi
  rw[gf]at hi;obtain⟨v,k1,_,_,_,_,_,k7,_⟩:=key i hi;simp only[J2,J3 hi,Lt];show at0 (U7 _ _ _) _=_;rw[ew i hi v k1];exact k7
 ·intro i hi
  rw[gf]at hi;obtain⟨v,k1,_,_,_,_,k6,_⟩:=key i hi;simp only[J2,J3 hi,Lt];intro j hj;show at0 (U7 _ _ _) _=_;rw[ew i hi v k1];exact k6 j hj
 ·intro i k hi hk gc
  rw[gf]at hi hk;obtain⟨v,k1,_,_,k4,_,k6,_,k8⟩:=key k hk;simp only[J2,J3 hi,Lt];show at0 (U7 _ _ _) _=_;rw[ew k hk v k1];have ik:=(key i hi).choose_spec.2.2.2.1;rcases Jo k i with g|g
  ·exact k8 _ (m8 k i hk hi g) (er _ (Js hi))
  ·have:=m8 i k hi hk (by omega)
   exact k6 _ (by omega)
 ·intro i k aS hk
  rw[gf]at hk;have hi:i<P.length:=by omega
  have h1:=m8 i k hi hk aS;have ik:=(key i hi).choose_spec.2.2.2.1;simp only[J2,J3 hi,J3 hk,Lt];omega
 ·have bX:=hR i hi
  have a1:=(hQ (mkE (zEW h) _ (zNp h bX))).2 ((hq _).2 ⟨_,bX,rfl,uO hi⟩);have a2:=(zEV (zPq h) h.cc hY hC _).1 a1;obtain⟨_,v,v1,v2,v3⟩:=zLk (w:=zEW h) (zZY h ((xZ D 0 (cvX x C).zA.length).map (·.drop x.zA.length))) (fun a ha=>by
   rw[et]at ha;obtain⟨p,hp,e⟩:=Jc.1 ha;obtain⟨i,hi,rfl⟩:=H3.1 hp;obtain⟨v,k1,k2,_⟩:=key i hi;rw[k1]at e;have e':zeros x.zA.length++v=a:=e;subst e';refine⟨zNp h k2,v,k2,rfl,?_⟩;have:=uO (p:=at0 x.zA 0) (n:=C.length) (R:=(xZ D 0 (cvX x C).zA.length).map (·.drop x.zA.length)) (i:=i)
   rwa [ew i hi v k1]at this) a2
  have e:zeros x.zA.length++R.getD i []=zeros x.zA.length++v:=v2;rw[Qu e];exact v3
end
theorem yBE{β:Type}{F:Vec->β}{l:Mx}:(Jd l.length).map (fun i=>F (l.getD i []))=l.map F:=by
 apply Kx;intro i
 by_cases hi:i<l.length
 ·rw[Jw,Qt hi,Jw,J3 hi]
  simp[hi]
 ·rw[Lf (by simp;omega),Lf (by simp;omega)]
theorem yEi{x:SPr}(hc:uK x)(hp:zIC x)(hC:zIw x=jd C)(hR:Red (at0 x.zA 0) (base x.zA.length x.zA.length) C pc)(h8:C.length<=8):zNn x C (at0 x.zA 0).toNat:=by have hq:=(hc.1.os.2 0 hp.1).pos;obtain⟨h1,h2⟩:=zV4 hc hp hR (by omega);exact⟨hc,hp,by omega,h8,hR.row,h1,h2,zPp hc hp hC hR h8⟩
theorem zVA{x:SPr}(hc:uK x)(hp:zIC x)(hC:zIw x=jd C)(hR:Red (at0 x.zA 0) (base x.zA.length x.zA.length) C pc)(h8:C.length<=8):
  ∃W pv,f_A x C=jd W/\zYZ x C=jd ⟨at0 x.zA 0,(C.length:Int),W⟩/\Red (at0 x.zA 0) C.length W pv:=by
 have h:=yEi hc hp hC hR h8;have hq:=hc.1.os.2 0 hp.1;have h7:=hq.pos;have h6:=hc.2.2.n6;have hb:=xY x.zA.length (by omega);obtain⟨k,s,S,s1,s2,hk,eZ,hm,hl,t2,hS,hM⟩:=zSk h;have gG:=zRo h (C:=C) (q:=(at0 x.zA 0).toNat) hm.v.1;have mw:∀i,i<(nrw x C (at0 x.zA 0).toNat (s.getD k [])).length->Row (at0 x.zA 0) C.length ((nrw x C (at0 x.zA 0).toNat (s.getD k [])).getD i []):=fun i hi=>gG _ (zLl h hi)
 obtain⟨pv,r1,r2⟩:=zYv h mw hM (yEh h hm hl);have cH:(nrw x C (at0 x.zA 0).toNat (s.getD k [])).length<=6*7:=by
  have bq:∀l:Mx,(l.flatMap (rw1 x C (at0 x.zA 0).toNat)).length=l.length*(x.zA.length+1):=fun l=>by
   induction l with
   |nil=>simp
   |cons a l ih=>rw[Kq,J5,ih,J7,K8];simp[rw1];omega
  rw[nrw,bq];exact Jq (by have:=hm.v.2.1;omega) (by omega)
 obtain⟨W,pw,w1,w2,w3⟩:=zGa hq (n:=C.length) (by omega) (by omega) mw;have e:W=(S.getD (k+1) []).map (·.drop x.zA.length):=Red.unique (by omega) w2 r1 (w3.trans r2.symm);have uy:(((at0 x.zA 0).toNat:Nat):Int)=at0 x.zA 0:=by omega
 refine⟨W,pw,?_,?_,w2⟩
 ·rw[zV8 h s1 hk eZ hm.v.1 (by have:=hm.v.2.1;omega)];exact w1
 have hE:zU0 x.zA.length C.length x (xN (at0 x.zA 0) C.length x.zA.length) (kI (base x.zA.length x.zA.length) C):=zU0.ofX hc.2.2 (zIg hq) zC8 (by grind[zVo]);have eL:f_V x C=jd (cvX x C):=by unfold f_V;rw[zHE rfl h6,bs,show(0:Int)=((0:Nat):Int)from rfl,show((0:Nat):Int)=0 from rfl,zSd hR.row (by omega) (by omega),bs,show(0:Int)=((0:Nat):Int)from rfl,yK hp.1,bs,zPb h6,bs,zU2 hE,bs]
 have eM:=hM.v;have hXl:=zDT h;have eU:=wG (body:=zJU x (S.getD (k+1) [])) (S.getD (k+1) []).length (fun i=>((S.getD (k+1) []).getD i []).drop x.zA.length) (fun i acc hi ha=>by
  have gf:=zBs (zPq h) h.cc (eM.1 _ (zLl h hi));unfold zJU;simp only
  rw[yS hi,zH,yA [] hi,bs];have cx:zR ((S.getD (k+1) []).getD i []) (x.zA.length:Int) ((S.getD (k+1) []).getD i []).length=jd (((S.getD (k+1) []).getD i []).drop x.zA.length):=by unfold zR;rw[if_pos (by omega),J8,J8,Jx (by rw[Kk];omega)]
  rw[cx,bs,jJ (by rw[Kk];omega),bs,zV (by have:=eM.2.1;simp only[J7,Jt];omega),bs,zB (by have:=eM.2.1;omega) (by have:=eM.2.1;omega),bs];rfl) (fun acc=>by
  unfold zJU;simp only
  rw[tQ,zJ])
 have fY:(Jd (S.getD (k+1) []).length).map (fun i=>((S.getD (k+1) []).getD i []).drop x.zA.length)=W:=by rw[e,<-yBE]
 rw[uy]at s2 t2;unfold zYZ;rw[eL,bs,show(0:Int)=((0:Nat):Int)from rfl,yK hp.1,bs,s2,bs,show((s.length:Int)-1)=((k+1:Nat):Int)from by omega,zB,bs,bs,bs,t2,bs,yA [] hS,bs,show((0:Nat):Int)=0 from rfl,eU,bs,fY]
theorem zSl{x:SPr}(hx:zEw x):∃C c,zYS x=jd (C,c)/\zYU x=jd (C,c)/\(c=0->uK x/\zIC x/\zIw x=jd C/\C.length<=8/\ ∃pc,Red (at0 x.zA 0) (base x.zA.length x.zA.length) C pc):=by
 obtain⟨c,e1,e2,e3⟩:=zOX (x:=x) hx.1;unfold zYS zYU;rw[e1,e2,bs,bs]
 by_cases g:c=0
 ·obtain⟨hc,hp⟩:=e3 g
  obtain⟨C,pc,c1,c2,c3,c4⟩:=zIF hc hp;subst g;rw[show((0:Int) != 0)=jg from rfl,zJ,zJ,c1,c2,bs]
  by_cases g8:C.length<=8
  ·rw[jh (by omega),zJ]
   exact⟨_,_,rfl,rfl,fun _=>⟨hc,hp,rfl,g8,pc,c3⟩⟩
  ·rw[ji,zH]
   exact⟨_,_,rfl,rfl,fun h=>by omega⟩
 ·rw[show(c != 0)=jf from by grind,zH,zH]
  exact⟨_,_,rfl,rfl,fun h=>absurd h g⟩
theorem zFH{x:SPr}(hx:zEw x):∃g k,zXj x=jd (g,k)/\zXo x=jd (g,k):=by
 obtain⟨C,c,e1,e2,e3⟩:=zSl hx;unfold zXj zXo;rw[e1,e2,bs,bs]
 by_cases g:c=0
 ·obtain⟨hc,hp,hC,h8,pc,hR⟩:=e3 g
  obtain⟨W,pv,w1,w2,w3⟩:=zVA hc hp hC hR h8;subst g;simp only
  rw[show((0:Int) != 0)=jg from rfl,zJ,zJ,w1,w2,bs,bs];exact⟨_,_,rfl,rfl⟩
 ·simp only
  rw[show(c != 0)=jf from by grind,zH,zH];exact⟨_,_,rfl,rfl⟩
theorem zIt(x0:SPr)(v0:zQ4 x0)
  (h:zEw x0-> ∃g k,zXj x0=jd (g,k)/\zXo x0=jd (g,k)):zZa x0=jd jf:=by
 unfold zZa;rw[zHw v0 (by decide) (by decide),bs];rcases zXL (c:=zMm x0) (b:=1048576) (by decide) (by decide)with e|⟨e,a0,b0,w0⟩<;>rw[e]
 ·rfl
 have s0:zEw x0:=zEw.of w0;obtain⟨g,k,hs,hi⟩:=h s0;rw[zJ,zHx s0,bs];simp only[bs];rw[hs,bs,hi,bs];simp only
 rw[bne_self_eq_false,zJ,bne_self_eq_false,zJ,zHy s0,bs,L5,zJ]
theorem zFI(x0:SPr)(v0:zQ4 x0):zZa x0=jd jf:=
 zIt x0 v0 zFH
end Go.Pl
