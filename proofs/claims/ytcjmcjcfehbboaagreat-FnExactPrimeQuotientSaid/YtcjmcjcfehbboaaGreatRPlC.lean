/- x -/
import Derived.Test.YtcjmcjcfehbboaaGreatRPlB
import Derived.Test.YtcjmcjcfehbboaaGreatRPlA
import Derived.Test.YtcjmcjcfehbboaaGreatRAbB
import Derived.Test.YtcjmcjcfehbboaaGreatRWF
import Derived.Test.YtcjmcjcfehbboaaGreatRAbC
open List renaming replicate→J0,getD_eq_getElem?_getD→J2,getElem?_eq_getElem→J3,length_append→J5,length_cons→J8,getElem?_append_right→Ja,length_replicate→Jc,mem_cons→Je,length_singleton→Jf,append_assoc→Jg,append_nil→Jh,mem_append→Ji,eq_nil_of_length_eq_zero→Jj,length_map→Jm,getElem?_map→Jn,getElem_mem→Jp,mem_map→Jq,map_cons→Jr,nil_append→Js,take_of_length_le→Jt,range→Ju,replicate_succ→Jw,replicate_append_replicate→Jx,take_left'→Jz,cons_append→K0,getElem?_append_left→K1,getElem?_replicate→K3,filterMap_cons→K5,length_drop→K8,all_eq_true→Ka,drop_left'→Kd,range'→Ke,length_nil→Kh,getElem?_eq_none→Kj,drop_append_of_le_length→Kq,replicate_zero→Kt,drop_eq_getElem_cons→Ku,length_take→Kv,getElem?_drop→Kw,ext_getElem?→Kx,mem_of_getElem?→Ky,range'_succ→L3,nodup_cons→L4,take_zero→L9,replicate_succ'→Lf,set_append_right→Lg,mem_range→Ll,map_append→Lq,drop_of_length_le→Lw,length_set→H5,take_add_one→H8,filterMap_append→Hc,drop_eq_nil_of_le→Hf,drop_zero→Hr,length_range→Gv,mem_iff_getElem?→U2,range'_append_1→U9,getElem?_take_of_lt→Ua,range_succ→Ub,getElem_of_mem→Uk,length→Uq,length_filterMap_le→Q6,foldl_append→Q7,map_take→Qa,idxOf_lt_length_of_mem→Qb,getElem_map→Qh,ext_getElem→Qj,map_eq_nil_iff→Qy,mem_filterMap→Ja3,mem_of_mem_take→Jah,map_nil→Jai,idxOf_cons→Jan,getD→Jao,take_append→Jb1,drop_append→Jb3,flatten_nil→Jbr
open Int renaming toNat_natCast->J7,emod_eq_of_lt->Jo,mul_emod->Jv,emod_emod->K2,emod_lt_of_pos->K9,add_emod->Kb,add_zero->Kf,emod_nonneg->Kl,mul_one->Kz,zero_add->L5,mul_zero->L6,mul_comm->Lu,toNat_zero->H6,toNat_of_nonneg->Ga,mul_nonneg->Gi,emod_add_emod->Gk,emod_self->Gs,emod_eq_emod_iff_emod_sub_eq_zero->Um,one_mul->Uy,sub_emod->Qzz,pow_succ->Qzy,mul_le_mul_of_nonneg_left->Qd,add_comm->Qk,natCast_add->Ja9,emod_emod_of_dvd->Jau,zero_emod->Jaz
open Nat renaming le_refl->J9,zero_add->Jd,lt_or_ge->Jk,zero_le->K4,sub_self->Kr,sub_zero->Li,lt_trichotomy->Hh,lt_or_eq_of_le->Hs,le_of_lt_succ->Gb,mul_one->Gd,eq_or_lt_of_le->Gf,mul_le_mul->Gt,eq_zero_or_pos->Gu,le_trans->U1,strongRecOn->U4,min_eq_left->Up,le_add_right->Qw,lt_irrefl->Jax,lt_of_lt_of_le->Jc1
open Bool renaming not_true->K7,not_false->Ko
open Option renaming getD_some->Le,some->Lr,map_some->H9,bind_eq_some_iff->Q9,map_none->Jaw
open Option renaming some->Wu,none->Wv
open Bool renaming true->Ww,false->Wx
namespace Go.Pl
open Go Go.Ab Go.Wk Go.Pc
variable {d k l:Nat}{y:Vec}{Q M:Mx}{C:Nat->Option Vec}
theorem zIk{v:Vec}(h:at0 v d≠0):v≠[]:=by rintro rfl;simp[at0]at h
section
variable {x:SPr} (h:Pres x) (hc:xS (suf x 0)) {b:Mx} (hb:b.length=x.zA.length) (hT:Tab (V (suf x 0)) x.zA.length (fun v d=>at0 v d) (tbl b))
 include h hc hb hT
theorem zRb(hy:V (suf x 0) y){g:List Int×xU}(hg:g.2=⟨x,b⟩)(hQ:Q.length<=100000):
  ∃W:Mx,zF (zRR g y) (Q,0)=Wu (Q++W)/\W.length<=x.zA.length/\(∀w∈W,V (suf x 0) w/\ ∃k u,tbl b k=Wu u/\mul (suf x 0) (mul (suf x 0) y u) w=mul (suf x 0) u y)/\
   ∀k u,tbl b k=Wu u-> ∃w,w∈W/\mul (suf x 0) (mul (suf x 0) y u) w=mul (suf x 0) u y:=by
 have h6:=h.os.1;obtain⟨r,r1,W,rfl,r2,r3,r4⟩:=uE (body:=zRR g y)
  (Q:=fun r=> ∃W:Mx,r=Q++W/\W.length<=x.zA.length/\(∀w∈W,V (suf x 0) w/\ ∃k u,tbl b k=Wu u/\mul (suf x 0) (mul (suf x 0) y u) w=mul (suf x 0) u y)/\
   ∀k u,tbl b k=Wu u-> ∃w,w∈W/\mul (suf x 0) (mul (suf x 0) y u) w=mul (suf x 0) u y)
  (fun i s=> ∃W:Mx,s=(Q++W,(i:Int))/\W.length<=i/\(∀w∈W,V (suf x 0) w/\ ∃k u,tbl b k=Wu u/\mul (suf x 0) (mul (suf x 0) y u) w=mul (suf x 0) u y)/\
   ∀k u,k<i->tbl b k=Wu u-> ∃w,w∈W/\mul (suf x 0) (mul (suf x 0) y u) w=mul (suf x 0) u y) x.zA.length (fun i s hi hs=>by
   obtain⟨W,rfl,w1,w2,w3⟩:=hs;left;unfold zRR;simp only[hg];rw[show decide ((i:Int)<(b.length:Int))=Ww from Wz,zK,yS [],bs];cases ht:b.getD i []with
   |nil=>
    rw[show(!(([]:List Int)).isEmpty)=Wx from rfl,zL,zB,bs,cs];refine⟨_,rfl,W,rfl,by omega,w2,fun k u hk hu=>?_⟩
    by_cases e:k=i
    ·subst e
     rw[tH.2 ht]at hu;cases hu
    ·exact w3 k u (by omega) hu
   |cons t0 ts=>
    have eM:tbl b i=Wu (t0::ts):=jQ.2 ⟨ht,by simp⟩;obtain⟨_,t2,_,_⟩:=hT.h eM;obtain⟨w,v1,v2,v3⟩:=yCK h hc t2 hy;rw[show(!((t0::ts)).isEmpty)=Ww from rfl,zK,v3,bs,yA (by simp only[J5,Jf];omega),bs,zB,bs,cs];refine⟨_,rfl,W++[w],by rw[Jg],by simp only[J5,Jf];omega,fun a ha=>?_,fun k u hk hu=>?_⟩
    ·rcases Ji.1 ha with ha|ha
     ·exact w2 a ha
     ·simp at ha;subst ha
      exact⟨v1,i,_,eM,v2⟩
    ·by_cases e:k=i
     ·subst e
      rw[eM]at hu;cases hu;exact⟨w,by simp,v2⟩
     ·obtain⟨a,a1,a2⟩:=w3 k u (by omega) hu
      exact⟨a,by simp[a1],a2⟩) (fun s hs=>by
   obtain⟨W,rfl,w1,w2,w3⟩:=hs;unfold zRR;simp only[hg];rw[show decide ((x.zA.length:Int)<(b.length:Int))=Wx from Wy (by omega),zL];exact⟨_,rfl,W,rfl,w1,w2,fun k u hu=>w3 k u (hT.h hu).1 hu⟩) (s:=(Q,0)) ⟨[],by simp,J9 _,by simp,fun k u hk=>by omega⟩
 exact⟨W,r1,r2,r3,r4⟩
end
section
variable {x:SPr} (h:Pres x) (hc:xS (suf x 0))
 include h hc
abbrev WlB(x:SPr)(L:Vec->Prop)(b:Mx)(Q:Mx):Prop:=Wl (V (suf x 0)) (mul (suf x 0)) (zeros (suf x 0).length) x.zA.length (fun d=>at0 x.zA d) (fun v d=>at0 v d) L (tbl b) Q
theorem zUn{L:Vec->Prop}(hL:∀a,L a->V (suf x 0) a){b:Mx}(hb:b.length=x.zA.length){g:Bool}{q:Vec}(hW:WlB x L b (q::Q))(hQ:Q.length<=10000):
  ∃(b':Mx)(g':Bool)(Q':Mx),zRS (x,b,g,q::Q)=Wu (.inl (x,b',g',Q'))/\b'.length=x.zA.length/\WlB x L b' Q'/\
   (b'=b/\Q'=Q/\g'=g\/zAM b'+1=zAM b/\Q'.length<=Q.length+x.zA.length+2/\g'=Ww):=by
 have h6:=h.os.1;have F:=zCg h hc;have G:=g0 h hc;have hq:=hW.q q (by simp);obtain⟨z,d,s1,sf,s3,s4,s5⟩:=zRa h hc hb hW.t hq.1;have hz:=sf.s;have pb:=zBF h hc hz;obtain⟨d',d1,d2,d3,d4⟩:=zCh (v:=z);rw[pb]at d1 d4;have VV:d'=d:=by
  rcases Hh d' d with g|g|g
  ·exact absurd (s4 d' g) (d4 (by omega))
  ·exact g
  ·exact absurd (d3 d g) (s5 (by omega)).1
 subst VV;unfold zRS;simp only
 rw[show decide (((q::Q).length:Int)> 0)=Ww from Wz (by simp only[J8];omega),zK];rw[show ixO (q::Q) (0:Int)=Wu q from rfl,bs,s1,bs];rw[show zT (q::Q) 1 ((q::Q).length:Int)=Wu Q from by unfold zT;rw[if_pos ⟨by omega,by simp only[J8];omega,Int.le_refl _⟩];simp,bs]
 dsimp only
 rw[d2,bs]
 by_cases hd:d'<x.zA.length
 ·obtain⟨n1,n2⟩:=s5 hd
  have fm:=h.os.2 d' hd;have hp7:=fm.pos;have hr:=F.r hz hd;obtain⟨v,v1,v2,v3,v4⟩:=zCa fm (x:=at0 z d') (by have:=hr.1;omega) (by have:=hr.2;omega);have pj:V (suf x 0) (pw (mul (suf x 0)) (zeros (suf x 0).length) z v.toNat):=wO G.toMon hz _;obtain⟨y,pi⟩:∃y,y=pw (mul (suf x 0)) (zeros (suf x 0).length) z v.toNat:=⟨_,rfl⟩;rw[<-pi]at pj;have bw:=F.pwc hd hz s4 v.toNat;rw[<-pi]at bw;have eF:at0 y d'=1:=by have:=bw.2;rw[this,show((v.toNat:Nat):Int)=v from by omega,Lu];exact v4
  have aQ:V (suf x 0) (pw (mul (suf x 0)) (zeros (suf x 0).length) y (at0 x.zA d').toNat):=wO G.toMon pj _;have cI:y≠[]:=zIk (d:=d') (by rw[eF];decide);rw[show(((d':Nat):Int)==(z.length:Int))=Wx from by simp;omega,zL,yS 0,bs,yS 0 hd,bs];rw[show z.getD d' 0=at0 z d' from rfl,show x.zA.getD d' 0=at0 x.zA d' from rfl,v1,bs,yA (by simp only[Jf];omega),bs];simp only
  rw[zUm h hc hz v2 (by omega),bs,bs,<-pi,zUm h hc pj (by omega) (by omega),bs,yA (by simp only[J5,Jf];omega),bs];obtain⟨W,W1,W2,W3,W4⟩:=zRb h hc hb hW.t pj (g:=(z,⟨x,b⟩)) rfl (Q:=Q++[z]++[pw (mul (suf x 0)) (zeros (suf x 0).length) y (at0 x.zA d').toNat]) (by simp only[J5,Jf];omega);rw[W1,bs,yS [],bs,show neO y=Wu ()from by cases y with
   |nil=>exact absurd rfl cI
   |cons _ _=>rfl,bs]
  refine⟨_,_,_,rfl,by rw[H5];exact hb,?_,.inr ⟨zIj b d' y (by omega) (tH.1 n2) cI,by simp only[J5,Jf];omega,rfl⟩⟩;rw[show((d':Nat):Int).toNat=d' from rfl];have gp:=zKO (b:=b) (d:=d') (y:=y) (by omega) cI;have aN:Gen (V (suf x 0)) (mul (suf x 0)) (zeros (suf x 0).length) L z:=sf.h L hL hW.th hq.2;have pm:Gen (V (suf x 0)) (mul (suf x 0)) (zeros (suf x 0).length) L y:=by rw[pi];exact aN.pw _
  rw[WlB,gp];refine Wl.add F hW hd n2 pj pm bw.1 eF (x:=q) (fun k hk=>?_) (fun a ha=>?_) (fun a ha=>?_) (by simp) (fun k u hu=>?_)
  ·have Wf:∀k t,tbl b k=Wu t->(fun j=>if j=d' then Wu y else tbl b j) k=Wu t:=fun k t hk=>by
    show(if k=d' then Wu y else tbl b k)=Wu t;rw[if_neg]
    ·exact hk
    ·intro e;rw[e,n2]at hk;cases hk
   have Wj:∀a∈Q++[z]++[pw (mul (suf x 0)) (zeros (suf x 0).length) y (at0 x.zA d').toNat]++W,V (suf x 0) a:=fun a ha=>by
    simp only[Ji,List.mem_singleton]at ha;rcases ha with((ha|rfl)|rfl)|ha
    ·exact(hW.q a (by simp[ha])).1
    ·exact hz
    ·exact aQ
    ·exact(W3 a ha).1
   have:=sf.g k (Q++[z]++[pw (mul (suf x 0)) (zeros (suf x 0).length) y (at0 x.zA d').toNat]++W) Wj hk (.x (.inr ⟨by simp,fun j hj ph=>sf.d k hk j hj ph⟩));exact this.tr Wf fun a ha k hk=>.x (.inr ⟨ha,hk⟩)
  ·simp only[Ji,List.mem_singleton]at ha
   rcases ha with((ha|rfl)|rfl)|ha
   ·exact hW.q a (by simp[ha])
   ·exact⟨hz,aN⟩
   ·exact⟨aQ,pm.pw _⟩
   ·obtain⟨a1,k,u,a2,a3⟩:=W3 a ha
    have hu:=(hW.t.h a2).2.1;refine⟨a1,Gen.right G hL (.m pm (hW.th a2)) a1 ?_⟩;rw[a3];exact .m (hW.th a2) pm
  ·simp only[Je]at ha
   rcases ha with rfl|ha
   ·exact .inl rfl
   ·exact .inr (by simp[ha])
  ·obtain⟨w,w1,w2⟩:=W4 k u hu
   exact⟨w,by simp[w1],.inr w2⟩
 ·rw[show(((d':Nat):Int)==(z.length:Int))=Ww from by simp;omega,zK]
  refine⟨b,g,Q,rfl,hb,?_,.inl ⟨rfl,rfl,rfl⟩⟩;have iF:z=zeros (suf x 0).length:=F.ex hz G.ein fun j hj=>by have e0:=F.e0 hj;rw[e0,s4 j (by omega)]
  refine Wl.drop hW (x:=q) (fun k hk=>?_) (fun a ha=>by simp[ha]) (fun a ha=>by simpa using ha);exact sf.g k Q (fun a ha=>(hW.q a (by simp[ha])).1) hk (by rw[iF];exact .one)
theorem zRc{L:Vec->Prop}(hL:∀a,L a->V (suf x 0) a){b:Mx}(hb:b.length=x.zA.length)(hW:WlB x L b M)(hM:M.length<=1000):
  ∃(g:Bool)(b':Mx),f_H ⟨x,b⟩ M=Wu (g,⟨x,b'⟩)/\b'.length=x.zA.length/\WlB x L b' []/\(b'=b/\g=Wx\/zAM b'<zAM b/\g=Ww):=by
 have h6:=h.os.1;obtain⟨r,r1,b',g,rfl,r2,r3,r4⟩:=uH (body:=zRS) (Q:=fun r=> ∃(b':Mx)(g:Bool),r=(x,b',g)/\b'.length=x.zA.length/\WlB x L b' []/\(b'=b/\g=Wx\/zAM b'<zAM b/\g=Ww))
  (fun s=> ∃(b1:Mx)(g:Bool)(Q:Mx),s=(x,b1,g,Q)/\b1.length=x.zA.length/\WlB x L b1 Q/\zAM b1*60+Q.length<=4000/\(b1=b/\g=Wx\/zAM b1<zAM b/\g=Ww)) (fun s=>zAM s.2.1*60+s.2.2.2.length) (fun s hs=>by
   obtain⟨b1,g,Q,rfl,hb,hW,hm,hg⟩:=hs;cases Q with
   |nil=>
    right;unfold zRS;simp only
    rw[show decide ((([]:Mx).length:Int)> 0)=Wx from rfl,zL];exact⟨_,rfl,b1,g,rfl,hb,hW,hg⟩
   |cons q Q=>
    left;simp only[J8]at hm;obtain⟨b',g',Q',e1,e2,e3,e4⟩:=zUn h hc hL hb hW (g:=g) (by omega);refine⟨_,e1,⟨b',g',Q',rfl,e2,e3,?_,?_⟩,?_⟩
    ·rcases e4 with⟨rfl,rfl,_⟩|⟨e4,e5,_⟩<;>omega
    ·rcases e4 with⟨rfl,rfl,rfl⟩|⟨e4,e5,rfl⟩
     ·exact hg
     ·right
      refine⟨?_,rfl⟩;rcases hg with⟨rfl,_⟩|⟨hg,_⟩<;>omega
    ·simp only[J8]
     rcases e4 with⟨rfl,rfl,_⟩|⟨e4,e5,_⟩<;>omega) 100000 (x,b,Wx,M) (by have:=zDt b;simp only;omega) ⟨b,Wx,M,rfl,hb,hW,by have:=zDt b;omega,.inl ⟨rfl,rfl⟩⟩
 refine⟨g,b',?_,r2,r3,r4⟩;unfold f_H zVD;rw[yA (by simp only[Kh];omega),bs,bs,Js,r1,bs]
theorem zUo{L:Vec->Prop}(hL:∀a,L a->V (suf x 0) a){b:Mx}(hb:b.length=x.zA.length)(hW:WlB x L b M)(hM:M.length<=1000):
  ∃(g:Bool)(b':Mx),f_H ⟨x,b⟩ M=Wu (g,⟨x,b'⟩)/\b'.length=x.zA.length/\WlB x L b' []:=by
 obtain⟨g,b',e1,e2,e3,_⟩:=zRc h hc hL hb hW hM;exact⟨g,b',e1,e2,e3⟩
end
def yP(C:Nat->Option Vec)(k l:Nat):Mx:=(Ke k l).filterMap C
def qV(C:Nat->Option Vec)(k l:Nat):List Int:=(Ke k l).filterMap fun j=>(C j).map fun _=>(j:Int)
theorem zAy(h:C k=Wv):yP C k (l+1)=yP C (k+1) l:=by simp only[yP,L3,K5,h]
theorem kX{t:Vec}(h:C k=Wu t):yP C k (l+1)=t::yP C (k+1) l:=by simp only[yP,L3,K5,h]
theorem zFR(h:C k=Wv):qV C k (l+1)=qV C (k+1) l:=by simp only[qV,L3,K5,h,Jaw]
theorem zDu{t:Vec}(h:C k=Wu t):qV C k (l+1)=(k:Int)::qV C (k+1) l:=by simp only[qV,L3,K5,h,H9]
theorem zIl{C D:Nat->Option Vec}:∀(l k:Nat),(∀j,k<=j->C j=D j)->yP C k l=yP D k l
 |0,_,_=>rfl
 |l+1,k,h=>by
  have ih:=zIl l (k+1) fun j hj=>h j (by omega)
  cases hc:C k with
  |none=>rw[zAy hc,zAy (by rw[<-h k (J9 _)];exact hc),ih]
  |some t=>rw[kX hc,kX (by rw[<-h k (J9 _)];exact hc),ih]
theorem zAN(C:Nat->Option Vec)(k l:Nat):(yP C k l).length<=l:=by
 have:=Q6 C (Ke k l)
 rwa [List.length_range']at this
theorem zDv{α:Type}{u:List α}{i:Nat}{a:α}{v:List α}(h:u.drop i=a::v):i<u.length/\ixO u (i:Int)=Wu a/\u.drop (i+1)=v:=by
 have hi:i<u.length:=by apply Classical.byContradiction;intro g;rw[Lw (by omega)]at h;cases h
 rw[Ku hi]at h;injection h with h1 h2;exact⟨hi,by rw[uL,J3 hi,h1],h2⟩
theorem zRd{v:List Int}(hd:d<v.length)(hl:v.length<=1000)(hz:∀j,j<d->at0 v j=0)(h1:at0 v d=1):f_W v=Wu (d:Int):=by
 obtain⟨r,r1,rfl⟩:=uE (body:=zMX v) (Q:=fun r=>r=.inr (d:Int)) (fun i s=>s=(i:Int)) d (fun i s hi hs=>by
  subst hs;left;unfold zMX zR8;rw[xD,zK,yS 0,bs,bs,show v.getD i 0=0 from hz i hi,show((0:Int) != 0)=Wx from rfl,zL,zB,bs,cs];exact⟨_,rfl,rfl⟩) (fun s hs=>by
  subst hs;unfold zMX zR8;rw[xD hd,zK,yS 0 hd,bs,bs,show v.getD d 0=1 from h1,show((1:Int) != 0)=Ww from rfl,zK];exact⟨_,rfl,rfl⟩) (s:=0) rfl
 unfold f_W;rw[r1,bs]
section
variable {x:SPr} (h:Pres x) (hc:xS (suf x 0)) {C:Nat->Option Vec} (hC:∀{j t},C j=Wu t->j<x.zA.length/\V (suf x 0) t/\(∀i,i<j->at0 t i=0)/\at0 t j=1)
 include h hc hC
theorem zIm:∀(l k i:Nat)(u:Mx)(acc:List Int),k+l=x.zA.length->u.drop i=yP C k l->u.length<=1000->acc.length<=i->i<=u.length->zF (zIQ u) (acc,(i:Int))=Wu (acc++qV C k l)
 |0,k,i,u,acc,hk,hu,hl,ha,hi=>by
  have:i=u.length:=by have:=congrArg Uq hu;rw[K8]at this;simp[yP]at this;omega
  subst this;rw[yW];unfold zIQ;simp only
  rw[wX,zL];simp[qV]
 |l+1,k,i,u,acc,hk,hu,hl,ha,hi=>by
  have h6:=h.os.1;cases ht:C k with
  |none=>
   rw[zAy ht]at hu;rw[zFR ht];exact zIm l (k+1) i u acc (by omega) hu hl ha hi
  |some t=>
   rw[kX ht]at hu;obtain⟨a1,a2,a3⟩:=zDv hu;obtain⟨c1,c2,c3,c4⟩:=hC ht;have fC:=zBF h hc c2;rw[yW];unfold zIQ;simp only
   rw[xD a1,zK,a2,bs,zRd (by omega) (by omega) c3 c4,bs,yA (by simp only[Jf];omega),bs,zB,bs,cs];have:=zIm l (k+1) (i+1) u (acc++[(k:Int)]) (by omega) a3 hl (by simp only[J5,Jf];omega) (by omega);unfold zIQ at this;simp only at this ⊢
   rw[this,zDu ht,Jg];rfl
theorem zIn(k l:Nat)(hk:k+l=x.zA.length):f_y (yP C k l)=Wu (qV C k l):=by have h6:=h.os.1;have:=zIm h hc hC l k 0 (yP C k l) [] hk rfl (by have:=zAN C k l;omega) (by simp) (by omega);unfold f_y;rw[show zF (zIQ (yP C k l)) ([],0)=Wu (qV C k l)from by simpa using this,bs]
theorem zRe{u:Mx}{s:List Int×Int}{j:Nat}{t:Vec}(ht:C j=Wu t)(hu:ixO u s.2=Wu t)(hy:V (suf x 0) y):∃z,(∀{Y:Vec->Prop},Gen (V (suf x 0)) (mul (suf x 0)) (zeros (suf x 0).length) Y t->Gen (V (suf x 0)) (mul (suf x 0)) (zeros (suf x 0).length) Y z)/\
  V (suf x 0) z/\(∀i,i<j->at0 z i=0)/\at0 (mul (suf x 0) y z) j=0/\zF (zRT x u s (j:Int)) y=Wu (mul (suf x 0) y z):=by
 have F:=zCg h hc;have G:=g0 h hc;obtain⟨c1,c2,c3,c4⟩:=hC ht;have hr:=F.r hy c1;have fm:=(h.os.2 j c1).pos;obtain⟨n,hn⟩:∃n:Nat,(at0 y j=0/\n=0)\/(at0 y j≠0/\(n:Int)=at0 x.zA j-at0 y j):=by
  by_cases e:at0 y j=0
  ·exact⟨0,.inl ⟨e,rfl⟩⟩
  ·exact⟨(at0 x.zA j-at0 y j).toNat,.inr ⟨e,by omega⟩⟩
 have hp:=fun a=>F.pw1 c1 c2 c3 c4 a
 have VY:∀a,at0 (mul (suf x 0) y (pw (mul (suf x 0)) (zeros (suf x 0).length) t a)) j=(at0 y j+a)%at0 x.zA j:=fun a=>by have:=(F.ad hy (hp a).1 c1 (hp a).2.1).2;rw[this,(hp a).2.2,Int.add_emod_emod]
 have hV:∀a,V (suf x 0) (mul (suf x 0) y (pw (mul (suf x 0)) (zeros (suf x 0).length) t a)):=fun a=>G.cl hy (hp a).1
 refine⟨pw (mul (suf x 0)) (zeros (suf x 0).length) t n,fun g=>g.pw n,(hp n).1,(hp n).2.1,?_,?_⟩
 ·rw[VY]
  rcases hn with⟨e,rfl⟩|⟨e,hn⟩
  ·rw[e];simp
  ·rw[hn,show at0 y j+(at0 x.zA j-at0 y j)=at0 x.zA j from by omega,Gs]
 ·have:=zN (body:=zRT x u s (j:Int)) (r:=mul (suf x 0) y (pw (mul (suf x 0)) (zeros (suf x 0).length) t n)) (fun a=>mul (suf x 0) y (pw (mul (suf x 0)) (zeros (suf x 0).length) t a)) n (fun a ha=>by
   have ig:=hV a;unfold zRT;rw[yS 0 (by rw[zBF h hc ig];exact c1),bs];rw[show Jao (mul (suf x 0) y (pw (mul (suf x 0)) (zeros (suf x 0).length) t a)) j 0=(at0 y j+a)%at0 x.zA j from VY a];have gf:(at0 y j+a)%at0 x.zA j≠0:=by
    rcases hn with⟨e,rfl⟩|⟨e,hn⟩
    ·omega
    ·rw[Jo (by omega) (by omega)];omega
   rw[show((at0 y j+a)%at0 x.zA j != 0)=Ww from by simpa using gf,zK,hu,bs,tv0 h hc ig c2,bs];have e1:mul (suf x 0) (mul (suf x 0) y (pw (mul (suf x 0)) (zeros (suf x 0).length) t a)) t=mul (suf x 0) y (pw (mul (suf x 0)) (zeros (suf x 0).length) t (a+1)):=by
    rw[G.assoc hy (hp a).1 c2]
    congr 1
    rw[pw,pw,wG]
   rw[e1]) (by
   have ig:=hV n;unfold zRT;rw[yS 0 (by rw[zBF h hc ig];exact c1),bs];rw[show Jao (mul (suf x 0) y (pw (mul (suf x 0)) (zeros (suf x 0).length) t n)) j 0=0 from by
    have:=VY n;rw[show Jao (mul (suf x 0) y (pw (mul (suf x 0)) (zeros (suf x 0).length) t n)) j 0=(at0 y j+n)%at0 x.zA j from this];rcases hn with⟨e,rfl⟩|⟨e,hn⟩
    ·rw[e];simp
    ·rw[hn,show at0 y j+(at0 x.zA j-at0 y j)=at0 x.zA j from by omega,Gs]]
   rw[show((0:Int) != 0)=Wx from rfl,zL])
  have e0:mul (suf x 0) y (pw (mul (suf x 0)) (zeros (suf x 0).length) t 0)=y:=G.oner hy;rw[e0]at this;exact this
theorem zOa{L:Vec->Prop}{d:Nat}(hL:∀{j t},C j=Wu t->Gen (V (suf x 0)) (mul (suf x 0)) (zeros (suf x 0).length) L t){u:Mx}{P:List Int}:∀(l k i:Nat)(y:Vec),d<k->k+l=x.zA.length->u.drop i=yP C k l->P.drop i=qV C k l->i<=P.length->i+l<=1000->
  Rd (V (suf x 0)) (mul (suf x 0)) (zeros (suf x 0).length) x.zA.length (fun v j=>at0 v j) L C d k y->
  ∃r,zF (zO9 x u P) (y,(i:Int))=Wu r/\Rd (V (suf x 0)) (mul (suf x 0)) (zeros (suf x 0).length) x.zA.length (fun v j=>at0 v j) L C d x.zA.length r
 |0,k,i,y,hdk,hk,hu,hP,hi,eD,hR=>by
  have:i=P.length:=by have:=congrArg Uq hP;rw[K8]at this;simp[qV]at this;omega
  subst this;have e:k=x.zA.length:=by omega
  rw[e]at hR;refine⟨y,?_,hR⟩;rw[yW];unfold zO9;simp only
  rw[wX,zL]
 |l+1,k,i,y,hdk,hk,hu,hP,hi,eD,hR=>by
  have h6:=h.os.1;have F:=zCg h hc;cases ht:C k with
  |none=>
   rw[zAy ht]at hu;rw[zFR ht]at hP;exact zOa hL l (k+1) i y (by omega) (by omega) hu hP hi (by omega) (hR.skip (.inl ht))
  |some t=>
   rw[kX ht]at hu;rw[zDu ht]at hP;obtain⟨a1,a2,a3⟩:=zDv hu;obtain⟨p1,p2,p3⟩:=zDv hP;obtain⟨z,z1,z2,z3,z4,z5⟩:=zRe h hc hC (u:=u) (s:=(y,(i:Int))) ht a2 hR.s;have iC:=hR.step F hdk (by omega) z2 (z1 (hL ht)) z3 z4;obtain⟨r,r1,r2⟩:=zOa hL l (k+1) (i+1) _ (by omega) (by omega) a3 p3 (by omega) (by omega) iC;have cw:zO9 x u P (y,(i:Int))=Wu (.inl (mul (suf x 0) y z,((i+1:Nat):Int))):=by
    unfold zO9;simp only
    rw[xD p1,zK,p2,bs,z5,bs,zB,bs,cs]
   exact⟨r,by rw[yW,cw];exact r1,r2⟩
end
section
variable {x:SPr} (h:Pres x) (hc:xS (suf x 0))
abbrev zIM(x:SPr)(L:Vec->Prop):Vec->Prop:=Gen (V (suf x 0)) (mul (suf x 0)) (zeros (suf x 0).length) L
abbrev zM2(x:SPr)(L:Vec->Prop)(C:Nat->Option Vec):Prop:=Pc.Can (e:=zeros (suf x 0).length) (V (suf x 0)) x.zA.length (fun v j=>at0 v j) (zIM x L) C
structure CI (x:SPr) (L:Vec->Prop) (b:Mx) (d:Nat) (C:Nat->Option Vec):Prop where
 c:∀{j t},C j=Wu t->j<x.zA.length/\V (suf x 0) t/\(∀i,i<j->at0 t i=0)/\at0 t j=1
 lo:∀{j t},C j=Wu t->d<=j
 g:∀{j t},C j=Wu t->zIM x L t
 r:∀{j t},C j=Wu t-> ∀i,j<i->i<x.zA.length->(C i).isSome=Ww->at0 t i=0
 s:∀j,d<=j->(C j).isSome=(tbl b j).isSome
theorem CI.put{L:Vec->Prop}{b:Mx}(hI:CI x L b (d+1) C)(hd:d<x.zA.length){t r:Vec}(ht:tbl b d=Wu t)(hr:Rd (V (suf x 0)) (mul (suf x 0)) (zeros (suf x 0).length) x.zA.length (fun v j=>at0 v j) L C d x.zA.length r):
  CI x L b d (fun j=>if j=d then Wu r else C j)/\yP (fun j=>if j=d then Wu r else C j) d (x.zA.length-d)=r::yP C (d+1) (x.zA.length-(d+1)):=by
 have key:∀{j t},(if j=d then Wu r else C j)=Wu t->(j=d/\t=r)\/(j≠d/\C j=Wu t):=fun{j t} hj=>by
  split at hj
  ·rename_i e;cases hj;exact .inl ⟨e,rfl⟩
  ·rename_i e;exact .inr ⟨e,hj⟩
 refine⟨⟨fun hj=>?_,fun hj=>?_,fun hj=>?_,fun hj i hi gK pU=>?_,fun j hj=>?_⟩,?_⟩
 ·rcases key hj with⟨rfl,rfl⟩|⟨_,e⟩
  ·exact⟨hd,hr.s,hr.z,hr.o⟩
  ·exact hI.c e
 ·rcases key hj with⟨rfl,rfl⟩|⟨_,e⟩
  ·exact J9 _
  ·have:=hI.lo e;omega
 ·rcases key hj with⟨rfl,rfl⟩|⟨_,e⟩
  ·exact hr.l
  ·exact hI.g e
 ·replace pU:(if i=d then Wu r else C i).isSome=Ww:=pU
  rcases key hj with⟨rfl,rfl⟩|⟨_,e⟩
  ·rw[if_neg (by omega)]at pU
   exact hr.r i hi gK pU
  ·have:=hI.lo e
   rw[if_neg (by omega)]at pU;exact hI.r e i hi gK pU
 ·show(if j=d then Wu r else C j).isSome=_
  by_cases e:j=d
  ·subst e;rw[if_pos rfl,ht];rfl
  ·rw[if_neg e];exact hI.s j (by omega)
 ·rw[show x.zA.length-d=(x.zA.length-(d+1))+1 from by omega,kX (t:=r) (by simp)]
  congr 1
  exact zIl _ _ fun j hj=>by rw[if_neg (by omega)]
theorem CI.skip{L:Vec->Prop}{b:Mx}(hI:CI x L b (d+1) C)(hd:d<x.zA.length)(ht:tbl b d=Wv):CI x L b d C/\yP C d (x.zA.length-d)=yP C (d+1) (x.zA.length-(d+1)):=by
 have hn:C d=Wv:=by
  cases e:C d with
  |none=>rfl
  |some t=>have:=hI.lo e;omega
 refine⟨⟨hI.c,fun e=>by have:=hI.lo e;omega,hI.g,hI.r,fun j hj=>?_⟩,?_⟩
 ·by_cases e:j=d
  ·subst e;rw[hn,ht]
  ·exact hI.s j (by omega)
 ·rw[show x.zA.length-d=(x.zA.length-(d+1))+1 from by omega,zAy hn]
theorem CI.start{L:Vec->Prop}{b:Mx}(hb:b.length=x.zA.length):CI x L b x.zA.length (fun _=>Wv):=
 ⟨(fun e=>by cases e),(fun e=>by cases e),(fun e=>by cases e),(fun e=>by cases e),fun j hj=>by rw[tH.2 (by rw[J2,Kj (by omega)];rfl)]⟩
 include h hc
theorem CI.can{L:Vec->Prop}{b:Mx}(hI:CI x L b 0 C)(hW:WlB x L b []):zM2 x L C:=
 Wl.can (zCg h hc) hW (fun k=>hI.s k (by omega)) fun{k t} e=>by obtain⟨c1,c2,c3,c4⟩:=hI.c e;exact⟨hI.g e,c2,c3,c4,hI.r e⟩
theorem zUp{L:Vec->Prop}{b:Mx}(hI:CI x L b (d+1) C)(hd:d<x.zA.length){t:Vec}(hT:V (suf x 0) t)(hg:zIM x L t)(hz:∀i,i<d->at0 t i=0)(h1:at0 t d=1):
  ∃r,f_I x (yP C (d+1) (x.zA.length-(d+1))) t=Wu r/\Rd (V (suf x 0)) (mul (suf x 0)) (zeros (suf x 0).length) x.zA.length (fun v j=>at0 v j) L C d x.zA.length r:=by
 have h6:=h.os.1;have gF:f_A t=Wu t:=by
  have:=zHH h (k:=0) (by omega) hc hT
  rwa [fv0]at this
 obtain⟨r,r1,r2⟩:=zOa h hc (C:=C) (fun e=>hI.c e) (L:=L) (d:=d) (fun e=>hI.g e) (u:=yP C (d+1) (x.zA.length-(d+1))) (P:=qV C (d+1) (x.zA.length-(d+1))) (x.zA.length-(d+1)) (d+1) 0 t (by omega) (by omega) rfl rfl (by omega) (by omega)
  ⟨hT,hg,hz,h1,fun i hi eD=>by omega⟩
 refine⟨r,?_,r2⟩;unfold f_I;rw[gF,bs,zIn h hc (C:=C) (fun e=>hI.c e) (d+1) _ (by omega),bs];have r1':zF (zO9 x (yP C (d+1) (x.zA.length-(d+1))) (qV C (d+1) (x.zA.length-(d+1)))) (t,0)=Wu r:=r1;rw[r1',bs]
theorem zOb{L:Vec->Prop}{b:Mx}(hb:b.length=x.zA.length)(hW:WlB x L b []):∃C,zXT ⟨x,b⟩=Wu (yP C 0 x.zA.length)/\zM2 x L C:=by
 have h6:=h.os.1;obtain⟨r,r1,C,rfl,r2⟩:=uH (body:=zQp ⟨x,b⟩) (Q:=fun r=> ∃C,r=yP C 0 x.zA.length/\CI x L b 0 C)
  (fun s=> ∃(d:Nat)(C:Nat->Option Vec),s=(yP C d (x.zA.length-d),(d:Int)-1)/\d<=x.zA.length/\CI x L b d C) (fun s=>(s.2+1).toNat) (fun s hs=>by
   obtain⟨d,C,rfl,hd,hI⟩:=hs;unfold zQp;simp only
   cases d with
   |zero=>
    right;rw[show decide (((0:Nat):Int)-1>=0)=Wx from rfl,zL];exact⟨_,rfl,C,rfl,hI⟩
   |succ d=>
    left;rw[show(((d+1:Nat):Int)-1)=(d:Int)from by omega,show decide ((d:Int)>=0)=Ww from Wz,zK,yS [],bs];cases ht:b.getD d []with
    |nil=>
     obtain⟨i1,i2⟩:=hI.skip (by omega) (tH.2 ht);rw[show(!(([]:List Int)).isEmpty)=Wx from rfl,zL,zB,bs];exact⟨_,rfl,⟨d,C,by rw[i2],by omega,i1⟩,by simp only;omega⟩
    |cons t0 ts=>
     have eM:tbl b d=Wu (t0::ts):=jQ.2 ⟨ht,by simp⟩;obtain⟨t1,t2,t3,t4⟩:=hW.t.h eM;obtain⟨r,e1,e2⟩:=zUp h hc hI (by omega) t2 (hW.th eM) t3 t4;obtain⟨i1,i2⟩:=hI.put (by omega) eM e2;rw[show(!((t0::ts)).isEmpty)=Ww from rfl,zK,bs,e1,bs,yA (by have:=zAN C (d+1) (x.zA.length-(d+1));simp only[Jf];omega),bs,zB,bs];exact⟨_,rfl,⟨d,_,by rw[i2];rfl,by omega,i1⟩,by simp only;omega⟩) 1000 ([],(x.zA.length:Int)-1) (by simp only;omega) ⟨x.zA.length,fun _=>Wv,by simp[yP],J9 _,CI.start hb⟩
 refine⟨C,?_,r2.can h hc hW⟩;unfold zXT;simp only
 rw[hb,zB,bs,r1,bs]
theorem zJD(hM:∀a∈M,V (suf x 0) a):WlB x (· ∈M) (J0 x.zA.length []) M:=by
 have e:tbl (J0 x.zA.length [])=fun _=>Wv:=by
  funext k
  rw[tH,J2,K3];split<;>rfl
 have _:=h;have _:=hc;rw[WlB,e];exact Wl.start M hM
theorem zIo(hM:∀a∈M,V (suf x 0) a)(hl:M.length<=1000):∃C,zNg x M=Wu (yP C 0 x.zA.length)/\zM2 x (· ∈M) C:=by have h6:=h.os.1;obtain⟨g,b,e1,e2,e3⟩:=zUo h hc (L:=(· ∈M)) (fun a ha=>hM a ha) (b:=J0 x.zA.length []) (by simp) (zJD h hc hM) hl;obtain⟨C,c1,c2⟩:=zOb h hc e2 e3;refine⟨C,?_,c2⟩;unfold zNg yAL;rw[yZ,bs,bs,e1,bs,c1,bs]
end
theorem zKP(k l:Nat):yP C k (l+1)=yP C k l++(match C (k+l)with
  |none=>[]
  |some t=>[t]):=by
 unfold yP;rw[List.range'_1_concat,Hc]
 congr 1
 cases h:C (k+l)<;>simp[h]
section
variable {x:SPr} (h:Pres x) (hc:xS (suf x 0))
 include h hc
theorem zJE{b:Mx}{t:Vec}(hd:d<x.zA.length)(ht:V (suf x 0) t)(zt:∀j,j<d->at0 t j=0)(h1:at0 t d=1)(hy:V (suf x 0) y)(hn:at0 y d≠0)(hb:b.getD d []=t):
  ∃z,zFV x t (0-at0 y d)=Wu z/\V (suf x 0) z/\(∀{Y:Vec->Prop},(∀a,Y a->V (suf x 0) a)->zIM x Y t->zIM x Y z)/\(∀j,j<d->at0 z j=0)/\at0 (mul (suf x 0) y z) d=0:=by
 have F:=zCg h hc;have hr:=F.r hy hd;have fm:=(h.os.2 d hd).pos;have _:=hb;obtain⟨u,u1,u2,u3⟩:=zYV h hc ht (e:=at0 y d) (by have:=hr.1;omega) (by have:=hr.2;omega);obtain⟨k1,k2,k3⟩:=F.killr hd ht u1 u2 zt h1 hy;exact⟨_,by rw[show(0:Int)-at0 y d= -at0 y d from by omega];exact u3,k1,fun _ g=>(Gen.i g u1 u2).pw _,k2,k3⟩
theorem zOc{b:Mx}(hb:b.length=x.zA.length)(hT:Tab (V (suf x 0)) x.zA.length (fun v d=>at0 v d) (tbl b))(hy:V (suf x 0) y):∃(z:Vec)(d:Nat),zXO x b y=Wu ((d:Int),z)/\
  Sf (V (suf x 0)) (mul (suf x 0)) (zeros (suf x 0).length) x.zA.length (fun v d=>at0 v d) (tbl b) y z/\d<=x.zA.length/\(∀j,j<d->at0 z j=0)/\(d<x.zA.length->at0 z d≠0/\tbl b d=Wv):=by
 have h6:=h.os.1;have F:=zCg h hc;obtain⟨r,r1,r2⟩:=uE (body:=zNe x b) (Q:=fun r=>match r with
   |.inl z=>Sf (V (suf x 0)) (mul (suf x 0)) (zeros (suf x 0).length) x.zA.length (fun v d=>at0 v d) (tbl b) y z/\ ∀j,j<x.zA.length->at0 z j=0
   |.inr p=> ∃(z:Vec)(d:Nat),p=((d:Int),z)/\Sf (V (suf x 0)) (mul (suf x 0)) (zeros (suf x 0).length) x.zA.length (fun v d=>at0 v d) (tbl b) y z/\d<x.zA.length/\(∀j,j<d->at0 z j=0)/\at0 z d≠0/\tbl b d=Wv)
  (fun d s=> ∃z:Vec,s=(z,(d:Int))/\Sf (V (suf x 0)) (mul (suf x 0)) (zeros (suf x 0).length) x.zA.length (fun v d=>at0 v d) (tbl b) y z/\ ∀j,j<d->at0 z j=0) x.zA.length (fun d s hd hs=>by
   obtain⟨z,rfl,sf,z0⟩:=hs;have hz:=sf.s;have pb:=zBF h hc hz;unfold zNe;simp only
   rw[show decide ((d:Int)<(b.length:Int))=Ww from Wz,zK,yS 0,bs]
   by_cases h0:at0 z d=0
   ·left
    rw[show z.getD d 0=0 from h0,show((0:Int)==0)=Ww from rfl,zK,zB,bs,cs];refine⟨_,rfl,z,rfl,sf,fun j hj=>?_⟩
    by_cases e:j=d
    ·rw[e];exact h0
    ·exact z0 j (by omega)
   ·rw[show(z.getD d 0==0)=Wx from by simpa using h0,zL,yS [],bs]
    cases ht:b.getD d []with
    |nil=>
     right;rw[show(((([]:List Int)).length:Int)==0)=Ww from rfl,zK];exact⟨_,rfl,z,d,rfl,sf,hd,z0,h0,tH.2 ht⟩
    |cons t0 ts=>
     left;have eM:tbl b d=Wu (t0::ts):=jQ.2 ⟨ht,by simp⟩;obtain⟨_,t2,t3,t4⟩:=hT.h eM;obtain⟨w,w1,w2,w3,w4,w5⟩:=zJE h hc hd t2 t3 t4 hz h0 ht;obtain⟨s1,s2⟩:=Sf.right F hT hd hz z0 h0 eM w3 w2 w4 w5;have hr:=F.r hz hd;have fm:=(h.os.2 d hd).pos;rw[show((((t0::ts):List Int).length:Int)==0)=Wx from by simp;omega,zL,bs,bs];rw[show z.getD d 0=at0 z d from rfl,zB (by have:=hr.2;omega) (by have:=hr.1;omega),bs,w1,bs,zCR h hc hz w2,bs,zB,bs,cs];exact⟨_,rfl,_,rfl,sf.trans s1,s2⟩) (fun s hs=>by
   obtain⟨z,rfl,sf,z0⟩:=hs;unfold zNe;simp only
   rw[show decide ((x.zA.length:Int)<(b.length:Int))=Wx from Wy (by omega),zL];exact⟨_,rfl,sf,z0⟩) (s:=(y,0)) ⟨y,rfl,Sf.refl hy,fun j hj=>by omega⟩
 unfold zXO;rw[sJ (by rw[zBF h hc hy];omega),bs,r1,bs];cases r with
 |inl z=>exact⟨z,x.zA.length,by simp only[hb],r2.1,J9 _,r2.2,fun hh=>absurd hh (Jax _)⟩
 |inr p=>
  obtain⟨z,d,rfl,p1,p2,p3,p4,p5⟩:=r2;exact⟨z,d,rfl,p1,by omega,p3,fun _=>⟨p4,p5⟩⟩
theorem zOd{b:Mx}(hb:b.length=x.zA.length)(hT:Tab (V (suf x 0)) x.zA.length (fun v d=>at0 v d) (tbl b))(hy:V (suf x 0) y)(hd:d<x.zA.length)(hn:tbl b d=Wv){s:Mx×Mx}(hs:s.1=b){g:Int×List Int}(hg:g.1=(d:Int))(hQ:Q.length<=100000):
  ∃W:Mx,zF (zRP x s g y) (Q,0)=Wu (Q++W)/\W.length<=x.zA.length/\(∀w∈W,V (suf x 0) w/\ ∃k u,tbl b k=Wu u/\mul (suf x 0) (mul (suf x 0) u y) w=mul (suf x 0) y u)/\
   ∀k u,tbl b k=Wu u-> ∃w,w∈W/\mul (suf x 0) (mul (suf x 0) u y) w=mul (suf x 0) y u:=by
 have h6:=h.os.1;obtain⟨r,r1,W,rfl,r2,r3,r4⟩:=uE (body:=zRP x s g y)
  (Q:=fun r=> ∃W:Mx,r=Q++W/\W.length<=x.zA.length/\(∀w∈W,V (suf x 0) w/\ ∃k u,tbl b k=Wu u/\mul (suf x 0) (mul (suf x 0) u y) w=mul (suf x 0) y u)/\
   ∀k u,tbl b k=Wu u-> ∃w,w∈W/\mul (suf x 0) (mul (suf x 0) u y) w=mul (suf x 0) y u)
  (fun i s=> ∃W:Mx,s=(Q++W,(i:Int))/\W.length<=i/\(∀w∈W,V (suf x 0) w/\ ∃k u,tbl b k=Wu u/\mul (suf x 0) (mul (suf x 0) u y) w=mul (suf x 0) y u)/\
   ∀k u,k<i->tbl b k=Wu u-> ∃w,w∈W/\mul (suf x 0) (mul (suf x 0) u y) w=mul (suf x 0) y u) x.zA.length (fun i s' hi gC=>by
   obtain⟨W,rfl,w1,w2,w3⟩:=gC;left;unfold zRP;simp only[hs,hg];rw[xD hi,zK]
   by_cases e:i=d
   ·subst e
    rw[show(((i:Nat):Int) != (i:Int))=Wx from by simp,zL,zB,bs,cs];refine⟨_,rfl,W,rfl,by omega,w2,fun k u hk hu=>?_⟩
    by_cases e:k=i
    ·subst e;rw[hn]at hu;cases hu
    ·exact w3 k u (by omega) hu
   ·rw[show(((i:Nat):Int) != (d:Int))=Ww from by simp;omega,zK,show((d:Nat):Int).toNat=d from rfl,yS [] (by rw[H5];omega),bs]
    rw[show(b.set d y).getD i []=b.getD i []from by rw[J2,List.getElem?_set_ne (fun g=>e g.symm),<-J2]];cases ht:b.getD i []with
    |nil=>
     rw[show decide (((([]:List Int)).length:Int)> 0)=Wx from rfl,zL,zB,bs,cs];refine⟨_,rfl,W,rfl,by omega,w2,fun k u hk hu=>?_⟩
     by_cases e:k=i
     ·subst e
      rw[tH.2 ht]at hu;cases hu
     ·exact w3 k u (by omega) hu
    |cons t0 ts=>
     have eM:tbl b i=Wu (t0::ts):=jQ.2 ⟨ht,by simp⟩;obtain⟨_,t2,_,_⟩:=hT.h eM;obtain⟨w,v1,v2,v3⟩:=yAt h hc hy t2;rw[show decide ((((t0::ts):List Int).length:Int)> 0)=Ww from Wz (by simp only[J8];omega),zK,v3,bs,yA (by simp only[J5,Jf];omega),bs,zB,bs,cs];refine⟨_,rfl,W++[w],by rw[Jg],by simp only[J5,Jf];omega,fun a ha=>?_,fun k u hk hu=>?_⟩
     ·rcases Ji.1 ha with ha|ha
      ·exact w2 a ha
      ·simp at ha;subst ha
       exact⟨v1,i,_,eM,v2⟩
     ·by_cases e:k=i
      ·subst e
       rw[eM]at hu;cases hu;exact⟨w,by simp,v2⟩
      ·obtain⟨a,a1,a2⟩:=w3 k u (by omega) hu
       exact⟨a,by simp[a1],a2⟩) (fun s' gC=>by
   obtain⟨W,rfl,w1,w2,w3⟩:=gC;unfold zRP;simp only
   rw[wX,zL];exact⟨_,rfl,W,rfl,w1,w2,fun k u hu=>w3 k u (hT.h hu).1 hu⟩) (s:=(Q,0)) ⟨[],by simp,J9 _,by simp,fun k u hk=>by omega⟩
 exact⟨W,r1,r2,r3,r4⟩
theorem zOe{L:Vec->Prop}(hL:∀a,L a->V (suf x 0) a){b:Mx}(hb:b.length=x.zA.length){q:Vec}(hW:WlB x L b (Q++[q]))(hQ:Q.length<=10000):
  ∃(b':Mx)(Q':Mx),zRQ x (b,Q++[q])=Wu (.inl (b',Q'))/\b'.length=x.zA.length/\WlB x L b' Q'/\
   (b'=b/\Q'=Q\/zAM b'+1=zAM b/\Q'.length<=Q.length+x.zA.length+2):=by
 have h6:=h.os.1;have F:=zCg h hc;have G:=g0 h hc;have hq:=hW.q q (by simp);obtain⟨z,d,s1,sf,s3,s4,s5⟩:=zOc h hc hb hW.t hq.1;have hz:=sf.s;have pb:=zBF h hc hz;unfold zRQ;simp only
 have gm:((Q++[q]).length:Int)=(Q.length:Int)+1:=by simp
 rw[show decide (((Q++[q]).length:Int)> 0)=Ww from Wz,zK,gm,show(Q.length:Int)+1-1=(Q.length:Int)from by omega,zB,bs];rw[show ixO (Q++[q]) (Q.length:Int)=Wu q from by rw[uL,Ja (J9 _),Kr];rfl,bs];rw[show zT (Q++[q]) 0 (Q.length:Int)=Wu Q from by unfold zT;rw[if_pos ⟨by omega,by omega,by omega⟩];simp,bs,s1,bs]
 dsimp only
 by_cases hd:d<x.zA.length
 ·obtain⟨n1,n2⟩:=s5 hd
  have fm:=h.os.2 d hd;have hp7:=fm.pos;have hr:=F.r hz hd;obtain⟨v,v1,v2,v3,v4⟩:=zMi fm (x:=at0 z d) (by have:=hr.1;omega) (by have:=hr.2;omega);have pj:V (suf x 0) (pw (mul (suf x 0)) (zeros (suf x 0).length) z v.toNat):=wO G.toMon hz _;obtain⟨y,pi⟩:∃y,y=pw (mul (suf x 0)) (zeros (suf x 0).length) z v.toNat:=⟨_,rfl⟩;rw[<-pi]at pj;have bw:=F.pwc hd hz s4 v.toNat;rw[<-pi]at bw;have eF:at0 y d=1:=by have:=bw.2;rw[this,show((v.toNat:Nat):Int)=v from by omega,Lu];exact v4
  have aQ:V (suf x 0) (pw (mul (suf x 0)) (zeros (suf x 0).length) y (at0 x.zA d).toNat):=wO G.toMon pj _;have cI:y≠[]:=zIk (d:=d) (by rw[eF];decide);rw[show(((d:Nat):Int)==(x.zA.length:Int))=Wx from by simp;omega,zL,yS 0,bs,yS 0 hd,bs];rw[show z.getD d 0=at0 z d from rfl,show x.zA.getD d 0=at0 x.zA d from rfl,v1,bs,zPW h hc hz v2 (by omega),bs,<-pi,yS [],bs,yA (by simp only[Jf];omega),bs];rw[zPW h hc pj (by omega) (by omega),bs,yA (by simp only[J5,Jf];omega),bs];obtain⟨W,W1,W2,W3,W4⟩:=zOd h hc hb hW.t pj hd n2 (s:=(b,Q++[q])) rfl (g:=((d:Int),z)) rfl (Q:=Q++[z]++[pw (mul (suf x 0)) (zeros (suf x 0).length) y (at0 x.zA d).toNat]) (by simp only[J5,Jf];omega);rw[W1,bs];refine⟨_,_,rfl,by rw[H5];exact hb,?_,.inr ⟨zIj b d y (by omega) (tH.1 n2) cI,by simp only[J5,Jf];omega⟩⟩;rw[show((d:Nat):Int).toNat=d from rfl];have gp:=zKO (b:=b) (d:=d) (y:=y) (by omega) cI;have aN:zIM x L z:=sf.h L hL hW.th hq.2;have pm:zIM x L y:=by rw[pi];exact aN.pw _
  rw[WlB,gp];refine Wl.add F hW hd n2 pj pm bw.1 eF (x:=q) (fun k hk=>?_) (fun a ha=>?_) (fun a ha=>?_) (by simp) (fun k u hu=>?_)
  ·have Wf:∀k t,tbl b k=Wu t->(fun j=>if j=d then Wu y else tbl b j) k=Wu t:=fun k t hk=>by
    show(if k=d then Wu y else tbl b k)=Wu t;rw[if_neg]
    ·exact hk
    ·intro e;rw[e,n2]at hk;cases hk
   have Wj:∀a∈Q++[z]++[pw (mul (suf x 0)) (zeros (suf x 0).length) y (at0 x.zA d).toNat]++W,V (suf x 0) a:=fun a ha=>by
    simp only[Ji,List.mem_singleton]at ha;rcases ha with((ha|rfl)|rfl)|ha
    ·exact(hW.q a (by simp[ha])).1
    ·exact hz
    ·exact aQ
    ·exact(W3 a ha).1
   have:=sf.g k (Q++[z]++[pw (mul (suf x 0)) (zeros (suf x 0).length) y (at0 x.zA d).toNat]++W) Wj hk (.x (.inr ⟨by simp,fun j hj ph=>sf.d k hk j hj ph⟩));exact this.tr Wf fun a ha k hk=>.x (.inr ⟨ha,hk⟩)
  ·simp only[Ji,List.mem_singleton]at ha
   rcases ha with((ha|rfl)|rfl)|ha
   ·exact hW.q a (by simp[ha])
   ·exact⟨hz,aN⟩
   ·exact⟨aQ,pm.pw _⟩
   ·obtain⟨a1,k,u,a2,a3⟩:=W3 a ha
    refine⟨a1,Gen.right G hL (.m (hW.th a2) pm) a1 ?_⟩;rw[a3];exact .m pm (hW.th a2)
  ·simp only[Ji,List.mem_singleton]at ha
   rcases ha with ha|rfl
   ·exact .inr (by simp[ha])
   ·exact .inl rfl
  ·obtain⟨w,w1,w2⟩:=W4 k u hu
   exact⟨w,by simp[w1],.inl w2⟩
 ·rw[show(((d:Nat):Int)==(x.zA.length:Int))=Ww from by simp;omega,zK]
  refine⟨b,Q,rfl,hb,?_,.inl ⟨rfl,rfl⟩⟩;have iF:z=zeros (suf x 0).length:=F.ex hz G.ein fun j hj=>by have e0:=F.e0 hj;rw[e0,s4 j (by omega)]
  refine Wl.drop hW (x:=q) (fun k hk=>?_) (fun a ha=>by simp[ha]) (fun a ha=>by simp at ha;rcases ha with ha|ha;exact .inr ha;exact .inl ha);exact sf.g k Q (fun a ha=>(hW.q a (by simp[ha])).1) hk (by rw[iF];exact .one)
end
section
variable {x:SPr} (h:Pres x) (hc:xS (suf x 0))
 include h hc
theorem zOf{L:Vec->Prop}{b D:Mx}(hb:b.length=x.zA.length)(hD:D.length=x.zA.length)(hI:CI x L b (d+1) (tbl D))(hd:d<x.zA.length){s:Mx×Int}(hs:s.1=D){t:Vec}(hT:V (suf x 0) t)(hg:zIM x L t)(hz:∀i,i<d->at0 t i=0)(h1:at0 t d=1)(hL:∀a,L a->V (suf x 0) a):
  ∃r,zF (zVC x b s) (t,((d+1:Nat):Int))=Wu r/\Rd (V (suf x 0)) (mul (suf x 0)) (zeros (suf x 0).length) x.zA.length (fun v j=>at0 v j) L (tbl D) d x.zA.length r:=by
 have h6:=h.os.1;have F:=zCg h hc;have _:=hL;obtain⟨r,r1,r2⟩:=uH (body:=zVC x b s) (Q:=fun r=>Rd (V (suf x 0)) (mul (suf x 0)) (zeros (suf x 0).length) x.zA.length (fun v j=>at0 v j) L (tbl D) d x.zA.length r)
  (fun st=> ∃(k:Nat)(y:Vec),st=(y,(k:Int))/\d<k/\k<=x.zA.length/\Rd (V (suf x 0)) (mul (suf x 0)) (zeros (suf x 0).length) x.zA.length (fun v j=>at0 v j) L (tbl D) d k y) (fun st=>x.zA.length-st.2.toNat) (fun st gE=>by
   obtain⟨k,y,rfl,k1,k2,hR⟩:=gE;have hy:=hR.s;unfold zVC;simp only[hs]
   by_cases hk:k<x.zA.length
   ·left
    rw[show decide ((k:Int)<(b.length:Int))=Ww from Wz,zK,yS [],bs];cases ht:D.getD k []with
    |nil=>
     rw[show decide (((([]:List Int)).length:Int)> 0)=Wx from rfl,zL,zB,bs,cs];exact⟨_,rfl,⟨k+1,y,rfl,by omega,by omega,hR.skip (.inl (tH.2 ht))⟩,by simp only[J7];omega⟩
    |cons t0 ts=>
     have eM:tbl D k=Wu (t0::ts):=jQ.2 ⟨ht,by simp⟩;obtain⟨_,t2,t3,t4⟩:=hI.c eM;rw[show decide ((((t0::ts):List Int).length:Int)> 0)=Ww from Wz (by simp only[J8];omega),zK,yS 0 (by rw[zBF h hc hy];exact hk),bs]
     by_cases h0:at0 y k=0
     ·rw[show(y.getD k 0 != 0)=Wx from by simpa using h0,zL,zB,bs,cs]
      exact⟨_,rfl,⟨k+1,y,rfl,by omega,by omega,hR.skip (.inr h0)⟩,by simp only[J7];omega⟩
     ·obtain⟨w,w1,w2,w3,w4,w5⟩:=zJE h hc hk t2 t3 t4 hy h0 ht
      have hr:=F.r hy hk;have fm:=(h.os.2 k hk).pos;have hw:zIM x L w:=w3 hL (hI.g eM);rw[show(y.getD k 0 != 0)=Ww from by simpa using h0,zK,bs,bs,show y.getD k 0=at0 y k from rfl,zB (by have:=hr.2;omega) (by have:=hr.1;omega),bs,w1,bs,zCR h hc hy w2,bs,zB,bs,cs];exact⟨_,rfl,⟨k+1,_,rfl,by omega,by omega,hR.step F k1 hk w2 hw w4 w5⟩,by simp only[J7];omega⟩
   ·right
    have e:k=x.zA.length:=by omega
    subst e;rw[show decide ((x.zA.length:Int)<(b.length:Int))=Wx from Wy (by omega),zL];exact⟨_,rfl,hR⟩) 1000 (t,((d+1:Nat):Int)) (by simp only;omega) ⟨d+1,t,rfl,by omega,by omega,hT,hg,hz,h1,fun i hi eD=>by omega⟩
 exact⟨r,r1,r2⟩
theorem zUq{D:Mx}(hD:D.length=x.zA.length):zF (zRO D) ([],0)=Wu (yP (tbl D) 0 x.zA.length):=by
 have h6:=h.os.1;have _:=hc;have:=zN (body:=zRO D) (r:=yP (tbl D) 0 x.zA.length) (fun i=>(yP (tbl D) 0 i,(i:Int))) x.zA.length (fun i hi=>by
  have hl:=zAN (tbl D) 0 i;unfold zRO;simp only
  rw[show decide ((i:Int)<(D.length:Int))=Ww from Wz,zK,yS [],bs,zKP,Jd];cases ht:D.getD i []with
  |nil=>
   rw[show decide (((([]:List Int)).length:Int)> 0)=Wx from rfl,zL,zB,bs,cs,tH.2 ht];simp
  |cons t0 ts=>
   rw[show decide ((((t0::ts):List Int).length:Int)> 0)=Ww from Wz (by simp only[J8];omega),zK,bs,yA (by simp only[Jf];omega),bs,zB,bs,cs,(jQ (t:=t0::ts)).2 ⟨ht,by simp⟩]) (by
  unfold zRO;simp only
  rw[show decide ((x.zA.length:Int)<(D.length:Int))=Wx from Wy (by omega),zL])
 exact this
theorem zRf{L:Vec->Prop}(hL:∀a,L a->V (suf x 0) a){b:Mx}(hb:b.length=x.zA.length)(hW:WlB x L b []):∃C,f_x x b=Wu (yP C 0 x.zA.length)/\zM2 x L C:=by
 have h6:=h.os.1;have e0:tbl (J0 x.zA.length [])=fun _=>Wv:=by
  funext k
  rw[tH,J2,K3];split<;>rfl
 obtain⟨D,r1,r2,r3⟩:=uH (body:=zXQ x b) (Q:=fun D=>D.length=x.zA.length/\CI x L b 0 (tbl D))
  (fun s=> ∃(d:Nat)(D:Mx),s=(D,(d:Int)-1)/\d<=x.zA.length/\D.length=x.zA.length/\CI x L b d (tbl D)) (fun s=>(s.2+1).toNat) (fun s hs=>by
   obtain⟨d,D,rfl,hd,hD,hI⟩:=hs;unfold zXQ;simp only
   cases d with
   |zero=>
    right;rw[show decide (((0:Nat):Int)-1>=0)=Wx from rfl,zL];exact⟨_,rfl,hD,hI⟩
   |succ d=>
    left;rw[show(((d+1:Nat):Int)-1)=(d:Int)from by omega,show decide ((d:Int)>=0)=Ww from Wz,zK,yS [],bs];cases ht:b.getD d []with
    |nil=>
     obtain⟨i1,_⟩:=hI.skip (by omega) (tH.2 ht);rw[show(((([]:List Int)).length:Int)==0)=Ww from rfl,zK,zB,bs];exact⟨_,rfl,⟨d,D,rfl,by omega,hD,i1⟩,by simp only;omega⟩
    |cons t0 ts=>
     have eM:tbl b d=Wu (t0::ts):=jQ.2 ⟨ht,by simp⟩;obtain⟨t1,t2,t3,t4⟩:=hW.t.h eM;obtain⟨r,e1,e2⟩:=zOf h hc hb hD hI (by omega) (s:=(D,(d:Int))) rfl t2 (hW.th eM) t3 t4 hL;obtain⟨i1,_⟩:=hI.put (by omega) eM e2;have jn:r≠[]:=zIk (d:=d) (by have:=e2.o;rw[this];decide);rw[show((((t0::ts):List Int).length:Int)==0)=Wx from by simp;omega,zL,bs,zB,bs,cs,e1,bs,yS [],bs,zB,bs,show((d:Nat):Int).toNat=d from rfl];refine⟨_,rfl,⟨d,_,rfl,by omega,by rw[H5];exact hD,?_⟩,by simp only;omega⟩;rw[zKO (by omega) jn];exact i1) 1000 (J0 x.zA.length [],(x.zA.length:Int)-1) (by simp only;omega) ⟨x.zA.length,_,rfl,J9 _,by simp,by rw[e0];exact CI.start hb⟩
 refine⟨tbl D,?_,r3.can h hc hW⟩;unfold f_x;rw[hb,yZ,bs,zB,bs,r1,bs,zUq h hc r2,bs]
theorem zOg(hM:∀a∈M,V (suf x 0) a)(hl:M.length<=1000):∃C,f_E x M=Wu (yP C 0 x.zA.length)/\zM2 x (· ∈M) C:=by
 have h6:=h.os.1;obtain⟨b,r1,r2,r3⟩:=uH (body:=zRQ x) (Q:=fun b=>b.length=x.zA.length/\WlB x (· ∈M) b [])
  (fun s=> ∃(b Q:Mx),s=(b,Q)/\b.length=x.zA.length/\WlB x (· ∈M) b Q/\zAM b*60+Q.length<=4000) (fun s=>zAM s.1*60+s.2.length) (fun s hs=>by
   obtain⟨b,Q,rfl,hb,hW,hm⟩:=hs;rcases List.eq_nil_or_concat Q with rfl|⟨Q,q,rfl⟩
   ·right
    unfold zRQ;simp only
    rw[show decide ((([]:Mx).length:Int)> 0)=Wx from rfl,zL];exact⟨_,rfl,hb,hW⟩
   ·left
    rw[List.concat_eq_append]at hW hm ⊢
    simp only[J5,Jf]at hm;obtain⟨b',Q',e1,e2,e3,e4⟩:=zOe h hc (L:=(· ∈M)) (fun a ha=>hM a ha) hb hW (by omega);refine⟨_,e1,⟨b',Q',rfl,e2,e3,?_⟩,?_⟩
    ·rcases e4 with⟨rfl,rfl⟩|⟨e4,e5⟩<;>omega
    ·simp only[J5,Jf]
     rcases e4 with⟨rfl,rfl⟩|⟨e4,e5⟩<;>omega) 100000 (J0 x.zA.length [],M) (by have:=zDt (J0 x.zA.length []);simp only[Jc]at this ⊢;omega) ⟨_,M,rfl,by simp,zJD h hc hM,by have:=zDt (J0 x.zA.length []);simp only[Jc]at this;omega⟩
 obtain⟨C,c1,c2⟩:=zRf h hc (L:=(· ∈M)) (fun a ha=>hM a ha) r2 r3;refine⟨C,?_,c2⟩;unfold f_E;rw[yZ,bs,zQP (by omega) (fun i hi=>by have:=hM (M.getD i []) (by rw[J2,J3 hi];exact Jp hi);rw[zBF h hc this];omega),bs,r1,bs,c1,bs]
theorem zIp(hM:∀a∈M,V (suf x 0) a)(hl:M.length<=1000):∃C,f_E x M=Wu (yP C 0 x.zA.length)/\zNg x M=Wu (yP C 0 x.zA.length)/\zM2 x (· ∈M) C:=by obtain⟨C,c1,c2⟩:=zOg h hc hM hl;obtain⟨D,d1,d2⟩:=zIo h hc hM hl;have e:=Pc.Can.uniq (zCg h hc) (fun ha hb=>Gen.m ha hb) (fun ha hb fA=>Gen.i ha hb fA) c2 d2;exact⟨C,c1,by rw[d1,zIl _ _ fun j _=>(e j).symm],c2⟩
end
section
variable {x:SPr} (h:Pres x) (hc:xS (suf x 0))
 include h hc
theorem yCL{a b:Vec}(ha:V (suf x 0) a)(hb:V (suf x 0) b):∃c,V (suf x 0) c/\mul (suf x 0) b c=mul (suf x 0) a b/\zML x a b=Wu c/\zVE x a b=Wu c:=by
 have ok:=ok0 h hc;have G:=g0 h hc;obtain⟨c,c1,c2,c3⟩:=zCG h (k:=0) (by omega) hc ha hb;simp only[fv0]at c3;obtain⟨w,w1,w2,w3⟩:=zEF h hc hb;have fA:=yT ok ha hb;refine⟨c,c1,c2,c3,?_⟩;have e:mul (suf x 0) w (mul (suf x 0) a b)=c:=G.cancel_l hb (yT ok w1 fA) c1 (by rw[<-G.assoc hb w1 fA,w2,G.onel fA,c2]);unfold zVE;rw[w3,bs,zCR h hc ha hb,bs,zCR h hc w1 fA,bs,e]
 omit h hc in
noncomputable def cjf (x:SPr) (a b:Vec):Vec:=(zML x a b).getD []
theorem zIq{a b:Vec}(ha:V (suf x 0) a)(hb:V (suf x 0) b):V (suf x 0) (cjf x a b)/\mul (suf x 0) b (cjf x a b)=mul (suf x 0) a b/\zML x a b=Wu (cjf x a b)/\zVE x a b=Wu (cjf x a b):=by
 obtain⟨c,c1,c2,c3,c4⟩:=yCL h hc ha hb;have:cjf x a b=c:=by rw[cjf,c3];rfl
 rw[this];exact⟨c1,c2,c3,c4⟩
end
end Go.Pl

namespace Go.Pc
variable {k l:Nat}
section
variable {α β:Type}{S:α->Prop}{m:α->α->α}{e:α}
theorem Rel.len:∀{P:Pcp}{s:List α},Rel m e P s->s.length=P.length
 | [],s,h=>by simp only[Rel]at h;simp[h]
 |l::P,[],h=>by simp only[Rel]at h
 |l::P,g::s,h=>by simp only[Rel]at h;simp[Rel.len h.2.2]
theorem zM3{T:β->Prop}{n:β->β->β}{f:β}(h:Mon S m e)(h':Mon T n f)(φ:α->β)(gK:∀a,S a->T (φ a))(h1:φ e=f)(hm:∀a b,S a->S b->φ (m a b)=n (φ a) (φ b))(hi:∀a b,S a->S b->φ a=φ b->a=b):
  ∀(P:Pcp)(s:List α),(∀g∈s,S g)->Rel n f P (s.map φ)->Rel m e P s
 | [],s,_,hr=>by simpa only[Rel,Qy]using hr
 |l::P,[],_,hr=>by simp only[Jai,Rel]at hr
 |l::P,g::s,hs,hr=>by
  have hg:S g:=hs g (by simp);have gC:∀g∈s,S g:=fun a ha=>hs a (by simp[ha])
  simp only[Jr,Rel]at hr ⊢
  have dH:∀k,φ (pw m e g k)=pw n f (φ g) k:=by
   intro k
   induction k with
   |zero=>simp[pw,iter,h1]
   |succ k ih=>grind[pw,wG,wO]
  have eI:∀v,φ (img m s v e)=img n (s.map φ) v f:=fun v=>zDg h h' φ gK h1 hm s v gC
  refine⟨hi _ _ (wO h hg _) (zAD h _ _ gC h.ein) ?_,fun k c d hk hd=>?_,zM3 h h' φ gK h1 hm hi P s gC hr.2.2⟩
  ·rw[dH,eI];exact hr.1
  ·have eu:S c:=gC c (Ky hk)
   refine hi _ _ (h.cl eu hg) (h.cl hg (zAD h _ _ gC h.ein)) ?_;rw[hm _ _ eu hg,hm _ _ hg (zAD h _ _ gC h.ein),eI];exact hr.2.1 k (φ c) d (by rw[Jn,hk];rfl) hd
theorem zPX{T:β->Prop}{n:β->β->β}{f:β}(h:Mon S m e)(h':Mon T n f)(φ:α->β)(gK:∀a,S a->T (φ a))(h1:φ e=f)(hm:∀a b,S a->S b->φ (m a b)=n (φ a) (φ b)):
  ∀(P:Pcp)(s:List α),(∀g∈s,S g)->Rel m e P s->Rel n f P (s.map φ)
 | [],s,_,hr=>by simpa only[Rel,Qy]using hr
 |l::P,[],_,hr=>by simp only[Rel]at hr
 |l::P,g::s,hs,hr=>by
  have hg:S g:=hs g (by simp);have gC:∀g∈s,S g:=fun a ha=>hs a (by simp[ha])
  simp only[Jr,Rel]at hr ⊢
  have dH:∀k,φ (pw m e g k)=pw n f (φ g) k:=by
   intro k
   induction k with
   |zero=>simp[pw,iter,h1]
   |succ k ih=>grind[pw,wG,wO]
  have eI:∀v,φ (img m s v e)=img n (s.map φ) v f:=fun v=>zDg h h' φ gK h1 hm s v gC
  refine⟨by rw[<-dH,<-eI,hr.1],fun k c d hk hd=>?_,zPX h h' φ gK h1 hm P s gC hr.2.2⟩;rw[Jn]at hk;cases e1:s[k]? with
  |none=>rw[e1]at hk;cases hk
  |some c0=>
   rw[e1]at hk;obtain rfl:φ c0=c:=by simpa using hk
   have eu:S c0:=gC c0 (Ky e1);rw[<-eI,<-hm _ _ eu hg,<-hm _ _ hg (zAD h _ _ gC h.ein),hr.2.1 k c0 d e1 hd]
variable (g0:Grp S m e)
 include g0
theorem Grp.cj{g:α}(hg:S g):∃φ:α->α,(∀a,S a->S (φ a))/\φ e=e/\(∀a b,S a->S b->φ (m a b)=m (φ a) (φ b))/\ ∀a,S a->m a g=m g (φ a):=by
 obtain⟨b,hb,h1,h2⟩:=g0.invl hg;have hk:∀a,S a->m a g=m g (m b (m a g)):=fun a ha=>by rw[<-g0.assoc hg hb (g0.cl ha hg),h1,g0.onel (g0.cl ha hg)]
 refine⟨fun a=>m b (m a g),fun a ha=>g0.cl hb (g0.cl ha hg),?_,fun a c ha hc=>?_,hk⟩
 ·show m b (m e g)=e
  rw[g0.onel hg,h2]
 ·refine g0.cancel_l hg (g0.cl hb (g0.cl (g0.cl ha hc) hg)) (g0.cl (g0.cl hb (g0.cl ha hg)) (g0.cl hb (g0.cl hc hg))) ?_
  have hA:=g0.cl hb (g0.cl ha hg);have hC:=g0.cl hb (g0.cl hc hg);show m g (m b (m (m a c) g))=m g (m (m b (m a g)) (m b (m c g)));rw[<-hk _ (g0.cl ha hc),<-g0.assoc hg hA hC,<-hk _ ha,g0.assoc ha hg hC,<-hk _ hc,g0.assoc ha hc hg]
theorem zM4:∀(P:Pcp)(s:List α),Ok P->(∀g∈s,S g)->Rel m e P s->(∀u v,V P u->V P v->img m s u e=img m s v e->u=v)->xS P
 | [],_,_,_,_,_=>trivial
 |l::P,[],_,_,hr,_=>by simp only[Rel]at hr
 |l::P,g::s,ho,hs,hr,hi=>by
  have Vs:=ho;have gm:=Rel.len hr;have hg:S g:=hs g (by simp);have gC:∀g∈s,S g:=fun a ha=>hs a (by simp[ha])
  simp only[Ok]at ho;simp only[Rel]at hr;obtain⟨o1,o2,o3,o4,o5⟩:=ho;obtain⟨r1,r2,r3⟩:=hr
  let φ:Vec->α:=fun v=>img m s v e
  have gK:∀v,V P v->S (φ v):=fun v _=>zAD g0.toMon s v gC g0.ein
  have eK:∀u v,V P u->V P v->φ u=φ v->u=v:=fun u v hu hv h=>by have:=hi (0::u) (0::v) ⟨by omega,hu⟩ ⟨by omega,hv⟩ (by simpa[img,iter]using h);simpa using this
  have hc:xS P:=zM4 P s o5 gC r3 eK;have G:=zAo P o5 hc;have h0:φ (zeros P.length)=e:=uD m s _ e;have hm:∀u v,V P u->V P v->φ (mul P u v)=m (φ u) (φ v):=zZN g0.toMon P s o5 gC r3;obtain⟨κ,k1,k2,k3,k4⟩:=g0.cj hg;have hl:s.length=P.length:=by simpa using gm
  have eu:l.cs.map φ=s.map κ:=by apply Qj (by simp[o3,hl]);intro i h1 h2;simp only[Jm]at h1 h2;simp only[Qh];refine g0.cancel_l hg (gK _ (o4 _ (Jp h1))) (k1 _ (gC _ (Jp h2))) ?_;rw[<-k4 _ (gC _ (Jp h2))];exact(r2 i s[i] l.cs[i] (by simp[h2]) (by simp[h1])).symm
  have fa:∀v,V P v->φ (sig P l v)=κ (φ v):=fun v hv=>by show φ (img (mul P) l.cs v (zeros P.length))=κ (img m s v e);rw[zDg G.toMon g0.toMon φ gK h0 hm l.cs v o4,eu,zDg g0.toMon g0.toMon κ k1 k2 k3 s v gC]
  have hw:φ l.w=pw m e g l.o.toNat:=r1.symm;refine⟨hc,?_,?_,fun j hj=>?_⟩
  ·refine zM3 G.toMon g0.toMon φ gK h0 hm eK P l.cs o4 ?_
   rw[eu];exact zPX g0.toMon g0.toMon κ k1 k2 k3 P s gC r3
  ·refine eK _ _ (zAh Vs o2) o2 ?_
   rw[fa _ o2,hw];refine g0.cancel_l hg (k1 _ (wO g0.toMon hg _)) (wO g0.toMon hg _) ?_;rw[<-k4 _ (wO g0.toMon hg _),<-zE3 g0.toMon hg];exact(wG (fun v=>m v g) l.o.toNat e).symm
  ·have hu:=zCB o5 hj
   have eV:∀q v,V P v->V P (iter q (sig P l) v):=fun q v hv=>tA (fun a ha=>zAh Vs ha) q hv
   have key:∀q v,V P v->m (φ v) (pw m e g q)=m (pw m e g q) (φ (iter q (sig P l) v)):=fun q=>by
    induction q with
    |zero=>intro v hv;simp only[pw,iter];rw[g0.oner (gK v hv),g0.onel (gK v hv)]
    |succ q ih=>
     intro v hv;have hp:=wO g0.toMon hg q;have ji:=zAh Vs hv;have hz:=gK _ (eV q _ ji);show m (φ v) (pw m e g (q+1))=m (pw m e g (q+1)) (φ (iter q (sig P l) (sig P l v)));rw[zE3 g0.toMon hg,<-g0.assoc (gK v hv) hg hp,k4 _ (gK v hv),<-fa v hv,g0.assoc hg (gK _ ji) hp,ih _ ji,<-g0.assoc hg hp hz]
   refine eK _ _ (yT o5 o2 (eV _ _ hu)) (yT o5 hu o2) ?_;rw[hm _ _ o2 (eV _ _ hu),hm _ _ hu o2,hw];exact(key l.o.toNat _ hu).symm
end
section
variable {α:Type} (S:α->Prop) (m:α->α->α) (e:α) (n:Nat) (o:Nat->Int) (co:α->Nat->Int) (C:Nat->Option α) (cj:α->α->α)
open Classical in
noncomputable def lq (a v:α):α:=if h:∃w,S w/\m a w=v then h.choose else v
def ctG(k l:Nat):List α:=(Ke k l).filterMap C
noncomputable def exs:Nat->Nat->α->Vec
 |_,0,_=>[]
 |k,l+1,v=>match C k with
  |none=>exs (k+1) l v
  |some t=>co v k::exs (k+1) l (lq S m (pw m e t (co v k).toNat) v)
noncomputable def sfx:Nat->Nat->Pcp
 |_,0=>[]
 |k,l+1=>match C k with
  |none=>sfx (k+1) l
  |some t=>⟨o k,exs S m e co C (k+1) l (pw m e t (o k).toNat),(ctG C (k+1) l).map fun s=>exs S m e co C (k+1) l (cj s t)⟩::sfx (k+1) l
variable {S m e n o co C cj}
theorem zEW(h:C k=Wv):ctG C k (l+1)=ctG C (k+1) l:=by simp[ctG,L3,h]
theorem zEX{t:α}(h:C k=Wu t):ctG C k (l+1)=t::ctG C (k+1) l:=by simp[ctG,L3,h]
theorem zEY{v:α}(h:C k=Wv):exs S m e co C k (l+1) v=exs S m e co C (k+1) l v:=by simp[exs,h]
theorem zEZ{v t:α}(h:C k=Wu t):exs S m e co C k (l+1) v=co v k::exs S m e co C (k+1) l (lq S m (pw m e t (co v k).toNat) v):=by simp[exs,h]
theorem zFa(h:C k=Wv):sfx S m e o co C cj k (l+1)=sfx S m e o co C cj (k+1) l:=by simp[sfx,h]
theorem zFb{t:α}(h:C k=Wu t):sfx S m e o co C cj k (l+1)=⟨o k,exs S m e co C (k+1) l (pw m e t (o k).toNat),(ctG C (k+1) l).map fun s=>exs S m e co C (k+1) l (cj s t)⟩::sfx S m e o co C cj (k+1) l:=by simp[sfx,h]
theorem zOh:∀(l k:Nat),(sfx S m e o co C cj k l).length=(ctG C k l).length
 |0,_=>rfl
 |l+1,k=>by
  cases h:C k with
  |none=>rw[zFa h,zEW h,zOh l (k+1)]
  |some t=>rw[zFb h,zEX h,J8,J8,zOh l (k+1)]
variable (F:Fil S m e n o co)
 include F
theorem zUr{a v:α}(ha:S a)(hv:S v):S (lq S m a v)/\m a (lq S m a v)=v:=by obtain⟨b,hb,h1⟩:=F.g.inv ha;have h:∃w,S w/\m a w=v:=⟨m b v,F.g.cl hb hv,by rw[<-F.g.assoc ha hb hv,h1,F.g.onel hv]⟩;unfold lq;rw[dif_pos h];exact h.choose_spec
theorem yAu{v:α}(hv:S v):lq S m e v=v:=by
 obtain⟨h1,h2⟩:=zUr F F.g.ein hv
 rwa [F.g.onel h1]at h2
variable {L:α->Prop} (hL:∀a,L a->S a) (hC:Can (e:=e) S n co (Gen S m e L) C)
 include hL hC
structure InK (S:α->Prop) (m:α->α->α) (e:α) (co:α->Nat->Int) (L:α->Prop) (k:Nat) (v:α):Prop where
 s:S v
 g:Gen S m e L v
 z:∀j,j<k->co v j=0
 omit hL in
theorem zM5(hk:k<n)(h:C k=Wv){v:α}(hv:InK S m e co L k v):InK S m e co L (k+1) v:=by
  refine⟨hv.s,hv.g,fun j hj=>?_⟩;rcases Hs (Gb hj)with g|g
  ·exact hv.z j g
  · subst g
    by_cases he:v=e
    ·rw[he];exact F.e0 hk
    · obtain⟨i,i1,i2,i3,i4⟩:=hC.d hv.g he
      rcases Hh i j with q|q|q
      ·exact absurd (hv.z i q) i4
      ·subst q;rw[h]at i2;cases i2
      ·exact i3 j q
theorem zM6{t:α}(h:C k=Wu t){v:α}(hv:InK S m e co L k v):InK S m e co L (k+1) (lq S m (pw m e t (co v k).toNat) v)/\m (pw m e t (co v k).toNat) (lq S m (pw m e t (co v k).toNat) v)=v:=by
 obtain⟨a1,a2,a3,a4,a5,_⟩:=hC.i h;obtain⟨p1,p2,p3⟩:=F.pw1 a1 a3 a4 a5 (co v k).toNat;have hr:=F.r hv.s a1;obtain⟨w1,w2⟩:=zUr F p1 hv.s;have hg:Gen S m e L (lq S m (pw m e t (co v k).toNat) v):=Gen.right F.g hL (Gen.pw a2 _) w1 (by rw[w2];exact hv.g);refine⟨⟨w1,hg,?_⟩,w2⟩;obtain⟨u,u1,u2,u3⟩:=F.g.invl p1;obtain⟨c1,c2⟩:=F.invc a1 p1 u1 u2 p2;have hw:lq S m (pw m e t (co v k).toNat) v=m u v:=F.g.cancel_l p1 w1 (F.g.cl u1 hv.s) (by rw[w2,<-F.g.assoc p1 u1 hv.s,u2,F.g.onel hv.s]);rw[hw];intro j hj;rcases Hs (Gb hj)with g|g
 ·exact F.dm (by omega) u1 hv.s c1 hv.z j g
 ·subst g
  rw[(F.ad u1 hv.s a1 hv.z).2];rw[p3]at c2;have e1:((co v j).toNat:Int)%o j=co v j:=by rw[Ga hr.1,Jo hr.1 hr.2]
  rw[e1]at c2;rw[Qk];exact c2
theorem zFc:∀(l k:Nat),k+l=n-> ∀{v:α},InK S m e co L k v->img m (ctG C k l) (exs S m e co C k l v) e=v
 |0,k,hk,v,hv=>by show e=v;exact F.ex F.g.ein hv.s fun d hd=>by rw[F.e0 hd,hv.z d (by omega)]
 |l+1,k,hk,v,hv=>by
  cases h:C k with
  |none=>rw[zEW h,zEY h];exact zFc l (k+1) (by omega) (zM5 F hC (by omega) h hv)
  |some t=>
   obtain⟨a1,a2,a3,a4,a5,_⟩:=hC.i h;obtain⟨w1,w2⟩:=zM6 F hL hC h hv;rw[zEX h,zEZ h,tD F.g.toMon a3 (fun c hc=>by obtain⟨j,_,q⟩:=Ja3.1 hc;exact(hC.i q).2.2.1),zFc l (k+1) (by omega) w1,w2]
theorem zM7:∀(l k:Nat),k+l=n-> ∀{v:α},InK S m e co L k v->V (sfx S m e o co C cj k l) (exs S m e co C k l v)
 |0,k,_,v,_=>rfl
 |l+1,k,hk,v,hv=>by
  cases h:C k with
  |none=>rw[zFa h,zEY h];exact zM7 l (k+1) (by omega) (zM5 F hC (by omega) h hv)
  |some t=>
   rw[zFb h,zEZ h];exact⟨F.r hv.s (hC.i h).1,zM7 l (k+1) (by omega) (zM6 F hL hC h hv).1⟩
 omit hL in
theorem zIr{s:α}(hs:s∈ctG C k l):InK S m e co L k s:=by have _:=F;obtain⟨j,hj,q⟩:=Ja3.1 hs;obtain⟨a1,a2,a3,a4,_⟩:=hC.i q;have:=List.mem_range'_1.1 hj;exact⟨a3,a2,fun i hi=>a4 i (by omega)⟩
theorem zXb(hk:k<=n){a b:α}(ha:InK S m e co L k a)(hb:InK S m e co L k b):InK S m e co L k (m a b):=by
 have _:=hL;have _:=hC;exact⟨F.g.cl ha.s hb.s,.m ha.g hb.g,F.dm hk ha.s hb.s ha.z hb.z⟩
 omit hL hC in
theorem zXc(hk:k<=n):InK S m e co L k e:=⟨F.g.ein,.one,fun _ hj=>F.e0 (by omega)⟩
theorem zPY(hk:k<=n):∀(cs:List α)(v:Vec),(∀c∈cs,InK S m e co L k c)->InK S m e co L k (img m cs v e):=fun cs v h=>kR (zXb F hL hC hk) cs v h (zXc F hk)
theorem zKQ:∀(l k:Nat),k+l=n-> ∀{u v:Vec},V (sfx S m e o co C cj k l) u->V (sfx S m e o co C cj k l) v->img m (ctG C k l) u e=img m (ctG C k l) v e->u=v
 |0,k,_,u,v,hu,hv,_=>by have mU:u=[]:=hu;have pc:v=[]:=hv;rw[mU,pc]
 |l+1,k,hk,u,v,hu,hv,hh=>by
  cases h:C k with
  |none=>
   rw[zFa h]at hu hv;rw[zEW h]at hh;exact zKQ l (k+1) (by omega) hu hv hh
  |some t=>
   obtain⟨a1,a2,a3,a4,a5,_⟩:=hC.i h;rw[zFb h]at hu hv;rw[zEX h]at hh;have hm:∀c∈ctG C (k+1) l,InK S m e co L (k+1) c:=fun c hc=>zIr F hC hc
   have hms:∀c∈ctG C (k+1) l,S c:=fun c hc=>(hm c hc).s
   match u,v,hu,hv with
   |a::u,b::v,hu,hv=>
    obtain⟨ha,hu⟩:=hu;obtain⟨hb,hv⟩:=hv;rw[tD F.g.toMon a3 hms,tD F.g.toMon a3 hms]at hh;have hU:=zPY F hL hC (k:=k+1) (by omega) _ u hm;have hV:=zPY F hL hC (k:=k+1) (by omega) _ v hm;obtain⟨p1,p2,p3⟩:=F.pw1 a1 a3 a4 a5 a.toNat;obtain⟨q1,q2,q3⟩:=F.pw1 a1 a3 a4 a5 b.toNat;have key:∀{c:Int}{y:α},0<=c/\c<o k->S (pw m e t c.toNat)->co (pw m e t c.toNat) k=(c.toNat:Int)%o k->InK S m e co L (k+1) y->co (m (pw m e t c.toNat) y) k=c:=fun{c y} hc hs hp hy=>by rw[(F.ad hs hy.s a1 fun j hj=>hy.z j (by omega)).2,hp,hy.z k (by omega),Kf,K2,Ga hc.1,Jo hc.1 hc.2]
    have e1:=key ha p1 p3 hU;have e2:=key hb q1 q3 hV;rw[hh]at e1;have fA:a=b:=e1.symm.trans e2;subst fA;have:=zKQ l (k+1) (by omega) hu hv (F.g.cancel_l p1 hU.s hV.s hh);rw[this]
variable (hj:∀a b,S a->S b->S (cj a b)/\m b (cj a b)=m a b)
 include hj
theorem zOi{t s:α}(h:C k=Wu t)(hs:InK S m e co L (k+1) s):InK S m e co L (k+1) (cj s t):=by
 obtain⟨a1,a2,a3,a4,a5,_⟩:=hC.i h;obtain⟨c1,c2⟩:=hj s t hs.s a3;have gE:=F.g.cl hs.s a3;have hg:Gen S m e L (cj s t):=Gen.right F.g hL a2 c1 (by rw[c2];exact .m hs.g a2);refine⟨c1,hg,?_⟩;obtain⟨u,u1,u2,u3⟩:=F.g.invl a3;obtain⟨i1,i2⟩:=F.invc a1 a3 u1 u2 a4;have hw:cj s t=m u (m s t):=F.g.cancel_l a3 c1 (F.g.cl u1 gE) (by rw[c2,<-F.g.assoc a3 u1 gE,u2,F.g.onel gE]);have hz:∀j,j<k->co (m s t) j=0:=F.dm (by omega) hs.s a3 (fun j hj=>hs.z j (by omega)) a4;rw[hw];intro j hj;rcases Hs (Gb hj)with g|g
 ·exact F.dm (by omega) u1 gE i1 hz j g
 ·subst g
  have hr:=F.r a3 a1;rw[(F.ad u1 gE a1 hz).2,(F.ad hs.s a3 a1 a4).2,hs.z j (by omega),a5,L5,show(1:Int)%o j=1 from Jo (by omega) (by omega)];rw[a5]at i2;rw[Qk];exact i2
 omit hj in
theorem zOj{t:α}(h:C k=Wu t):InK S m e co L (k+1) (pw m e t (o k).toNat):=by
  have _:=hL;obtain⟨a1,a2,a3,a4,a5,_⟩:=hC.i h;obtain⟨p1,p2,p3⟩:=F.pw1 a1 a3 a4 a5 (o k).toNat;have hr:=F.r a3 a1;refine⟨p1,Gen.pw a2 _,fun j hj=>?_⟩;rcases Hs (Gb hj)with g|g
  ·exact p2 j g
  · subst g
    rw[p3,Ga (by omega),Gs]
theorem zOl:∀(l k:Nat),k+l=n->Ok (sfx S m e o co C cj k l)/\Rel m e (sfx S m e o co C cj k l) (ctG C k l)
 |0,k,_=>⟨trivial,rfl⟩
 |l+1,k,hk=>by
  cases h:C k with
  |none=>rw[zFa h,zEW h];exact zOl l (k+1) (by omega)
  |some t=>
   obtain⟨a1,a2,a3,a4,a5,_⟩:=hC.i h;obtain⟨r1,r2⟩:=zOl l (k+1) (by omega);have hr:=F.r a3 a1;rw[zFb h,zEX h];refine⟨⟨by show 1<o k;omega,zM7 F hL hC l (k+1) (by omega) (zOj F hL hC h),by simp[zOh],fun c hc=>?_,r1⟩,?_,fun q c d hq hd=>?_,r2⟩
   ·obtain⟨s,hs,rfl⟩:=Jq.1 hc
    exact zM7 F hL hC l (k+1) (by omega) (zOi F hL hC hj h (zIr F hC hs))
   ·exact(zFc F hL hC l (k+1) (by omega) (zOj F hL hC h)).symm
   ·rw[Jn,hq]at hd
    obtain rfl:exs S m e co C (k+1) l (cj c t)=d:=by simpa using hd
    have hs:=zIr F hC (Ky hq);rw[zFc F hL hC l (k+1) (by omega) (zOi F hL hC hj h hs)];exact(hj c t hs.s a3).2.symm
theorem zUs:xS (sfx S m e o co C cj 0 n):=by obtain⟨h1,h2⟩:=zOl F hL hC hj n 0 (by omega);exact zM4 F.g _ _ h1 (fun c hc=>(zIr F hC hc).s) h2 fun u v hu hv hh=>zKQ F hL hC n 0 (by omega) hu hv hh
end
end Go.Pc

namespace Go.Pl
open Go Go.Ab Go.Wk Go.Pc
variable {k a:Nat}{v:Vec}
theorem yCM{D:Nat}(hk:k<D)(hD:D<=1000000):yAC (D:Int) (k:Int)=Wu (xE D k):=zAi hk hD
def trv(os:List Int):SPr:=⟨os,gl os.length fun _=>J0 os.length 0,gl os.length fun i=>gl (os.length-1-i) fun j=>xE os.length (i+1+j)⟩
theorem zIs{os:List Int}(h:os.length<=1000000:=by omega):f_J os=Wu (trv os):=by
 unfold f_J;rw[sJ h,bs];have gK:∀i:Nat,i<os.length->zF (zVF os) ([],((i+1:Nat):Int))=Wu (gl (os.length-1-i) fun j=>xE os.length (i+1+j)):=fun i hi=>by
  refine zN (fun j=>(gl j fun j=>xE os.length (i+1+j),((i+1+j:Nat):Int))) (os.length-1-i) (fun j hj=>?_) ?_
  ·unfold zVF
   simp only
   rw[xD,zK,yCM (by omega) h,bs,yA (by rw[yG];simp;omega),bs,zB,bs,cs,vZ];rfl
  ·unfold zVF
   simp only
   rw[show decide (((i+1+(os.length-1-i):Nat):Int)<os.length)=Wx from by simp;omega,zL]
 have:=zN (body:=zOA os) (r:=((trv os).zQ,(trv os).zG)) (fun i=>(gl i fun _=>J0 os.length 0,(gl i fun i=>gl (os.length-1-i) fun j=>xE os.length (i+1+j)),(i:Int))) os.length (fun i hi=>by
  unfold zOA;simp only
  rw[xD hi,zK,yZ,bs,yA (by rw[yG];simp;omega),bs,zB,bs,cs,gK i hi,bs,yA (by rw[yG];simp;omega),bs,bs,vZ,vZ (F:=fun i=>gl (os.length-1-i) fun j=>xE os.length (i+1+j))]) (by
  unfold zOA;simp only
  rw[wX,zL];rfl)
 rw[show zF (zOA os) ([],[],0)=Wu ((trv os).zQ,(trv os).zG)from this,bs];rfl
theorem zIt{b:Nat}{v:List Int}(ha:a<=1000:=by omega)(hb:b<=1000:=by omega)(hv:v.length<=1000:=by omega):zRU a v b=Wu (J0 a 0++v++J0 b 0):=by unfold zRU;rw[yZ,bs,yA (by simp;omega),bs];unfold wN;rw[if_pos (by simp;omega),bs];simp
theorem zFd{α:Type}{v:List α}{b:Nat}(h:a<=b)(k:b<=v.length):zT v (a:Int) (b:Int)=Wu ((v.drop a).take (b-a)):=by unfold zT;exact if_pos (by omega)
theorem zUt{N:Nat}:(J0 N (0:Int)).set k 1=xE N k:=by rw[sK,kS];rfl
theorem zBG{α:Type}{v:List α}(k:a<=v.length:=by omega):zT v (a:Int) (v.length:Int)=Wu (v.drop a):=by rw[zFd k (J9 _),Jt (by rw[K8];omega)]
noncomputable abbrev XX (x:SPr) (C:Nat->Option Vec) (k l:Nat) (v:Vec):Vec:=exs (V (suf x 0)) (mul (suf x 0)) (zeros (suf x 0).length) (fun v j=>at0 v j) C k l v
noncomputable abbrev SX (x:SPr) (C:Nat->Option Vec) (k l:Nat):Pcp:=sfx (V (suf x 0)) (mul (suf x 0)) (zeros (suf x 0).length) (fun d=>at0 x.zA d) (fun v j=>at0 v j) C (cjf x) k l
abbrev InX(x:SPr)(L:Vec->Prop)(k:Nat)(v:Vec):Prop:=InK (V (suf x 0)) (mul (suf x 0)) (zeros (suf x 0).length) (fun v j=>at0 v j) L k v
abbrev PW(x:SPr)(v:Vec)(k:Nat):Vec:=pw (mul (suf x 0)) (zeros (suf x 0).length) v k
theorem zUu{α:Type}{S:α->Prop}{m:α->α->α}{e:α}(h:Mon S m e){c u:α}(hc:S c)(hu:S u)(h1:m c u=e):∀k,m (pw m e c k) (pw m e u k)=e
 |0=>by simp only[pw,iter];exact h.onel h.ein
 |k+1=>by have h2:=wO h hc k;have h3:=wO h hu k;rw[zE3 h hu,show pw m e c (k+1)=m (pw m e c k) c from wG (fun v=>m v c) k e,h.assoc h2 hc (h.cl hu h3),<-h.assoc hc hu h3,h1,h.onel h3,zUu h hc hu h1 k]
section
variable {x:SPr} (h:Pres x) (hc:xS (suf x 0)) {C:Nat->Option Vec} (hC:∀{k t},C k=Wu t->k<x.zA.length/\V (suf x 0) t/\(∀j,j<k->at0 t j=0)/\at0 t k=1)
 include h hc
theorem zYW(hv:V (suf x 0) v)(hk:k<x.zA.length):0<=at0 v k/\at0 v k<=6:=by have h1:=(zCg h hc).r hv hk;have h2:=(h.os.2 k hk).pos;omega
theorem zYX{a b:Vec}(ha:V (suf x 0) a)(hb:V (suf x 0) b)(hv:V (suf x 0) v)(e:mul (suf x 0) a b=zeros (suf x 0).length):lq (V (suf x 0)) (mul (suf x 0)) a v=mul (suf x 0) b v:=by
 have F:=zCg h hc;obtain⟨h1,h2⟩:=zUr F ha hv;exact F.g.cancel_l ha h1 (F.g.cl hb hv) (by rw[h2,<-F.g.assoc ha hb hv,e,F.g.onel hv])
 include hC
theorem zUv:∀(l k i:Nat)(u:Mx)(P acc:List Int)(v:Vec),k+l=x.zA.length->u.drop i=yP C k l->P.drop i=qV C k l->i<=P.length->P.length<=1000->acc.length<=i->V (suf x 0) v->
  ∃w,V (suf x 0) w/\zF (zOB x u P) (v,acc,(i:Int))=Wu (w,acc++XX x C k l v):=by
 intro l
 induction l with
 |zero=>
  intro k i u P acc v hk hu hP hi hl ha hv;have he:i=P.length:=by have:=congrArg Uq hP;rw[K8]at this;simp[qV]at this;omega
  subst he;refine⟨v,hv,?_⟩;rw[yW];unfold zOB;simp only
  rw[wX,zL];simp[exs]
 |succ l ih=>
  intro k i u P acc v hk hu hP hi hl ha hv;have h6:=h.os.1;cases ht:C k with
  |none=>
   rw[zAy ht]at hu;rw[zFR ht]at hP;obtain⟨w,w1,w2⟩:=ih (k+1) i u P acc v (by omega) hu hP hi hl ha hv;exact⟨w,w1,by rw[w2];unfold XX;rw[zEY ht]⟩
  |some t=>
   rw[kX ht]at hu;rw[zDu ht]at hP;obtain⟨a1,a2,a3⟩:=zDv hu;obtain⟨b1,b2,b3⟩:=zDv hP;obtain⟨c1,c2,c3,c4⟩:=hC ht;have pq:=zBF h hc hv;have hb:=zYW h hc hv c1;have G:=g0 h hc;have hp:V (suf x 0) (pw (mul (suf x 0)) (zeros (suf x 0).length) t (at0 v k).toNat):=wO G.toMon c2 _;obtain⟨w0,w1,w2,w3⟩:=zBb h (k:=0) (by omega) hc hp;simp only[fv0]at w3;obtain⟨w,q1,q2⟩:=ih (k+1) (i+1) u P (acc++[at0 v k]) (mul (suf x 0) w0 v) (by omega) a3 b3 (by omega) hl (by simp only[J5,Jf];omega) (G.cl w1 hv);refine⟨w,q1,?_⟩;rw[yW];unfold zOB;simp only
   rw[show rng ((i:Int)+1)=Wu ((i:Int)+1)from zB,xD b1,zK,b2,bs,xM,bs,yA (by simp only[Jf];omega),bs,a2,bs,zUm h hc c2 hb.1 (by omega),bs,w3,bs,zXa h hc w1 hv,bs,bs,cs];unfold zOB at q2;simp only at q2 ⊢
   rw[q2];unfold XX;rw[zEZ ht,zYX h hc hp w1 hv w2,Jg,K0,Js]
theorem zFe(hv:V (suf x 0) v):∃b,f_O x (yP C 0 x.zA.length) v=Wu (XX x C 0 x.zA.length v,b):=by
 have h6:=h.os.1;have hp:=zIn h hc (C:=C) (fun{k t} q=>by obtain⟨a,b,c,d⟩:=hC q;exact⟨a,b,c,d⟩) 0 x.zA.length (by omega);have hlp:(qV C 0 x.zA.length).length<=x.zA.length:=by unfold qV;exact U1 (Q6 _ _) (by simp)
 obtain⟨w,w1,w2⟩:=zUv h hc hC x.zA.length 0 0 (yP C 0 x.zA.length) (qV C 0 x.zA.length) [] v (by omega) rfl rfl (by omega) (by omega) (by simp) hv;have iL:=zBF h hc w1;unfold f_O;rw[hp,bs,show zF (zOB x (yP C 0 x.zA.length) (qV C 0 x.zA.length)) (v,[],0)=Wu (w,XX x C 0 x.zA.length v)from by simpa using w2,bs];rcases zLX (v:=w)with⟨q,_⟩|⟨q,_⟩
 ·rw[q,bs];exact⟨_,rfl⟩
 ·rw[q,bs];exact⟨_,rfl⟩
theorem zRg:∀(l k i:Nat)(u:Mx)(acc:List Int)(v:Vec),k+l=x.zA.length->u.drop i=yP C k l->i<=u.length->u.length<=1000->acc.length<=i->V (suf x 0) v->
  zF (zOI x u) (v,acc,(i:Int))=Wu (acc++XX x C k l v):=by
 intro l
 induction l with
 |zero=>
  intro k i u acc v hk hu hi hl ha hv;have he:i=u.length:=by have:=congrArg Uq hu;rw[K8]at this;simp[yP]at this;omega
  subst he;rw[yW];unfold zOI;simp only
  rw[wX,zL];simp[exs]
 |succ l ih=>
  intro k i u acc v hk hu hi hl ha hv;have h6:=h.os.1;cases ht:C k with
  |none=>
   rw[zAy ht]at hu;have:=ih (k+1) i u acc v (by omega) hu hi hl ha hv;rw[this];unfold XX;rw[zEY ht]
  |some t=>
   rw[kX ht]at hu;obtain⟨a1,a2,a3⟩:=zDv hu;obtain⟨c1,c2,c3,c4⟩:=hC ht;have pq:=zBF h hc hv;have fC:=zBF h hc c2;have hb:=zYW h hc hv c1;have G:=g0 h hc;have hp:V (suf x 0) (pw (mul (suf x 0)) (zeros (suf x 0).length) t (at0 v k).toNat):=wO G.toMon c2 _;have VH:∃u0,V (suf x 0) u0/\mul (suf x 0) (PW x t (at0 v k).toNat) u0=zeros (suf x 0).length/\zFV x t (0-at0 v k)=Wu u0:=by
    by_cases e:at0 v k=0
    ·refine⟨zeros (suf x 0).length,G.ein,?_,?_⟩
     ·rw[e];simp only[PW,pw,H6,iter];exact G.onel G.ein
     ·rw[e]
      have:=zPW h hc c2 (e:=0) (by omega) (by omega);simpa[pw,iter]using this
    ·obtain⟨u0,u1,u2,u3⟩:=zYV h hc c2 (e:=at0 v k) (by omega) (by omega)
     refine⟨PW x u0 (at0 v k).toNat,wO G.toMon u1 _,zUu G.toMon c2 u1 u2 _,?_⟩;rw[Int.zero_sub];exact u3
   obtain⟨u0,u1,u2,u3⟩:=VH;have q2:=ih (k+1) (i+1) u (acc++[at0 v k]) (mul (suf x 0) u0 v) (by omega) a3 (by omega) hl (by simp only[J5,Jf];omega) (G.cl u1 hv);rw[yW];unfold zOI zSb;simp only
   rw[show rng ((i:Int)+1)=Wu ((i:Int)+1)from zB,xD a1,zK,a2,bs,zE9 (v:=t) (n:=x.zA.length) (k:=k) fC (by omega) c1 c3 (by rw[c4];decide),bs,bs,xM,bs,yA (by simp only[Jf];omega),bs,bs,zB,bs,u3,bs,zCR h hc u1 hv,bs,bs,cs];unfold zOI zSb at q2;simp only at q2 ⊢
   rw[q2];unfold XX;rw[zEZ ht,zYX h hc hp u1 hv u2,Jg,K0,Js]
theorem zIu(hv:V (suf x 0) v):f_Z x (yP C 0 x.zA.length) v=Wu (XX x C 0 x.zA.length v):=by
 have h6:=h.os.1;have hl:=zAN C 0 x.zA.length;unfold f_Z;rw[show zF (zOI x (yP C 0 x.zA.length)) (v,[],0)=Wu (XX x C 0 x.zA.length v)from by simpa using zRg h hc hC x.zA.length 0 0 (yP C 0 x.zA.length) [] v (by omega) rfl (by omega) (by omega) (by simp) hv,bs]
end
end Go.Pl

namespace Go.Pc
variable {α:Type}{S:α->Prop}{m:α->α->α}{e:α}{n:Nat}{o:Nat->Int}{co:α->Nat->Int}{C:Nat->Option α} (F:Fil S m e n o co)
 include F
theorem exz:∀(l k d:Nat),k<=d->d<=k+l-> ∀{v:α},S v->(∀j,j<d->co v j=0)->exs S m e co C k l v=zeros (ctG C k (d-k)).length++exs S m e co C d (k+l-d) v
 |0,k,d,h1,h2,v,hv,hz=>by
  obtain rfl:k=d:=by omega
  simp[exs,ctG,zeros]
 |l+1,k,d,h1,h2,v,hv,hz=>by
  rcases Gf h1 with g|g
  ·subst g
   have:k+(l+1)-k=l+1:=by omega
   rw[this];simp[ctG,zeros]
  ·have e1:d-k=(d-(k+1))+1:=by omega
   have e2:k+(l+1)-d=k+1+l-d:=by omega
   cases h:C k with
   |none=>
    rw[zEY h,exz l (k+1) d (by omega) (by omega) hv hz,e1,zEW h,e2]
   |some t=>
    rw[zEZ h,hz k g,show pw m e t (0:Int).toNat=e from rfl,yAu F hv,exz l (k+1) d (by omega) (by omega) hv hz,e1,zEX h,e2];rfl
end Go.Pc
namespace Go.Pl
open Go Go.Ab Go.Wk Go.Pc
variable {C:Nat->Option Vec}{a n i d D:Nat}{v:Vec}
def qP(x:SPr)(C:Nat->Option Vec)(k l:Nat):List Int:=(Ke k l).filterMap fun j=>(C j).map fun _=>at0 x.zA j
theorem zBH{x:SPr}{C:Nat->Option Vec}:∀(l k:Nat),(qP x C k l).length=(yP C k l).length
 |0,_=>rfl
 |l+1,k=>by
  have ih:=zBH (x:=x) (C:=C) l (k+1);unfold qP yP at ih ⊢
  rw[L3];cases h:C k with
  |none=>rw[K5,K5,h];exact ih
  |some t=>rw[K5,K5,h];simp only[H9,J8];rw[ih]
theorem yAv(h:a<=n:=by omega):yP C 0 n=yP C 0 a++yP C a (n-a):=by
 unfold yP;rw[<-Hc]
 congr 1
 have:=U9 (s:=0) (m:=a) (n:=n-a);rw[Jd]at this;rw[this];congr 1;omega
theorem zUw{x:SPr}(h:a<=n:=by omega):qP x C 0 n=qP x C 0 a++qP x C a (n-a):=by
 unfold qP;rw[<-Hc]
 congr 1
 have:=U9 (s:=0) (m:=a) (n:=n-a);rw[Jd]at this;rw[this];congr 1;omega
theorem zUx(h:a<=n:=by omega):qV C 0 n=qV C 0 a++qV C a (n-a):=by
 unfold qV;rw[<-Hc]
 congr 1
 have:=U9 (s:=0) (m:=a) (n:=n-a);rw[Jd]at this;rw[this];congr 1;omega
theorem zIv{C:Nat->Option Vec}:∀(l k:Nat),(qV C k l).length=(yP C k l).length
 |0,_=>rfl
 |l+1,k=>by
  have ih:=zIv (C:=C) l (k+1);unfold qV yP at ih ⊢
  rw[L3];cases h:C k with
  |none=>rw[K5,K5,h];exact ih
  |some t=>rw[K5,K5,h];simp only[H9,J8];rw[ih]
theorem zRh{x:SPr}{k l:Nat}{t:Vec}(h:C k=Wu t):qP x C k (l+1)=at0 x.zA k::qP x C (k+1) l:=by unfold qP;rw[L3];simp[h]
theorem zKR{C:Nat->Option Vec}:∀(l k i:Nat),i<(yP C k l).length-> ∃d t,k<=d/\d<k+l/\C d=Wu t/\(yP C k (d-k)).length=i
 |0,k,i,h=>by simp[yP]at h
 |l+1,k,i,h=>by
  cases ht:C k with
  |none=>
   rw[zAy ht]at h;obtain⟨d,t,h1,h2,h3,h4⟩:=zKR l (k+1) i h;refine⟨d,t,by omega,by omega,h3,?_⟩;rw[show d-k=(d-(k+1))+1 from by omega,zAy ht,h4]
  |some t=>
   cases i with
   |zero=>exact⟨k,t,by omega,by omega,ht,by simp[yP]⟩
   |succ i=>
    rw[kX ht,J8]at h;obtain⟨d,t',h1,h2,h3,h4⟩:=zKR (C:=C) l (k+1) i (by omega);refine⟨d,t',by omega,by omega,h3,?_⟩;rw[show d-k=(d-(k+1))+1 from by omega,kX ht,J8,h4]
theorem zPZ{β:Type}{m:Nat}{F:Nat->β}{d:β}(h:i<m):(gl m F).getD i d=F i:=by simp[gl,h]
noncomputable def sbp (x:SPr) (C:Nat->Option Vec):SPr:=
 ⟨qP x C 0 x.zA.length,
  gl (yP C 0 x.zA.length).length fun i=>XX x C 0 x.zA.length (PW x ((yP C 0 x.zA.length).getD i []) (at0 (qP x C 0 x.zA.length) i).toNat),
  gl (yP C 0 x.zA.length).length fun i=>gl ((yP C 0 x.zA.length).length-1-i) fun j=>XX x C 0 x.zA.length (cjf x ((yP C 0 x.zA.length).getD (i+1+j) []) ((yP C 0 x.zA.length).getD i []))⟩
theorem yAw{y:SPr}(hv:V (suf y 0) v):zZQ y.zA v:=by
 have hl:=qE hv;rw[yC]at hl;refine⟨by omega,fun i hi=>?_⟩;have:=zZO hv (d:=i) (by rw[yC];omega);have ho:od (suf y 0) i=at0 y.zA i:=by unfold od suf;rw[Jn,List.getElem?_range' (by omega)];simp[lvl]
 rw[ho]at this;unfold cd at this;exact⟨this.1,by have:=this.2;show v.getD i 0<=_;omega⟩
section
variable {x:SPr} (h:Pres x) (hc:xS (suf x 0)) {L:Vec->Prop} (hL:∀a,L a->V (suf x 0) a) {C:Nat->Option Vec} (hC:zM2 x L C)
 include h hc hC
structure AtD (x:SPr) (C:Nat->Option Vec) (i d:Nat) (t:Vec):Prop where
 b:d<x.zA.length
 c:C d=Wu t
 l:(yP C 0 d).length=i
 l1:(yP C 0 (d+1)).length=i+1
 g:(yP C 0 x.zA.length).getD i []=t
 o:at0 (qP x C 0 x.zA.length) i=at0 x.zA d
 r:(yP C 0 x.zA.length).drop (i+1)=yP C (d+1) (x.zA.length-(d+1))
 n:i<(yP C 0 x.zA.length).length
 p:at0 (qV C 0 x.zA.length) i=(d:Int)
 omit h hc in
theorem zYY{t:Vec}(ht:C d=Wu t):AtD x C (yP C 0 d).length d t:=by
  have hd:=(hC.i ht).1;have e1:=yAv (C:=C) (a:=d) (n:=x.zA.length);have e2:=zUw (x:=x) (C:=C) (a:=d) (n:=x.zA.length);rw[show x.zA.length-d=(x.zA.length-(d+1))+1 from by omega]at e1 e2;rw[kX ht]at e1;rw[zRh ht]at e2;have hl:=zBH (x:=x) (C:=C) d 0;have e3:=zUx (C:=C) (a:=d) (n:=x.zA.length);rw[show x.zA.length-d=(x.zA.length-(d+1))+1 from by omega,zDu ht]at e3;have bX:=zIv (C:=C) d 0;refine⟨hd,ht,rfl,?_,?_,?_,?_,?_,?_⟩
  ·rw[zKP,Jd,ht,J5];rfl
  ·rw[e1,J2,Ja (by omega)];simp
  ·rw[e2,at0,J2,Ja (by omega),hl];simp
  ·rw[e1,Jb3,Hf (by omega)];simp
  ·rw[e1,J5,J8];omega
  ·rw[e3,at0,J2,Ja (by omega),bX];simp
 omit h hc in
theorem zIw(hi:i<(yP C 0 x.zA.length).length):∃d t,AtD x C i d t:=by obtain⟨d,t,_,_,h3,h4⟩:=zKR x.zA.length 0 i hi;have:=zYY hC h3;rw[Li]at h4;rw[h4]at this;exact⟨d,t,this⟩
theorem zYZ:∀a b,V (suf x 0) a->V (suf x 0) b->V (suf x 0) (cjf x a b)/\mul (suf x 0) b (cjf x a b)=mul (suf x 0) a b:=fun a b ha hb=>by have _:=hC;obtain⟨h1,h2,_⟩:=zIq h hc ha hb;exact⟨h1,h2⟩
theorem zIx:(sbp x C).zA.length=(yP C 0 x.zA.length).length:=by
 have _:=h;have _:=hc;have _:=hC;exact zBH _ _
 include hL
theorem zUy{t:Vec}(ha:AtD x C i d t):InX x L (d+1) (PW x t (at0 x.zA d).toNat):=zOj (zCg h hc) hL hC ha.c
theorem zUz{t:Vec}(ha:AtD x C i d t){s:Vec}(hs:s∈yP C (d+1) (x.zA.length-(d+1))):InX x L (d+1) (cjf x s t):=zOi (zCg h hc) hL hC (zYZ h hc hC) ha.c (zIr (zCg h hc) hC hs)
 omit hL hC in
theorem zZa{t:Vec}(ha:AtD x C i d t)(hv:InX x L (d+1) v):XX x C 0 x.zA.length v=zeros (i+1)++XX x C (d+1) (x.zA.length-(d+1)) v:=by have hd:=ha.b;have:=exz (zCg h hc) (C:=C) x.zA.length 0 (d+1) (by omega) (by omega) hv.s hv.z;rw[Li,Jd]at this;rw[show(ctG C 0 (d+1)).length=i+1 from ha.l1]at this;exact this
theorem zQa:∀(l k:Nat),k+l=x.zA.length->suf (sbp x C) (yP C 0 k).length=SX x C k l
 |0,k,hk=>by
  obtain rfl:k=x.zA.length:=by omega
  rw[vQ (by rw[zIx h hc hC];omega)];rfl
 |l+1,k,hk=>by
  have ih:=zQa l (k+1) (by omega);cases ht:C k with
  |none=>
   rw[zKP,Jd,ht,Jh]at ih;rw[ih];unfold SX;rw[zFa ht]
  |some t=>
   have ha:=zYY hC ht;rw[ha.l1]at ih;have VD:x.zA.length-(k+1)=l:=by omega
   rw[yB (by rw[zIx h hc hC];exact ha.n),ih];unfold SX;rw[zFb ht]
   congr 1
   unfold lvl;have hP:(sbp x C).zQ.getD (yP C 0 k).length []=XX x C 0 x.zA.length (PW x t (at0 x.zA k).toNat):=by rw[show(sbp x C).zQ=gl (yP C 0 x.zA.length).length fun i=>XX x C 0 x.zA.length (PW x ((yP C 0 x.zA.length).getD i []) (at0 (qP x C 0 x.zA.length) i).toNat)from rfl,yY ha.n,ha.g,ha.o]
   have hQ:(sbp x C).zG.getD (yP C 0 k).length []=gl ((yP C 0 x.zA.length).length-1-(yP C 0 k).length) fun j=>XX x C 0 x.zA.length (cjf x ((yP C 0 x.zA.length).getD ((yP C 0 k).length+1+j) []) t):=by rw[show(sbp x C).zG=gl (yP C 0 x.zA.length).length fun i=>gl ((yP C 0 x.zA.length).length-1-i) fun j=>XX x C 0 x.zA.length (cjf x ((yP C 0 x.zA.length).getD (i+1+j) []) ((yP C 0 x.zA.length).getD i []))from rfl,zPZ ha.n,ha.g]
   have hw:∀v,InX x L (k+1) v->(XX x C 0 x.zA.length v).drop ((yP C 0 k).length+1)=XX x C (k+1) l v:=fun v hv=>by rw[zZa h hc ha hv,VD,Kd (by simp[zeros])]
   have hr:=ha.r;rw[VD]at hr;rw[hP,hQ,hw _ (zUy h hc hL hC ha)]
   congr 1
   ·exact ha.o
   ·apply Kx
    intro j;rw[Jn,Jn,Jn,show ctG C (k+1) l=yP C (k+1) l from rfl,<-hr,Kw]
    by_cases hj:(yP C 0 k).length+1+j<(yP C 0 x.zA.length).length
    ·rw[List.getElem?_range (by omega),J3 hj]
     simp only[H9]
     congr 1
     rw[J2,J3 hj,Le];refine hw _ (zUz h hc hL hC ha ?_);rw[VD,<-hr];refine U2.2 ⟨j,?_⟩;rw[Kw,J3 hj]
    ·rw[Kj (by simp;omega),Kj (by omega)]
     rfl
theorem zM8:suf (sbp x C) 0=SX x C 0 x.zA.length:=zQa h hc hL hC x.zA.length 0 (by omega)
theorem zXd:xS (suf (sbp x C) 0):=by rw[zM8 h hc hL hC];exact zUs (zCg h hc) hL hC (zYZ h hc hC)
theorem yCN(hv:V (suf x 0) v)(hg:zIM x L v):V (suf (sbp x C) 0) (XX x C 0 x.zA.length v):=by rw[zM8 h hc hL hC];exact zM7 (zCg h hc) hL hC x.zA.length 0 (by omega) ⟨hv,hg,fun _ hj=>by omega⟩
theorem zU0{t:Vec}(ha:AtD x C i d t)(hv:InX x L (d+1) v):Exp (sbp x C).zA (XX x C 0 x.zA.length v) i:=by refine⟨yAw (yCN h hc hL hC hv.s hv.g),fun j hj=>?_⟩;rw[zZa h hc ha hv,at0,J2,K1 (by simp[zeros];omega)];simp[zeros,show j<i+1 from by omega]
theorem zXe:Pres (sbp x C):=by
 have h6:=h.os.1;have hl:=zIx h hc hC;have gF:=zAN C 0 x.zA.length;refine⟨⟨by omega,fun i hi=>?_⟩,by rw[hl];exact yG,by rw[hl];exact yG,fun i hi=>?_⟩
 ·obtain⟨d,t,ha⟩:=zIw hC (i:=i) (by omega)
  have:=h.os.2 d ha.b;rw[<-ha.o]at this;exact this
 ·rw[hl]at hi
  obtain⟨d,t,ha⟩:=zIw hC hi;have hQ:(sbp x C).zG.getD i []=gl ((yP C 0 x.zA.length).length-1-i) fun j=>XX x C 0 x.zA.length (cjf x ((yP C 0 x.zA.length).getD (i+1+j) []) ((yP C 0 x.zA.length).getD i [])):=zPZ hi
  refine⟨?_,?_,fun j hj=>?_⟩
  ·rw[show(sbp x C).zQ.getD i []=_ from yY hi,ha.g,ha.o]
   exact zU0 h hc hL hC ha (zUy h hc hL hC ha)
  ·rw[hQ,yG,hl];omega
  ·rw[hQ,yG]at hj
   rw[hQ,yY hj,ha.g];refine zU0 h hc hL hC ha (zUz h hc hL hC ha ?_);rw[<-ha.r];refine U2.2 ⟨j,?_⟩;rw[Kw,J3 (by omega),J2,J3 (by omega)];rfl
end
section
variable {x:SPr} (h:Pres x) (hc:xS (suf x 0)) {L:Vec->Prop}{C:Nat->Option Vec} (hC:zM2 x L C)
 include h hc hC
theorem zFf{k:Nat}{t:Vec}(q:C k=Wu t):k<x.zA.length/\V (suf x 0) t/\(∀j,j<k->at0 t j=0)/\at0 t k=1:=by have _:=h;have _:=hc;obtain⟨a,_,c,d,e,_⟩:=hC.i q;exact⟨a,c,d,e⟩
theorem yCO(hi:i<(yP C 0 x.zA.length).length):V (suf x 0) ((yP C 0 x.zA.length).getD i []):=by have _:=h;have _:=hc;obtain⟨d,t,ha⟩:=zIw hC hi;rw[ha.g];exact(hC.i ha.c).2.2.1
theorem zU1{t:Vec}(ha:AtD x C i d t):0<=at0 x.zA d/\at0 x.zA d<=7:=by have _:=hc;have _:=hC;have:=(h.os.2 d ha.b).pos;omega
theorem zXf{t:Vec}(ha:AtD x C i d t):zF (zVK x (yP C 0 x.zA.length) t ((yP C 0 x.zA.length).drop (i+1))) ([],0)=Wu (gl ((yP C 0 x.zA.length).length-1-i) fun j=>XX x C 0 x.zA.length (cjf x ((yP C 0 x.zA.length).getD (i+1+j) []) t)):=by
 have h6:=h.os.1;have hl:=zAN C 0 x.zA.length;have ht:V (suf x 0) t:=(hC.i ha.c).2.2.1;refine zN (fun j=>(gl j fun j=>XX x C 0 x.zA.length (cjf x ((yP C 0 x.zA.length).getD (i+1+j) []) t),(j:Int))) ((yP C 0 x.zA.length).length-1-i) (fun j hj=>?_) ?_
 ·have hs:=yCO h hc hC (i:=i+1+j) (by omega)
  obtain⟨c1,c2,c3,c4⟩:=zIq h hc hs ht;obtain⟨b,hb⟩:=zFe h hc (zFf h hc hC) c1;have me:ixO ((yP C 0 x.zA.length).drop (i+1)) (j:Int)=Wu ((yP C 0 x.zA.length).getD (i+1+j) []):=by rw[uL,Kw,J2,J3 (by omega)];rfl
  unfold zVK;simp only
  rw[show rng ((j:Int)+1)=Wu ((j:Int)+1)from zB,K8,Wz,zK,me,bs,c3,bs,hb,bs,yA (by rw[yG];simp;omega),bs,bs];rw[vZ];rfl
 ·unfold zVK
  simp only
  rw[K8,Wy (by omega),zL]
theorem zM9:f_F x (yP C 0 x.zA.length)=Wu (sbp x C):=by
 have h6:=h.os.1;have hl:=zAN C 0 x.zA.length;have hp:=zIn h hc (C:=C) (fun{k t} q=>by obtain⟨a,b,c,d⟩:=zFf h hc hC q;exact⟨a,b,c,d⟩) 0 x.zA.length (by omega);have hlp:=zIv (C:=C) x.zA.length 0;have eg:=zBH (x:=x) (C:=C) x.zA.length 0;unfold f_F;rw[hp,bs];have key:zF (zRV x (yP C 0 x.zA.length) (qV C 0 x.zA.length)) ([],[],[],0)=Wu ((sbp x C).zA,(sbp x C).zQ,(sbp x C).zG):=by
  have:=zN (body:=zRV x (yP C 0 x.zA.length) (qV C 0 x.zA.length)) (r:=((sbp x C).zA,(sbp x C).zQ,(sbp x C).zG))
   (fun i=>((qP x C 0 x.zA.length).take i,gl i (fun i=>XX x C 0 x.zA.length (PW x ((yP C 0 x.zA.length).getD i []) (at0 (qP x C 0 x.zA.length) i).toNat)),gl i (fun i=>gl ((yP C 0 x.zA.length).length-1-i) fun j=>XX x C 0 x.zA.length (cjf x ((yP C 0 x.zA.length).getD (i+1+j) []) ((yP C 0 x.zA.length).getD i []))),(i:Int))) (yP C 0 x.zA.length).length (fun i hi=>by
   obtain⟨d,t,ha⟩:=zIw hC hi;have ht:=(hC.i ha.c).2.2.1;have ho:=zU1 h hc hC ha;have hb:=ha.b;obtain⟨b,hm⟩:=zFe h hc (zFf h hc hC) (v:=PW x t (at0 x.zA d).toNat) (wO (g0 h hc).toMon ht _);have gK:=zXf h hc hC ha;have me:ixO (yP C 0 x.zA.length) (i:Int)=Wu t:=by rw[yS [] hi,ha.g]
   have VG:ixO (qV C 0 x.zA.length) (i:Int)=Wu (d:Int):=by rw[xM,ha.p]
   have ek:(qP x C 0 x.zA.length).take i++[at0 x.zA d]=(qP x C 0 x.zA.length).take (i+1):=by rw[H8,J3 (by omega),<-ha.o];simp[at0,J2,J3 (show i<(qP x C 0 x.zA.length).length from by omega)]
   unfold zRV;simp only
   rw[show rng ((i:Int)+1)=Wu ((i:Int)+1)from zB,xD hi,zK,me,bs,VG,bs,xM hb,bs,yA (by simp;omega),bs,zUm h hc ht ho.1 (by omega),bs,hm,bs,yA (by rw[yG];simp;omega),bs,bs,
    show((i:Int)+1)=((i+1:Nat):Int)from by omega,zBG,bs,gK,bs,yA (by rw[yG];simp;omega),bs,bs,ek]
   have e1:=vZ (m:=i) (F:=fun i=>XX x C 0 x.zA.length (PW x ((yP C 0 x.zA.length).getD i []) (at0 (qP x C 0 x.zA.length) i).toNat));have e2:=vZ (m:=i) (F:=fun i=>gl ((yP C 0 x.zA.length).length-1-i) fun j=>XX x C 0 x.zA.length (cjf x ((yP C 0 x.zA.length).getD (i+1+j) []) ((yP C 0 x.zA.length).getD i [])));simp only[ha.g,ha.o]at e1 e2;rw[e1,e2]) (by
   unfold zRV;simp only
   rw[wX,zL,Jt (by omega)];rfl)
  exact this
 rw[key,bs]
theorem zXg{t:Vec}(ha:AtD x C i d t){s5:Mx×List Mx×Int}(hs:s5.2.2=(i:Int)):zF (zSc x (yP C 0 x.zA.length) s5) ([],((i+1:Nat):Int))=Wu (gl ((yP C 0 x.zA.length).length-1-i) fun j=>XX x C 0 x.zA.length (cjf x ((yP C 0 x.zA.length).getD (i+1+j) []) t)):=by
 have h6:=h.os.1;have hl:=zAN C 0 x.zA.length;have hn:=ha.n;have ht:V (suf x 0) t:=(hC.i ha.c).2.2.1;have:=zN (body:=zSc x (yP C 0 x.zA.length) s5) (r:=gl ((yP C 0 x.zA.length).length-1-i) fun j=>XX x C 0 x.zA.length (cjf x ((yP C 0 x.zA.length).getD (i+1+j) []) t)) (fun j=>(gl j fun j=>XX x C 0 x.zA.length (cjf x ((yP C 0 x.zA.length).getD (i+1+j) []) t),((i+1+j:Nat):Int))) ((yP C 0 x.zA.length).length-1-i) (fun j hj=>by
  have cx:=yCO h hc hC (i:=i+1+j) (by omega);obtain⟨c1,c2,c3,c4⟩:=zIq h hc cx ht;have hb:=zIu h hc (zFf h hc hC) c1;unfold zSc;simp only
  rw[show rng (((i+1+j:Nat):Int)+1)=Wu (((i+1+j:Nat):Int)+1)from zB,xD,zK,yS [],bs,hs,yS [] hn,bs,ha.g,c4,bs,hb,bs,yA (by rw[yG];simp;omega),bs,bs,vZ];rfl) (by
  unfold zSc;simp only
  rw[Wy (by omega),zL])
 exact this
theorem zRi:zYe x (yP C 0 x.zA.length)=Wu (qP x C 0 x.zA.length):=by
 have h6:=h.os.1;have hl:=zAN C 0 x.zA.length;have eg:=zBH (x:=x) (C:=C) x.zA.length 0;unfold zYe;have:=zN (body:=zJQ x (yP C 0 x.zA.length)) (r:=qP x C 0 x.zA.length) (fun i=>((qP x C 0 x.zA.length).take i,(i:Int))) (yP C 0 x.zA.length).length (fun i hi=>by
  obtain⟨d,t,ha⟩:=zIw hC hi;obtain⟨c1,c2,c3,c4⟩:=zFf h hc hC ha.c;have me:ixO (yP C 0 x.zA.length) (i:Int)=Wu t:=by rw[yS [] hi,ha.g]
  have ek:(qP x C 0 x.zA.length).take i++[at0 x.zA d]=(qP x C 0 x.zA.length).take (i+1):=by rw[H8,J3 (by omega),<-ha.o];simp[at0,J2,J3 (show i<(qP x C 0 x.zA.length).length from by omega)]
  unfold zJQ zSb;simp only
  rw[show rng ((i:Int)+1)=Wu ((i:Int)+1)from zB,xD hi,zK,me,bs,zE9 (v:=t) (n:=x.zA.length) (k:=d) (zBF h hc c2) (by omega) c1 c3 (by rw[c4];decide),bs,bs,xM c1,bs,yA (by simp;omega),bs,bs,ek];rfl) (by
  unfold zJQ;simp only
  rw[wX,zL,Jt (by omega)])
 rw[show zF (zJQ x (yP C 0 x.zA.length)) ([],0)=Wu (qP x C 0 x.zA.length)from by simpa using this,bs]
theorem zU2:f_M x (yP C 0 x.zA.length)=Wu (sbp x C):=by
 have h6:=h.os.1;have hl:=zAN C 0 x.zA.length;have eg:=zBH (x:=x) (C:=C) x.zA.length 0;unfold f_M;rw[zRi h hc hC,bs];have key:zF (zSd x (yP C 0 x.zA.length) (qP x C 0 x.zA.length)) ([],[],0)=Wu ((sbp x C).zQ,(sbp x C).zG):=by
  have:=zN (body:=zSd x (yP C 0 x.zA.length) (qP x C 0 x.zA.length)) (r:=((sbp x C).zQ,(sbp x C).zG))
   (fun i=>(gl i (fun i=>XX x C 0 x.zA.length (PW x ((yP C 0 x.zA.length).getD i []) (at0 (qP x C 0 x.zA.length) i).toNat)),gl i (fun i=>gl ((yP C 0 x.zA.length).length-1-i) fun j=>XX x C 0 x.zA.length (cjf x ((yP C 0 x.zA.length).getD (i+1+j) []) ((yP C 0 x.zA.length).getD i []))),(i:Int))) (yP C 0 x.zA.length).length (fun i hi=>by
   obtain⟨d,t,ha⟩:=zIw hC hi;have ht:=(hC.i ha.c).2.2.1;have ho:=zU1 h hc hC ha;have hm:=zIu h hc (zFf h hc hC) (v:=PW x t (at0 x.zA d).toNat) (wO (g0 h hc).toMon ht _);have me:ixO (yP C 0 x.zA.length) (i:Int)=Wu t:=by rw[yS [] hi,ha.g]
   have hio:ixO (qP x C 0 x.zA.length) (i:Int)=Wu (at0 x.zA d):=by rw[xM,ha.o]
   unfold zSd;simp only
   rw[show rng ((i:Int)+1)=Wu ((i:Int)+1)from zB,xD hi,zK,me,bs,hio,bs,zPW h hc ht ho.1 (by omega),bs,hm,bs,yA (by rw[yG];simp;omega),bs,bs,
    show((i:Int)+1)=((i+1:Nat):Int)from by omega,zXg h hc hC ha rfl,bs,yA (by rw[yG];simp;omega),bs,bs]
   have e1:=vZ (m:=i) (F:=fun i=>XX x C 0 x.zA.length (PW x ((yP C 0 x.zA.length).getD i []) (at0 (qP x C 0 x.zA.length) i).toNat));have e2:=vZ (m:=i) (F:=fun i=>gl ((yP C 0 x.zA.length).length-1-i) fun j=>XX x C 0 x.zA.length (cjf x ((yP C 0 x.zA.length).getD (i+1+j) []) ((yP C 0 x.zA.length).getD i [])));simp only[ha.g,ha.o]at e1 e2;rw[e1,e2]) (by
   unfold zSd;simp only
   rw[wX,zL];rfl)
  exact this
 rw[key,bs];rfl
end
def E0:SPr:=⟨[],[],[]⟩
theorem zKS:Pres E0:=⟨⟨by simp[E0],fun i hi=>by simp[E0]at hi⟩,rfl,rfl,fun i hi=>by simp[E0]at hi⟩
def elx(p:Int)(D:Nat):SPr:=exx D E0 (uJ p D 0) []
section
variable {p:Int}{D:Nat} (hp:Prime p) (hD:D<=40)
 include hp hD
theorem yCP:ExB E0.zA.length D E0 (uJ p D 0) []:=
 ⟨by simp[E0],rfl,rfl,rfl,fun i hi=>by simp[E0]at hi,rfl,⟨hp,by omega,rfl,fun i hi=>by simp[E0]at hi⟩⟩
theorem zXh:xS (suf (elx p D) 0):=(zPD zKS (yCP hp hD) (fun i hi=>by simp at hi) (fun i hi=>by simp[E0]at hi)).2 fun i hi=>by simp[E0]at hi
end
theorem zKT{p:Int}(hp:Prime p)(hn:n<=100000){R:Mx}{pv:Nat->Nat}(h:Red p n R pv){v:List Int}(hv:Row p n v):Sp p n R (mkv n fun j=>at0 (cl p n R pv v R.length) j-at0 v j):=by
 obtain⟨cf,fy⟩:=zK1 hp hn h hv R.length (J9 _);refine⟨cf,fun j hj=>?_⟩;rw[zY hj,Qzz,fy j hj,<-Qzz]
 congr 1
 omega
section
variable {x:SPr}{m:zS}{D:Nat}
theorem zXi{p:Int}(hp:Prime p)(hn:n<=100000){R:Mx}{pv:Nat->Nat}(h:Red p n R pv){v w:List Int}(hv:Row p n v)(hw:Row p n w)(hs:Sp p n R (mkv n fun j=>at0 w j-at0 v j)):cl p n R pv w R.length=cl p n R pv v R.length:=by
 have h7:=hp.pos;have ha:=zAF hp hn h hw R.length;have hb:=zAF hp hn h hv R.length;have za:=zFF hp hn h hw R.length (J9 _);have zb:=zFF hp hn h hv R.length (J9 _);have da:=zKT hp hn h hw;have db:=zKT hp hn h hv
 generalize cl p n R pv w R.length=a at*
 generalize cl p n R pv v R.length=b at*
 have d1:Sp p n R (mkv n fun j=>(at0 a j-at0 w j)-(at0 b j-at0 v j)):=qZ (k:=-1) da db fun j hj=>by rw[zY hj,zY hj,zY hj];congr 1;omega
 have d2:Sp p n R (mkv n fun j=>at0 a j-at0 b j):=qZ (k:=1) d1 hs fun j hj=>by rw[zY hj,zY hj,zY hj];congr 1;omega
 have hx:=h.expand d2;rw[vT ha.1,vT hb.1];refine yH fun j hj=>?_
 have e:=hx j hj;rw[xL (g:=fun _=>0) (fun i hi=>by rw[zY (h.lt i hi),za i hi,zb i hi];simp),uU,zY hj,Jaz]at e;have e2:=Um.2 e;rw[vN (ha.2 j hj),vN (hb.2 j hj)]at e2;exact e2
end
section
variable {p:Int} (hp:Prime p) {D:Nat} (hD:D<=100000) {U:Mx}{pv:Nat->Nat} (hU:Red p D U pv)
 include hp hD hU
theorem zXj{v:List Int}(hv:Row p D v)(hz:∀i,i<U.length->at0 v (pv i)=0):cl p D U pv v U.length=v:=by
 have ha:=zAF hp hD hU hv U.length;have za:=zFF hp hD hU hv U.length (J9 _);have hx:=hU.expand (zKT hp hD hU hv);rw[vT ha.1]
 conv=>rhs;rw[vT hv.1]
 refine yH fun j hj=>?_
 have e:=hx j hj;rw[xL (g:=fun _=>0) (fun i hi=>by rw[zY (hU.lt i hi),za i hi,hz i hi];simp),uU,zY hj,Jaz]at e;have e2:=Um.2 e;rw[vN (ha.2 j hj),vN (hv.2 j hj)]at e2;exact e2
theorem zOm{K:Nat}{c:Nat->Int}{V:Nat->List Int}(hV:∀k,k<K->Row p D (V k)):cl p D U pv (mkv D fun j=>(S K fun k=>c k*at0 (V k) j)%p) U.length=mkv D fun j=>(S K fun k=>c k*at0 (cl p D U pv (V k) U.length) j)%p:=by
 have h7:=hp.pos;have row:∀f:Nat->Int,Row p D (mkv D fun j=>f j%p):=fun f=>by refine⟨yI _ _,fun j hj=>?_⟩;rw[zY hj];have e1:=Kl (f j) (show p≠0 by omega);have e2:=K9 (f j) (show 0<p by omega);omega
 have hy:=row fun j=>S K fun k=>c k*at0 (cl p D U pv (V k) U.length) j
 have hv:=row fun j=>S K fun k=>c k*at0 (V k) j
 have hz:∀i,i<U.length->at0 (mkv D fun j=>(S K fun k=>c k*at0 (cl p D U pv (V k) U.length) j)%p) (pv i)=0:=fun i hi=>by rw[zY (hU.lt i hi),xL (g:=fun _=>0) (fun k hk=>by rw[zFF hp hD hU (hV k hk) U.length (J9 _) i hi,L6]),uU,Jaz]
 rw[<-zXj hp hD hU hy hz]
 symm
 refine zXi hp hD hU hv hy ?_;refine zK2 (out:=gl K fun k=>mkv D fun j=>at0 (cl p D U pv (V k) U.length) j-at0 (V k) j) (cf:=c) (fun k hk=>?_) fun j hj=>?_
 ·rw[yG]at hk
  rw[yY hk];exact zKT hp hD hU (hV k hk)
 ·rw[zY hj,zY hj,zY hj,Int.emod_sub_emod,Int.sub_emod_emod,yG]
  congr 1
  rw[Int.sub_eq_add_neg,show -(S K fun k=>c k*at0 (V k) j)=S K fun k=> -1*(c k*at0 (V k) j)from by rw[zBo];omega,<-zCp];refine xL fun k hk=>?_
  rw[ent,yY hk,zY hj,Int.mul_sub];omega
end
section
variable {x:SPr}{m:zS}{D:Nat}{U:Mx}{pv:Nat->Nat} (hU:Red m.Prime D U pv)
def pim(p:Int)(D:Nat)(U:Mx)(pv:Nat->Nat)(v:List Int):List Int:=mkv (tI D U.length pv).length fun b=>at0 (cl p D U pv v U.length) ((tI D U.length pv).getD b 0)
 include hU
end
def ixa(a:Int):Nat:=a.natAbs-1
def Wd(N:Nat)(w:List Int):Prop:=w.length<=64/\ ∀a∈w,a≠0/\ -(N:Int)<=a/\a<=(N:Int)
section
variable {p:Int} (hp:Prime p) {N:Nat} (hN:N<=40) {R:Mx}{pv:Nat->Nat} (hR:Red p N R pv)
 include hp hN hR
theorem zQb:f_q p R (N:Int)=Wu (gl N fun k=>pim p N R pv (xE N k)):=by
 have h7:=hp.pos;have hRl:R.length<=N:=hR.len_le;unfold f_q;rw[zGp hp (by omega) hR (by omega),bs];have e1:zF (zVG (N:Int) (gl R.length fun i=>(pv i:Int))) ([],0)=Wu (jU N R.length pv):=zN (fun c=>(jU c R.length pv,(c:Int))) N (fun c hc=>by
  have hl:(jU c R.length pv).length<=c:=by grind[kV]
  unfold zVG;simp only
  rw[xD hc,zK,zIL,bs,Bool.not_not,zEH];cases(Ju R.length).all fun i=>pv i != c
  ·rw[zL,zB,bs,cs];simp
  ·rw[zK,yA (by grind),bs,zB,bs,cs];simp) (by
  simp_all[zVG])
 rw[e1,bs];have e2:∀k,k<N->zF (zVH (jU N R.length pv) (cl p N R pv (xE N k) R.length)) ([],0)=Wu (pim p N R pv (xE N k)):=fun k hk=>by
  have hc:=zAF hp (by omega) hR (tQ (D:=N) (k:=k) h7.1) R.length;refine zN (fun b=>(mkv b fun b=>at0 (cl p N R pv (xE N k) R.length) ((tI N R.length pv).getD b 0),(b:Int))) (tI N R.length pv).length (fun b hb=>?_) ?_
  ·have hl:=kV (D:=N) (N:=R.length) (pv:=pv)
   unfold zVH;simp only
   rw[show(jU N R.length pv).length=(tI N R.length pv).length from Jm ..,xD hb,zK,zPA hb,bs,xM (by rw[hc.1];exact zFJ hb),bs,yA (by simp only[yI,Jf];omega),bs,zB,bs];have:∀f:Nat->Int,mkv b f++[f b]=mkv (b+1) f:=fun f=>by simp[mkv,Ub]
   rw[this fun b=>at0 (cl p N R pv (xE N k) R.length) ((tI N R.length pv).getD b 0)];rfl
  ·unfold zVH
   simp only
   rw[show(jU N R.length pv).length=(tI N R.length pv).length from Jm ..,wX,zL];rfl
 have e3:zF (zVI p R (N:Int) (jU N R.length pv)) ([],0)=Wu (gl N fun k=>pim p N R pv (xE N k)):=zN (fun c=>(gl c fun k=>pim p N R pv (xE N k),(c:Int))) N (fun c hc=>by
  unfold zVI;simp only
  rw[xD hc,zK,zAi hc,bs,zHQ hp (by omega) hR (tQ h7.1) (by omega),bs,e2 c hc,bs,yA (by rw[yG];simp;omega),bs,zB,bs,vZ];rfl) (by
  unfold zVI;simp only
  rw[wX,zL])
 rw[e3,bs]
theorem zEe:zRZ R (N:Int)=Wu (jU N R.length pv):=by
 have h7:=hp.pos;have hRl:R.length<=N:=hR.len_le;unfold zRZ;have dX:∀i,i<R.length->f_w (R.getD i [])=Wu (pv i:Int):=fun i hi=>by have hr:=hR.row i hi;have h1:=hR.one i hi;exact zE9 (n:=N) hr.1 (by omega) (hR.lt i hi) (hR.low i hi) (by grind)
 obtain⟨r,r1,rfl⟩:=uH (body:=zQq R (N:Int)) (Q:=fun r=>r=jU N R.length pv)
  (fun s=> ∃(c t:Nat),s=(jU c R.length pv,(t:Int),(c:Int))/\c<=N/\t<=R.length/\(∀i,i<t->pv i<c)/\ ∀i,t<=i->i<R.length->c<=pv i) (fun s=>((N:Int)-s.2.2).toNat) (fun s hs=>by
   obtain⟨c,t,rfl,hc,t1,t2,t3⟩:=hs;have hl:(jU c R.length pv).length<=c:=by grind[kV]
   unfold zQq;simp only
   rcases Gf hc with h|h
   ·subst h
    right;rw[wX,zL];exact⟨_,rfl,rfl⟩
   ·left
    rw[xD h,zK]
    by_cases e:t<R.length
    ·rw[xD e,zK,yS [] e,bs,dX t e,bs]
     by_cases q:pv t=c
     ·rw[q,beq_self_eq_true,zK,zB,bs,zB,bs]
      refine⟨_,rfl,⟨c+1,t+1,?_,by omega,by omega,fun i hi=>?_,fun i hi h2=>?_⟩,by simp only;omega⟩
      ·rw[zEH]
       have:((Ju R.length).all fun i=>pv i != c)=Wx:=by rw[List.all_eq_false];exact⟨t,by simpa using e,by simp[q]⟩
       rw[this];rfl
      ·rcases Jk i t with h|h
       ·have:=t2 i h;omega
       ·have:i=t:=by omega
        subst this;omega
      ·have:=hR.mono t i (by omega) h2
       omega
     ·rw[zCK (by omega:(pv t:Int)≠(c:Int)),zL,yA (by simp only[Jf];omega),bs,zB,bs]
      have hge:∀i,t<=i->i<R.length->c+1<=pv i:=fun i hi h2=>by
       have a:=t3 t (J9 _) e;rcases Gf hi with h|h
       ·subst h;omega
       ·have:=hR.mono t i h h2
        omega
      refine⟨_,rfl,⟨c+1,t,?_,by omega,t1,fun i hi=>by have:=t2 i hi;omega,hge⟩,by simp only;omega⟩;rw[zEH];have:((Ju R.length).all fun i=>pv i != c)=Ww:=by
       rw[Ka];intro i hi;have eD:=Ll.1 hi;rcases Jk i t with h|h
       ·have:=t2 i h
        simp;omega
       ·have:=hge i h eD
        simp;omega
      rw[this,if_pos rfl];rfl
    ·have et:t=R.length:=by omega
     subst et;rw[wX,zL,yA (by simp only[Jf];omega),bs,zB,bs];refine⟨_,rfl,⟨c+1,R.length,?_,by omega,t1,fun i hi=>by have:=t2 i hi;omega,fun i hi h2=>by omega⟩,by simp only;omega⟩;rw[zEH];have:((Ju R.length).all fun i=>pv i != c)=Ww:=by rw[Ka];intro i hi;have:=t2 i (Ll.1 hi);simp;omega
     rw[this,if_pos rfl];rfl) 1000 ([],0,0) (by simp only;omega) ⟨0,0,rfl,by omega,by omega,fun i hi=>by omega,fun i _ _=>by omega⟩
 rw[r1,bs]
end
abbrev dmX(x:SPr)(N:Nat):Nat:=base x.zA.length x.zA.length+N
abbrev uTX(x:SPr)(N:Nat):Mx:=gl (base x.zA.length x.zA.length) (xE (dmX x N))
abbrev tMX(x:SPr)(p:Int)(N:Nat):zS:=uJ p (dmX x N) x.zA.length
abbrev cvG(x:SPr)(p:Int)(N:Nat):SPr:=exx (dmX x N) x (tMX x p N) (uTX x N)
theorem tM{a b:Int}(e:a=b:=by omega)(h1:-9223372036854775808<=b:=by omega)(h2:b<=9223372036854775807:=by omega):rng a=Wu b:=by subst e;exact zB h1 h2
theorem zIy{q:Nat}:J0 n 0++xE D q=xE (n+D) (n+q):=by
 apply Qj (by simp[xE,yI]);intro i h1 h2;simp only[xE,mkv,Qh,List.getElem_range,List.getElem_append,List.getElem_replicate,Jc];split
 ·rw[if_neg (by omega)]
 ·congr 1
  exact propext ⟨fun h=>by omega,fun h=>by omega⟩
theorem zKU{v:List Int}{q:Nat}:(v++J0 D 0).set (v.length+q) 1=v++xE D q:=by rw[Lg _ _ (by omega),show v.length+q-v.length=q from by omega,zUt]
section
variable {x:SPr} (h:Pres x) (h7:x.zA.length<=7) {p:Int} (hp:Prime p) {N:Nat} (hN:N<=4)
 include h h7 hp hN
theorem zFg:dmX x N<=32/\x.zA.length+dmX x N<=39:=by have _:=h;have _:=hp;have:=vF x.zA.length (by omega);unfold dmX;omega
theorem zU3:zZT x.zA.length (tMX x p N) (dmX x N):=zM1 hp (by have:=(zFg h h7 hp hN).1;omega)
theorem zU4:zQJ x.zA.length (tMX x p N) (dmX x N):=by have hm:=zU3 h h7 hp hN;exact⟨hm.p,by have:=hm.d3;omega,hm.len,hm.mat⟩
theorem zOn(hi:i<(uTX x N).length):Row p (dmX x N) ((uTX x N).getD i []):=by have _:=h;have _:=h7;have _:=hN;rw[yG]at hi;rw[yY hi];exact tQ hp.pos.1
theorem zFh(hi:i<x.zA.length):(x.zG.getD i []).length=x.zA.length-1-i:=by have _:=h7;have _:=hp;have _:=hN;have:=(h.tl i hi).2.1;omega
theorem zKV{m:zS}{T:Mx}(hm:zQJ x.zA.length m D)(ht:T.length=base x.zA.length x.zA.length):ExB x.zA.length D x m T:=by exact⟨h7,rfl,h.pl,h.cl,fun i hi=>zFh h h7 hp hN hi,ht,hm⟩
theorem yAx:zWJ x.zA.length (dmX x N) x (tMX x p N) (uTX x N):=by
 have hd:=zFg h h7 hp hN;refine⟨h7,rfl,h.pl,h.cl,fun i hi=>zFh h h7 hp hN hi,zFH fun i hi=>?_,fun i=>?_,yG,zFH fun i hi=>?_,zU3 h h7 hp hN⟩
 ·have:=(h.tl i (by rw[<-h.pl];exact hi)).1.1.1
  omega
 ·rcases Jk i x.zA.length with g|g
  ·intro j
   exact zFH (fun j hj=>by have:=((h.tl i g).2.2 j hj).1.1;omega) j
  ·intro j
   rw[J2 (l:=x.zG),Kj (by rw[h.cl];exact g)];simp
 ·have:=(zOn h h7 hp hN hi).1
  omega
theorem zMA{t:Nat}(hi:i<x.zA.length)(ht:x.zA.length-1-i<=t):gl (x.zA.length+dmX x N-1-i) (exG x.zA.length (x.zA.length+dmX x N) x (tMX x p N) (uTX x N) i t)=gl (x.zA.length+dmX x N-1-i) (exF x.zA.length x (tMX x p N) (uTX x N) i):=by
 have _:=h;have _:=h7;have _:=hN;have _:=hp;refine xZ fun q hq=>?_
 unfold exG;split
 ·rfl
 ·rename_i g
  unfold exF;rw[if_neg (by omega),tS hi,zBc];show _=J0 x.zA.length 0++xE (dmX x N) (q-(x.zA.length-1-i));rw[zIy]
  congr 1;omega
theorem zRj:f_m x p (N:Int)=Wu (cvG x p N):=by
 have hd:=zFg h h7 hp hN;have hb:=vF x.zA.length (by omega);have mh:dmX x N=base x.zA.length x.zA.length+N:=rfl;have hE:=yAx h h7 hp hN;have mH:∀n:Nat,n<8->((rng ((n:Int)+1)).bind fun v1=>(rng ((n:Int)*v1)).bind fun v2=>vP v2 2)=Wu ((base n n:Nat):Int):=by decide
 have hc:=mH x.zA.length (by omega);obtain⟨v1,e1,hc⟩:=Q9.1 hc;obtain⟨v2,e2,hc⟩:=Q9.1 hc;unfold f_m;rw[e1,bs,e2,bs,hc,bs,show((base x.zA.length x.zA.length:Nat):Int)+(N:Int)=((dmX x N:Nat):Int)from by unfold dmX;omega,zB,bs,sJ,bs];have k1:zF (zRY p ((dmX x N:Nat):Int)) (x.zA,0)=Wu (x.zA++J0 (dmX x N) p):=by
  have:=zN (body:=zRY p ((dmX x N:Nat):Int)) (r:=x.zA++J0 (dmX x N) p) (fun i=>(x.zA++J0 i p,(i:Int))) (dmX x N) (fun i hi=>by
   unfold zRY;simp only
   rw[show rng ((i:Int)+1)=Wu ((i:Int)+1)from zB,xD hi,zK,yA (by simp;omega),bs,bs,Jg,<-Lf];rfl) (by
   unfold zRY;simp only
   rw[wX,zL])
  simpa using this
 have eg:(x.zA++J0 (dmX x N) p).length=x.zA.length+dmX x N:=by simp
 rw[k1,bs,zIs,bs];have Wg:(trv (x.zA++J0 (dmX x N) p)).zQ=gl (x.zA.length+dmX x N) fun _=>J0 (x.zA.length+dmX x N) 0:=by unfold trv;simp only[eg]
 have gP:(trv (x.zA++J0 (dmX x N) p)).zG=gl (x.zA.length+dmX x N) (unC (x.zA.length+dmX x N)):=by unfold trv unC;simp only[eg]
 rw[Wg,gP];have k2:zF (zOD x ((dmX x N:Nat):Int)) (gl (x.zA.length+dmX x N) (fun _=>J0 (x.zA.length+dmX x N) 0),(x.zA.length:Int),0)=Wu (gl (x.zA.length+dmX x N) (exP x.zA.length (dmX x N) x (uTX x N)),((2*x.zA.length:Nat):Int)):=by
  let st:Nat->Mx:=fun i=>gl (x.zA.length+dmX x N) fun k=>if k<i then x.zQ.getD k []++xE (dmX x N) k else J0 (x.zA.length+dmX x N) 0
  have s0:st 0=gl (x.zA.length+dmX x N) (fun _=>J0 (x.zA.length+dmX x N) 0):=xZ fun k _=>if_neg (by omega)
  have sN:st x.zA.length=gl (x.zA.length+dmX x N) (exP x.zA.length (dmX x N) x (uTX x N)):=xZ fun k _=>by
   unfold exP;split
   ·rw[yY]
   ·rfl
  have:=zN (body:=zOD x ((dmX x N:Nat):Int)) (r:=(st x.zA.length,((2*x.zA.length:Nat):Int))) (fun i=>(st i,((x.zA.length+i:Nat):Int),(i:Int))) x.zA.length (fun i hi=>by
   have hl:=(h.tl i hi).1.1.1;have gp:(st i).set i (x.zQ.getD i []++xE (dmX x N) i)=st (i+1):=by
    show(gl _ _).set i _=gl _ _;rw[zAG];refine xZ fun k _=>?_
    by_cases e:k=i
    ·subst e;rw[if_pos rfl,if_pos (by omega)]
    ·rw[if_neg e]
     by_cases g:k<i
     ·rw[if_pos g,if_pos (by omega)]
     ·rw[if_neg g,if_neg (by omega)]
   unfold zOD;simp only
   rw[show rng ((i:Int)+1)=Wu ((i:Int)+1)from zB,show rng (((x.zA.length+i:Nat):Int)+1)=Wu (((x.zA.length+i:Nat):Int)+1)from zB,xD hi,zK,yS [] (by rw[h.pl];exact hi),bs,show(0:Int)=((0:Nat):Int)from rfl,zIt,bs];rw[Kt,Js,tB (by rw[J5,Jc];omega),bs,show ixO (st i) (i:Int)=_ from vM,bs,bs,bs,J7,J7,<-hl,zKU,hl,gp];rfl) (by
   unfold zOD;simp only
   rw[wX,zL,show x.zA.length+x.zA.length=2*x.zA.length from by omega])
  rw[<-s0,<-sN];exact this
 rw[k2,bs];have k3:∀(i:Nat),i<x.zA.length-> ∀(C:List Mx)(nx:Int),zF (zOE x ((dmX x N:Nat):Int) (C,nx,(i:Int))) (gl (x.zA.length+dmX x N) (exE x.zA.length (dmX x N) x (tMX x p N) (uTX x N) i 0),((x.zA.length+base x.zA.length i:Nat):Int),((i+1:Nat):Int))=Wu (gl (x.zA.length+dmX x N) (exE x.zA.length (dmX x N) x (tMX x p N) (uTX x N) (i+1) 0),((x.zA.length+base x.zA.length (i+1):Nat):Int)):=fun i hi C nx=>by
  have iA:=zFG x.zA.length (by omega) i hi;have mN:=zBf x.zA.length (by omega) i hi;have gF:=zFh h h7 hp hN hi;have tw:gl (x.zA.length+dmX x N) (exE x.zA.length (dmX x N) x (tMX x p N) (uTX x N) i (x.zA.length-1-i))=gl (x.zA.length+dmX x N) (exE x.zA.length (dmX x N) x (tMX x p N) (uTX x N) (i+1) 0):=by
   rw[<-zHP hE hi];refine xZ fun k _=>?_
   unfold exE
   by_cases e:k<i
   ·rw[if_pos e,if_pos e]
   ·rw[if_neg e,if_neg e]
    by_cases g:k=i
    ·rw[if_pos g,if_pos g,zMA h h7 hp hN hi (J9 _),zMA h h7 hp hN hi (by omega)]
    ·rw[if_neg g,if_neg g]
  rw[<-tw];have:=zN (body:=zOE x ((dmX x N:Nat):Int) (C,nx,(i:Int))) (r:=(gl (x.zA.length+dmX x N) (exE x.zA.length (dmX x N) x (tMX x p N) (uTX x N) i (x.zA.length-1-i)),((x.zA.length+base x.zA.length (i+1):Nat):Int))) (fun q=>(gl (x.zA.length+dmX x N) (exE x.zA.length (dmX x N) x (tMX x p N) (uTX x N) i q),((x.zA.length+base x.zA.length i+q:Nat):Int),((i+1+q:Nat):Int))) (x.zA.length-1-i) (fun q hq=>by
   have hl:((x.zG.getD i []).getD q []).length=x.zA.length:=((h.tl i hi).2.2 q (by omega)).1.1;have hF:(x.zG.getD i []).getD q []++xE (dmX x N) (base x.zA.length i+q)=exF x.zA.length x (tMX x p N) (uTX x N) i q:=by unfold exF;rw[if_pos hq,yY]
   unfold zOE;simp only
   rw[show rng (((i+1+q:Nat):Int)+1)=Wu (((i+1+q:Nat):Int)+1)from zB,show rng (((x.zA.length+base x.zA.length i+q:Nat):Int)+1)=Wu (((x.zA.length+base x.zA.length i+q:Nat):Int)+1)from zB,
    show rng (((i+1+q:Nat):Int)-(i:Int))=Wu ((q+1:Nat):Int)from tM]
   rw[xD,zK,yS [] (by rw[h.cl];exact hi),bs,bs,show rng (((q+1:Nat):Int)-1)=Wu (q:Int)from tM,bs,yS [] (by rw[gF];exact hq),bs,show(0:Int)=((0:Nat):Int)from rfl,zIt,bs];rw[Kt,Js,tB (by rw[J5,Jc];omega),bs,vM,bs,bs,show rng (((q+1:Nat):Int)-1)=Wu (q:Int)from tM,bs,zHO hE,vM,bs,bs,bs,
    J7,J7,J7]
   have e5:((x.zG.getD i []).getD q []++J0 (dmX x N) 0).set (x.zA.length+base x.zA.length i+q) 1=exF x.zA.length x (tMX x p N) (uTX x N) i q:=by rw[show x.zA.length+base x.zA.length i+q=((x.zG.getD i []).getD q []).length+(base x.zA.length i+q)from by omega,zKU,hF]
   rw[e5,zGH hE];rfl) (by
   unfold zOE;simp only
   rw[Wy (by omega),zL,show x.zA.length+base x.zA.length i+(x.zA.length-1-i)=x.zA.length+base x.zA.length (i+1)from by omega])
  exact this
 have k4:zF (zOF x ((dmX x N:Nat):Int)) (gl (x.zA.length+dmX x N) (unC (x.zA.length+dmX x N)),((2*x.zA.length:Nat):Int),0)=Wu (gl (x.zA.length+dmX x N) (exC x.zA.length (dmX x N) x (tMX x p N) (uTX x N))):=by
  have s0:gl (x.zA.length+dmX x N) (exE x.zA.length (dmX x N) x (tMX x p N) (uTX x N) 0 0)=gl (x.zA.length+dmX x N) (unC (x.zA.length+dmX x N)):=xZ fun k _=>by rw[zAH hE,if_neg (by omega)]
  have sN:gl (x.zA.length+dmX x N) (exE x.zA.length (dmX x N) x (tMX x p N) (uTX x N) x.zA.length 0)=gl (x.zA.length+dmX x N) (exC x.zA.length (dmX x N) x (tMX x p N) (uTX x N)):=xZ fun k _=>by
   rw[zAH hE];split
   ·rfl
   ·rename_i g
    unfold exC;rw[if_neg g]
  have:=zN (body:=zOF x ((dmX x N:Nat):Int)) (r:=gl (x.zA.length+dmX x N) (exE x.zA.length (dmX x N) x (tMX x p N) (uTX x N) x.zA.length 0)) (fun i=>(gl (x.zA.length+dmX x N) (exE x.zA.length (dmX x N) x (tMX x p N) (uTX x N) i 0),((x.zA.length+base x.zA.length i:Nat):Int),(i:Int))) x.zA.length (fun i hi=>by
   unfold zOF;simp only
   rw[show rng ((i:Int)+1)=Wu ((i+1:Nat):Int)from zB,xD hi,zK,bs,k3 i hi,bs,bs]) (by
   unfold zOF;simp only
   rw[wX,zL])
  rw[s0,sN,hb.2.2,show x.zA.length+x.zA.length=2*x.zA.length from by omega]at this;exact this
 rw[k4,bs];unfold trv;rfl
end
end Go.Pl

namespace Go.Pc
variable {u:Vec}
theorem zIz:∀(P:Pcp),Ok P-> ∀v,V P v->mul P v (zeros P.length)=v
 | [],_,v,hv=>by have:v=[]:=hv;subst this;rfl
 |l::P,ho,[],hv=>by simp only[V]at hv
 |l::P,ho,a::v,hv=>by simp only[Ok]at ho;simp only[V]at hv;have hz:zeros (l::P).length=0::zeros P.length:=rfl;rw[hz,yN,if_neg (by omega)];simp only[H6,iter,Kf];rw[zIz P ho.2.2.2.2 v hv.2]
theorem yCQ{P:Pcp}{l:Lvl}:sig P l (zeros P.length)=zeros P.length:=by unfold sig;exact uD _ _ _ _
theorem zQc{P:Pcp}{l:Lvl}:∀q,iter q (sig P l) (zeros P.length)=zeros P.length
 |0=>rfl
 |q+1=>by simp only[iter];rw[yCQ,zQc q]
theorem zU5:∀(P:Pcp),Ok P-> ∀v,V P v->mul P (zeros P.length) v=v
 | [],_,v,hv=>by have:v=[]:=hv;subst this;rfl
 |l::P,ho,[],hv=>by simp only[V]at hv
 |l::P,ho,a::v,hv=>by simp only[Ok]at ho;simp only[V]at hv;have hz:zeros (l::P).length=0::zeros P.length:=rfl;rw[hz,yN,if_neg (by omega),zQc,zU5 P ho.2.2.2.2 v hv.2];simp
section
variable {l:Lvl}{P:Pcp} (ho:Ok (l::P))
 include ho
theorem m_g{v:Vec}(hu:V P u)(hv:V P v):mul (l::P) (0::u) (1::v)=1::mul P (sig P l u) v:=by have _:=hu;have _:=hv;have h1:=ho.1;rw[yN,if_neg (by omega)];rfl
theorem zOo(hu:V P u):mul (l::P) (0::u) (1::zeros P.length)=1::sig P l u:=by rw[m_g ho hu (xT ho.2.2.2.2),zIz P ho.2.2.2.2 _ (zAh ho hu)]
theorem yCR:mul (l::P) ((l.o-1)::zeros P.length) (1::zeros P.length)=0::l.w:=by
 have h1:=ho.1;rw[yN,if_pos (by omega)];simp only[iter,show(1:Int).toNat=1 from rfl];rw[yCQ,zIz P ho.2.2.2.2 _ (xT ho.2.2.2.2),zIz P ho.2.2.2.2 _ ho.2.1]
 congr 1;omega
theorem yCS(hu:V P u):mul (l::P) (1::u) ((l.o-1)::zeros P.length)=0::mul P l.w (iter (l.o-1).toNat (sig P l) u):=by
 have h1:=ho.1;rw[yN,if_pos (by omega),zIz P ho.2.2.2.2 _ (tA (fun a ha=>zAh ho ha) _ hu)]
 congr 1;omega
theorem zXk{a:Int}{v:Vec}(ha:a<l.o):mul (l::P) (a::u) (0::v)=a::mul P u v:=by have _:=ho;rw[yN,if_neg (by omega),Kf];rfl
end
end Go.Pc
namespace Go.Pl
open Go Go.Ab Go.Wk Go.Pc
variable {i j n D N W:Nat}{k v:Int}{A M F:Mx}{y u:List Int}{pv:Nat->Nat}
def gk(L i:Nat)(k:Int):Vec:=(zeros L).set i k
theorem zGu{L:Nat}(h:i<L:=by omega):gk L i k=zeros i++k::zeros (L-(i+1)):=by
 unfold gk zeros;have:J0 L (0:Int)=J0 i 0++0::J0 (L-(i+1)) 0:=by
  rw[<-Jw,Jx]
  congr 1;omega
 rw[this,Lg _ _ (by simp)];simp
theorem zFi{L:Nat}(h:i<L:=by omega)(hj:j<=i:=by omega):gk L i k=zeros j++gk (L-j) (i-j) k:=by
 rw[zGu h,zGu,<-Jg]
 congr 1
 ·unfold zeros;rw[Jx];congr 1;omega
 ·congr 2;omega
section
variable {y:SPr} (hy:zCo y)
 include hy
theorem y_o(hi:i<y.zA.length):2<=at0 y.zA i/\at0 y.zA i<=7:=(hy.os.2 i hi).pos
theorem zKW(hi:i<y.zA.length)(hj:j<=i)(h0:0<=k)(h1:k<at0 y.zA i):V (suf y j) (gk (y.zA.length-j) (i-j) k):=by
 refine zW9 (y.zA.length-j) j _ (by omega) (by simp[gk,zeros]) fun q hq=>?_
 have ho:=y_o hy (i:=j+q) (by omega);unfold gk;rw[at0,J2,List.getElem?_set]
 by_cases e:i-j=q
 ·rw[if_pos e,if_pos (by simp[zeros];omega)]
  have:j+q=i:=by omega
  rw[this];simp only[Le];omega
 ·rw[if_neg e]
  have:(zeros (y.zA.length-j))[q]?.getD 0=0:=by simp[zeros,hq]
  rw[this];omega
theorem zKX:∀(d j:Nat),j+d<=y.zA.length-> ∀u v,mul (suf y j) (zeros d++u) (zeros d++v)=zeros d++mul (suf y (j+d)) u v
 |0,j,_,u,v=>rfl
 |d+1,j,hj,u,v=>by have ho:=y_o hy (i:=j) (by omega);rw[yB,show zeros (d+1)++u=0::(zeros d++u)from rfl,show zeros (d+1)++v=0::(zeros d++v)from rfl,yN,if_neg (by show¬(0+0>=at0 y.zA j);omega)];simp only[H6,iter];rw[zKX d (j+1) (by omega),show j+1+d=j+(d+1)from by omega];rfl
variable {k:Nat} (hk:k<y.zA.length)
 include hk
theorem zFj:Pc.Ok (lvl y k::suf y (k+1)):=by rw[<-yB hk];exact hy.okAt (by omega)
theorem zU6:zeros (suf y (k+1)).length=zeros (y.zA.length-(k+1)):=by have _:=hy;have _:=hk;rw[yC]
theorem yDY:gk (y.zA.length-k) 0 v=v::zeros (suf y (k+1)).length:=by rw[zGu,zU6 hy hk];rfl
theorem yCT(h1:k<j)(h2:j<y.zA.length):gk (y.zA.length-k) (j-k) v=0::gk (y.zA.length-(k+1)) (j-(k+1)) v:=by
 have _:=hy;rw[zFi (L:=y.zA.length-k) (j:=1)];show 0::gk _ _ v=_
 congr 2
theorem zU7(h1:k<j)(h2:j<y.zA.length):sig (suf y (k+1)) (lvl y k) (gk (y.zA.length-(k+1)) (j-(k+1)) v)=pw (mul (suf y (k+1))) (zeros (suf y (k+1)).length) ((lvl y k).cs.getD (j-(k+1)) []) v.toNat:=by
 have gF:=sQ hy hk;unfold sig;rw[zGu,zA1 _ _ _ _ (by omega)];have:(lvl y k).cs.drop (j-(k+1))=(lvl y k).cs.getD (j-(k+1)) []::(lvl y k).cs.drop (j-(k+1)+1):=by rw[Ku (by omega),J2,J3 (by omega)];rfl
 rw[this];simp only[img];rw[uD];rfl
theorem zQd(h1:k<j)(h2:j<y.zA.length):V (suf y (k+1)) ((lvl y k).cs.getD (j-(k+1)) []):=by have gF:=sQ hy hk;have ho:=zFj hy hk;rw[J2,J3 (by omega)];exact ho.2.2.2.1 _ (Jp _)
theorem zKY(h1:k<j)(h2:j<y.zA.length):sig (suf y (k+1)) (lvl y k) (gk (y.zA.length-(k+1)) (j-(k+1)) 1)=(lvl y k).cs.getD (j-(k+1)) []:=by rw[zU7 hy hk h1 h2];simp only[pw,iter,show(1:Int).toNat=1 from rfl];exact zU5 _ (zFj hy hk).2.2.2.2 _ (zQd hy hk h1 h2)
theorem zXl(u v:Vec):mul (suf y 0) (zeros k++u) (zeros k++v)=zeros k++mul (lvl y k::suf y (k+1)) u v:=by have:=zKX hy k 0 (by omega) u v;rw[Jd,yB hk]at this;exact this
theorem zRk:gk y.zA.length k v=zeros k++v::zeros (suf y (k+1)).length:=by rw[zFi (j:=k) hk (J9 _),Kr,yDY hy hk]
theorem zU8(h1:k<j)(h2:j<y.zA.length):gk y.zA.length j v=zeros k++0::gk (y.zA.length-(k+1)) (j-(k+1)) v:=by rw[zFi (j:=k) h2,yCT hy hk h1 h2]
abbrev Mf(y:SPr)(a b:Vec):Vec:=mul (suf y 0) a b
abbrev gO(y:SPr)(i:Nat):Vec:=gk y.zA.length i 1
abbrev rO(y:SPr)(i:Nat):Vec:=gk y.zA.length i (at0 y.zA i-1)
theorem yCU:Mf y (Mf y (gO y k) (rO y k)) (gO y k)=Mf y (gO y k) (Mf y (rO y k) (gO y k))↔sig (suf y (k+1)) (lvl y k) (lvl y k).w=(lvl y k).w:=by
 have ho:=zFj hy hk;have h1:=ho.1;have hz:=xT ho.2.2.2.2;have e1:mul (lvl y k::suf y (k+1)) (1::zeros (suf y (k+1)).length) ((at0 y.zA k-1)::zeros (suf y (k+1)).length)=0::(lvl y k).w:=by have:=yCS ho hz;rw[zQc,zIz _ ho.2.2.2.2 _ ho.2.1]at this;exact this
 have e2:mul (lvl y k::suf y (k+1)) ((at0 y.zA k-1)::zeros (suf y (k+1)).length) (1::zeros (suf y (k+1)).length)=0::(lvl y k).w:=yCR ho;unfold Mf gO rO;have e3:=zOo ho ho.2.1;have e4:=zXk ho (a:=1) (u:=zeros (suf y (k+1)).length) (v:=(lvl y k).w) (by omega);rw[zU5 _ ho.2.2.2.2 _ ho.2.1]at e4;rw[zRk hy hk,zRk hy hk];simp only[zXl hy hk,e1,e2,e3,e4];simp
theorem yCV(h1:k<j)(h2:j<y.zA.length):mul (suf y (k+1)) (gk (y.zA.length-(k+1)) (j-(k+1)) (at0 y.zA j-1)) (gk (y.zA.length-(k+1)) (j-(k+1)) 1)=(y.zQ.getD j []).drop (k+1):=by
 have bf:=zFj hy h2;have hd:=zBX (x:=y) (v:=y.zQ.getD j []) (hy.tl j h2).1 h2 (k:=k+1);have hs:∀v,gk (y.zA.length-(k+1)) (j-(k+1)) v=zeros (j-(k+1))++v::zeros (suf y (j+1)).length:=fun v=>by
  rw[zGu,zU6 hy h2]
  congr 3;omega
 rw[hs,hs,zKX hy _ _ (by omega),show k+1+(j-(k+1))=j from by omega,yB h2];have:mul (lvl y j::suf y (j+1)) ((at0 y.zA j-1)::zeros (suf y (j+1)).length) (1::zeros (suf y (j+1)).length)=0::(lvl y j).w:=yCR bf;rw[this,hd,show j+1-(k+1)=(j-(k+1))+1 from by omega,zCD,Jg];rfl
theorem yCW(h1:k<j)(h2:j<y.zA.length):Mf y (Mf y (rO y j) (gO y j)) (gO y k)=Mf y (rO y j) (Mf y (gO y j) (gO y k))↔sig (suf y (k+1)) (lvl y k) ((y.zQ.getD j []).drop (k+1))=pw (mul (suf y (k+1))) (zeros (suf y (k+1)).length) ((lvl y k).cs.getD (j-(k+1)) []) (at0 y.zA j).toNat:=by
 have ho:=zFj hy hk;have bf:=y_o hy h2;have hg:=zKW hy h2 (j:=k+1) (by omega) (k:=1) (by omega) (by omega);have hr:=zKW hy h2 (j:=k+1) (by omega) (k:=at0 y.zA j-1) (by omega) (by omega);unfold Mf gO rO;have hW:V (suf y (k+1)) ((y.zQ.getD j []).drop (k+1)):=by rw[<-yCV hy hk h1 h2];exact yT ho.2.2.2.2 hr hg
 have e1:=zXk ho (a:=0) (u:=gk (y.zA.length-(k+1)) (j-(k+1)) (at0 y.zA j-1)) (v:=gk (y.zA.length-(k+1)) (j-(k+1)) 1) (by have:=ho.1;omega);rw[yCV hy hk h1 h2]at e1;have e2:=zOo ho hW;have e3:=zOo ho hg;rw[zKY hy hk h1 h2]at e3;have e4:=m_g ho hr (zQd hy hk h1 h2);rw[zU7 hy hk h1 h2]at e4;rw[zU8 hy hk h1 h2,zU8 hy hk h1 h2,zRk hy hk];simp only[zXl hy hk,e1,e2,e3,e4];have:pw (mul (suf y (k+1))) (zeros (suf y (k+1)).length) ((lvl y k).cs.getD (j-(k+1)) []) (at0 y.zA j).toNat=mul (suf y (k+1)) (pw (mul (suf y (k+1))) (zeros (suf y (k+1)).length) ((lvl y k).cs.getD (j-(k+1)) []) (at0 y.zA j-1).toNat) ((lvl y k).cs.getD (j-(k+1)) []):=by rw[show(at0 y.zA j).toNat=(at0 y.zA j-1).toNat+1 from by omega];exact wG _ _ _
 rw[this];simp
theorem yCX(h1:k<j)(h2:j<y.zA.length):Mf y (Mf y (gO y j) (gO y k)) (rO y k)=Mf y (gO y j) (Mf y (gO y k) (rO y k))↔mul (suf y (k+1)) (lvl y k).w (iter (lvl y k).o.toNat (sig (suf y (k+1)) (lvl y k)) (gk (y.zA.length-(k+1)) (j-(k+1)) 1))=mul (suf y (k+1)) (gk (y.zA.length-(k+1)) (j-(k+1)) 1) (lvl y k).w:=by
 have ho:=zFj hy hk;have gD:=y_o hy hk;have bf:=y_o hy h2;have hz:=xT ho.2.2.2.2;have hg:=zKW hy h2 (j:=k+1) (by omega) (k:=1) (by omega) (by omega);have e1:∀u,V (suf y (k+1)) u->mul (lvl y k::suf y (k+1)) (1::u) ((at0 y.zA k-1)::zeros (suf y (k+1)).length)=0::mul (suf y (k+1)) (lvl y k).w (iter (at0 y.zA k-1).toNat (sig (suf y (k+1)) (lvl y k)) u):=fun u hu=>yCS ho hu
 unfold Mf gO rO;have e2:=zOo ho hg;have e3:=e1 _ hz;rw[zQc,zIz _ ho.2.2.2.2 _ ho.2.1]at e3;have e4:=e1 _ (zAh ho hg);have e5:=zXk ho (a:=0) (u:=gk (y.zA.length-(k+1)) (j-(k+1)) 1) (v:=(lvl y k).w) (by have:=ho.1;omega);rw[zU8 hy hk h1 h2,zRk hy hk,zRk hy hk];simp only[zXl hy hk,e2,e3,e4,e5];have:iter (lvl y k).o.toNat (sig (suf y (k+1)) (lvl y k)) (gk (y.zA.length-(k+1)) (j-(k+1)) 1)=iter (at0 y.zA k-1).toNat (sig (suf y (k+1)) (lvl y k)) (sig (suf y (k+1)) (lvl y k) (gk (y.zA.length-(k+1)) (j-(k+1)) 1)):=by rw[show(lvl y k).o.toNat=(at0 y.zA k-1).toNat+1 from by show(at0 y.zA k).toNat=_;omega];rfl
 rw[this];simp
theorem yCY(h1:k<i)(h2:i<j)(h3:j<y.zA.length):mul (suf y (k+1)) (gk (y.zA.length-(k+1)) (j-(k+1)) 1) (gk (y.zA.length-(k+1)) (i-(k+1)) 1)=zeros (i-(k+1))++1::(lvl y i).cs.getD (j-(i+1)) []:=by
 have _:=hk;have hi:i<y.zA.length:=by omega
 have hoi:=zFj hy hi;have bf:=y_o hy h3;have hs:gk (y.zA.length-(k+1)) (i-(k+1)) 1=zeros (i-(k+1))++1::zeros (suf y (i+1)).length:=by
  rw[zGu,zU6 hy hi]
  congr 3;omega
 have cx:gk (y.zA.length-(k+1)) (j-(k+1)) 1=zeros (i-(k+1))++0::gk (y.zA.length-(i+1)) (j-(i+1)) 1:=by rw[zFi (j:=i-(k+1)),show y.zA.length-(k+1)-(i-(k+1))=y.zA.length-i from by omega,show j-(k+1)-(i-(k+1))=j-i from by omega,yCT hy hi h2 h3]
 rw[hs,cx,zKX hy _ _ (by omega),show k+1+(i-(k+1))=i from by omega,yB hi,zOo hoi (zKW hy h3 (by omega) (by omega) (by omega)),zKY hy hi h2 h3]
theorem yCZ(h1:k<i)(h2:i<j)(h3:j<y.zA.length):Mf y (Mf y (gO y j) (gO y i)) (gO y k)=Mf y (gO y j) (Mf y (gO y i) (gO y k))↔sig (suf y (k+1)) (lvl y k) (zeros (i-(k+1))++1::(lvl y i).cs.getD (j-(i+1)) [])=mul (suf y (k+1)) ((lvl y k).cs.getD (j-(k+1)) []) ((lvl y k).cs.getD (i-(k+1)) []):=by have ho:=zFj hy hk;have gD:=y_o hy hk;have hoi:=y_o hy (show i<y.zA.length by omega);have bf:=y_o hy h3;have hgi:=zKW hy (show i<y.zA.length by omega) (j:=k+1) (by omega) (k:=1) (by omega) (by omega);have hgj:=zKW hy h3 (j:=k+1) (by omega) (k:=1) (by omega) (by omega);unfold Mf gO;have e1:=zXk ho (a:=0) (u:=gk (y.zA.length-(k+1)) (j-(k+1)) 1) (v:=gk (y.zA.length-(k+1)) (i-(k+1)) 1) (by have:=ho.1;omega);have hz:=yT ho.2.2.2.2 hgj hgi;rw[yCY hy hk h1 h2 h3]at e1 hz;have e2:=zOo ho hz;have e3:=zOo ho hgi;rw[zKY hy hk h1 (by omega)]at e3;have e4:=m_g ho hgj (zQd hy hk h1 (show i<y.zA.length by omega));rw[zKY hy hk (by omega) h3]at e4;rw[zU8 hy hk (show k<j by omega) h3,zU8 hy hk h1 (by omega),zRk hy hk];simp only[zXl hy hk,e1,e2,e3,e4];simp
end
structure I27 (y:SPr) (n:Nat):Prop where
 a:∀i,i<n->Mf y (Mf y (gO y i) (rO y i)) (gO y i)=Mf y (gO y i) (Mf y (rO y i) (gO y i))
 b:∀i j,i<j->j<n->Mf y (Mf y (rO y j) (gO y j)) (gO y i)=Mf y (rO y j) (Mf y (gO y j) (gO y i))
 c:∀i j,i<j->j<n->Mf y (Mf y (gO y j) (gO y i)) (rO y i)=Mf y (gO y j) (Mf y (gO y i) (rO y i))
 d:∀i j k,i<j->j<k->k<n->Mf y (Mf y (gO y k) (gO y j)) (gO y i)=Mf y (gO y k) (Mf y (gO y j) (gO y i))
section
variable {y:SPr} (hy:zCo y)
 include hy
theorem yDZ(hi:i<y.zA.length):V (suf y 0) (gO y i):=by have:=y_o hy hi;exact zKW hy hi (j:=0) (by omega) (by omega) (by omega)
theorem yEa(hi:i<y.zA.length):V (suf y 0) (rO y i):=by have:=y_o hy hi;exact zKW hy hi (j:=0) (by omega) (by omega) (by omega)
theorem yAy(hc:xS (suf y 0))(hn:n<=y.zA.length):I27 y n:=by
 have G:=zAo _ (hy.okAt (by omega)) hc;have hg:∀i,i<n->V (suf y 0) (gO y i):=fun i hi=>yDZ hy (by omega)
 have hr:∀i,i<n->V (suf y 0) (rO y i):=fun i hi=>yEa hy (by omega)
 exact⟨fun i hi=>G.assoc (hg i hi) (hr i hi) (hg i hi),fun i j gQ hj=>G.assoc (hr j hj) (hg j hj) (hg i (by omega)),fun i j gQ hj=>G.assoc (hg j hj) (hg i (by omega)) (hr i (by omega)),fun i j k gQ hjk hk=>G.assoc (hg k hk) (hg j (by omega)) (hg i (by omega))⟩
variable {k:Nat} (hk:k<y.zA.length)
 include hk
theorem zRl(hM:Mon (V (suf y (k+1))) (mul (suf y (k+1))) (zeros (suf y (k+1)).length))(h1:k<i)(h2:i<j)(h3:j<y.zA.length):sig (suf y (k+1)) (lvl y k) (zeros (i-(k+1))++1::(lvl y i).cs.getD (j-(i+1)) [])=mul (suf y (k+1)) ((lvl y k).cs.getD (i-(k+1)) []) (sig (suf y (k+1)) (lvl y k) (((y.zG.getD i []).getD (j-(i+1)) []).drop (k+1))):=by
 have hi:i<y.zA.length:=by omega
 have gF:=sQ hy hk;have ho:=zFj hy hk;obtain⟨_,t2,t3⟩:=hy.tl i hi;have hd:=zBX (t3 (j-(i+1)) (by omega)) hi (k:=k+1);have mJ:(lvl y i).cs.getD (j-(i+1)) []=((y.zG.getD i []).getD (j-(i+1)) []).drop (i+1):=by
  show((y.zG.getD i []).map (·.drop (i+1))).getD (j-(i+1)) []=_
  generalize y.zG.getD i []=l at t2 ⊢
  rw[J2,Jn,J2];have gI:j-(i+1)<l.length:=by omega
  simp[gI]
 have ee:(lvl y k).cs.drop (i-(k+1))=(lvl y k).cs.getD (i-(k+1)) []::(lvl y k).cs.drop (i+1-(k+1)):=by rw[Ku (by omega),J2,J3 (by omega)];rw[show i-(k+1)+1=i+1-(k+1)from by omega];rfl
 have hm:∀c∈(lvl y k).cs.drop (i+1-(k+1)),V (suf y (k+1)) c:=fun c hc=>ho.2.2.2.1 c (List.mem_of_mem_drop hc)
 have pU:=zQd hy hk h1 hi;unfold sig;rw[hd,zA1 _ _ _ _ (by omega),zA1 _ _ _ _ (by omega),ee,<-mJ];simp only[img,iter,show(1:Int).toNat=1 from rfl];rw[hM.onel pU,zDf hM _ _ hm pU]
end
section
variable {D:Nat}{x:SPr}{m:zS}{T:Mx} (h:Pres x) (hE:ExB x.zA.length D x m T) (hT:∀i,i<T.length->Row m.Prime D (T.getD i []))
 include h hE hT
theorem zXm(hi:I27 (exx D x m T) x.zA.length){k:Nat}(hk:k<x.zA.length)(hc:xS (suf (exx D x m T) (k+1))):LCn x (exx D x m T) k:=by
 have hy:=kW h hE hT;have hl:=xQ h hE hT;have eR:k<(exx D x m T).zA.length:=by omega
 have G:=zAo _ (hy.okAt (k:=k+1) (by omega)) hc;refine⟨fun j h1 h2=>((yCW hy eR (j:=j) (by omega) (by omega)).1 (hi.b k j (by omega) h2)).symm,fun i h1 h2 j h3 h4=>?_,(yCU hy eR).1 (hi.a k hk),fun j h1 h2=>(yCX hy eR (j:=j) (by omega) (by omega)).1 (hi.c k j (by omega) h2)⟩;have:=(yCZ hy eR (i:=i) (j:=j) (by omega) (by omega) (by omega)).1 (hi.d k i j (by omega) (by omega) h4);rw[zRl hy eR G.toMon (by omega) (by omega) (by omega)]at this;exact this.symm
theorem zXn(hr:zII x m D):I27 (exx D x m T) x.zA.length↔xS (suf (exx D x m T) 0):=by
 have hl:=xQ h hE hT;refine⟨fun hi=>?_,fun hc=>yAy (kW h hE hT) hc (by omega)⟩;have key:∀d k,k+d=x.zA.length->xS (suf (exx D x m T) k):=fun d=>by
  induction d with
  |zero=>intro k hk;exact zEM h hE hT D k (by omega) (by omega)
  |succ d ih=>
   intro k hk;have hc:=ih (k+1) (by omega);exact(zCH (kW h hE hT) (by omega)).2 ⟨hc,zNT h hE hT hr (by omega) (zXm h hE hT hi (by omega) hc)⟩
 exact key x.zA.length 0 (by omega)
end
theorem zU9(hi:i<n):gk (n+D) i v=gk n i v++zeros D:=by
 rw[zGu,zGu hi,Jg]
 congr 1
 show _=v::(zeros (n-(i+1))++zeros D)
 congr 1
 unfold zeros;rw[Jx]
 congr 1;omega
theorem yAz:(gk n i v).length=n:=by simp[gk,zeros]
section
variable {D D2:Nat}{x:SPr}{m m2:zS}{T T2:Mx}{φ:Vec->Vec} (h:Pres x) (hE:ExB x.zA.length D x m T) (hT:∀i,i<T.length->Row m.Prime D (T.getD i [])) (gM:ExB x.zA.length D2 x m2 T2) (gP:∀i,i<T2.length->Row m2.Prime D2 (T2.getD i [])) (hF:Fh x.zA.length D D2 m m2 T T2 φ)
 include h hE hT
theorem zOp(hi:i<x.zA.length):at0 (exx D x m T).zA i=at0 x.zA i:=tZ h hE hT hi
theorem zG3(hi:i<x.zA.length)(h0:0<=v)(h1:v<at0 x.zA i):V (suf (exx D x m T) 0) (gk (exx D x m T).zA.length i v):=by
 have hl:=xQ h hE hT;exact zKW (kW h hE hT) (j:=0) (by omega) (by omega) h0 (by rw[zOp h hE hT hi];exact h1)
 include gM gP hF
theorem zUA(hi:i<x.zA.length):Fm φ x.zA.length (gk (exx D x m T).zA.length i v)=gk (exx D2 x m2 T2).zA.length i v:=by rw[xQ h hE hT,xQ h gM gP,zU9 hi,zU9 hi,zCe yAz,hF.z]
theorem zXo{a b:Vec}(ha:V (suf (exx D x m T) 0) a)(hb:V (suf (exx D x m T) 0) b):Fm φ x.zA.length (Mf (exx D x m T) a b)=Mf (exx D2 x m2 T2) (Fm φ x.zA.length a) (Fm φ x.zA.length b):=
 zUc h hE hT gM gP hF x.zA.length 0 (by omega) a b ha hb
theorem zXp(hc:xS (suf x 0)){A B C:Vec}(hA:V (suf (exx D x m T) 0) A)(hB:V (suf (exx D x m T) 0) B)(hC:V (suf (exx D x m T) 0) C):
  ∃r,zNn m.Prime (Mf (exx D x m T) (Mf (exx D x m T) A B) C) (Mf (exx D x m T) A (Mf (exx D x m T) B C)) (x.zA.length:Int)=Wu r/\Row m.Prime D r/\
   (φ r=zeros D2↔Mf (exx D2 x m2 T2) (Mf (exx D2 x m2 T2) (Fm φ x.zA.length A) (Fm φ x.zA.length B)) (Fm φ x.zA.length C)=Mf (exx D2 x m2 T2) (Fm φ x.zA.length A) (Mf (exx D2 x m2 T2) (Fm φ x.zA.length B) (Fm φ x.zA.length C))):=by
 have hp:=hE.m.p.pos;have fb:=gM.m.p.pos;have h3:=hE.m.d3;have h6:=h.os.1;have ok:=uX h hE hT (k:=0) (by omega);have Wt:=yT ok hA hB;have Ws:=yT ok hB hC;have ha:=yT ok Wt hC;have hb:=yT ok hA Ws;have G:=zAo _ (h.okAt (k:=0) (by omega)) hc;have tk:=fun{a b:Vec}(q:V (suf (exx D x m T) 0) a)(q':V (suf (exx D x m T) 0) b)=>zFN h hE hT (k:=0) (by omega) q q'
 simp only[Li]at tk;have tV:∀{a:Vec},V (suf (exx D x m T) 0) a->V (suf x 0) (a.take x.zA.length):=fun{a} q=>by obtain⟨y,u,rfl,hy,hu⟩:=(sX h hE hT x.zA.length 0 (by omega) a).1 q;rw[Jz (by have:=qE hy;rw[yC]at this;omega)];exact hy
 have e:(Mf (exx D x m T) (Mf (exx D x m T) A B) C).take x.zA.length=(Mf (exx D x m T) A (Mf (exx D x m T) B C)).take x.zA.length:=by unfold Mf;rw[tk Wt hC,tk hA hB,tk hA Ws,tk hB hC,G.assoc (tV hA) (tV hB) (tV hC)]
 have f1:=zXo h hE hT gM gP hF Wt hC;have f2:=zXo h hE hT gM gP hF hA hB;have f3:=zXo h hE hT gM gP hF hA Ws;have f4:=zXo h hE hT gM gP hF hB hC;unfold Mf at f1 f2 f3 f4 e ⊢
 rw[<-f2,<-f1,<-f4,<-f3]
 generalize mul (suf (exx D x m T) 0) (mul (suf (exx D x m T) 0) A B) C=a at ha e ⊢
 generalize mul (suf (exx D x m T) 0) A (mul (suf (exx D x m T) 0) B C)=b at hb e ⊢
 obtain⟨y,u,rfl,hy,hu⟩:=(sX h hE hT x.zA.length 0 (by omega) a).1 ha;obtain⟨z,v,rfl,hz,hv⟩:=(sX h hE hT x.zA.length 0 (by omega) b).1 hb;have eQ:y.length=x.zA.length:=by have:=qE hy;rw[yC]at this;omega
 have pb:z.length=x.zA.length:=by have:=qE hz;rw[yC]at this;omega
 rw[Jz eQ,Jz pb]at e;subst e;have fW:∀w:List Int,w.length=D->zT (y++w) (x.zA.length:Int) ((y++w).length:Int)=Wu w:=fun w hw=>by rw[zBG (by simp;omega),Kd eQ]
 unfold zNn;rw[fW u hu.1,bs,zB,bs,fW v hv.1,bs,zBe hE.m.p hu hv (by omega) (by omega),bs,zNI];refine⟨_,rfl,zCJ hE.m.p,?_⟩;rw[zCe eQ,zCe eQ,List.append_cancel_left_eq];have ha:=zCJ (p:=m.Prime) (D:=D) (r:=u) (s:=v) (k:=-1) hE.m.p;have hs:adv m.Prime D (tN m.Prime D u (-1) v) v=u:=by refine Eq.trans (yH (g:=fun j=>at0 u j) fun j hj=>?_) (vT hu.1).symm;have hr:=hu.2 j hj;rw[tN,zY hj,Gk,show at0 u j+ -1*at0 v j+at0 v j=at0 u j from by omega,Jo (by omega) (by omega)]
 have hφ:=hF.add _ _ ha hv;rw[hs]at hφ;have hra:=hF.row _ ha;have hrv:=hF.row _ hv;constructor
 ·intro g
  rw[hφ,g,vW hrv]
 ·intro g
  rw[hφ,tG]at g;have:=(zWM (u:=φ v) hra (xI (p:=m.Prime) (D:=D2))).1 (by grind[zAK]);exact this
variable (hL:(exx D x m T).zA.length<=40)
 include hL
 omit gM gP hF in
theorem zEf{a b:Vec}(ha:V (suf (exx D x m T) 0) a)(hb:V (suf (exx D x m T) 0) b):f_n (exx D x m T) a b=Wu (Mf (exx D x m T) a b):=by
  have hp:=(kW h hE hT).p hL;have:=zGE hp (k:=0) (by omega) a b ha hb;unfold f_n;rw[show f_a (exx D x m T) 0 a b=Wu (mul (suf (exx D x m T) 0) a b)from this,bs]
 omit gM gP hF in
theorem zI0(hi:i<x.zA.length):zNm (exx D x m T) (i:Int) v=Wu (gk (exx D x m T).zA.length i v):=by have hl:=xQ h hE hT;unfold zNm zLh;rw[yZ,bs,bs,tB (by simp;omega),bs];rfl
end
section
variable {D D2:Nat}{x:SPr}{m m2:zS}{T T2:Mx}{φ:Vec->Vec} (h:Pres x) (hE:ExB x.zA.length D x m T) (hT:∀i,i<T.length->Row m.Prime D (T.getD i [])) (gM:ExB x.zA.length D2 x m2 T2) (gP:∀i,i<T2.length->Row m2.Prime D2 (T2.getD i [])) (hF:Fh x.zA.length D D2 m m2 T T2 φ) (hc:xS (suf x 0)) (hL:(exx D x m T).zA.length<=40)
 include h hE hT gM gP hF hc hL
theorem zXq{i1 i2 i3:Nat}{v1 v2 v3:Int}(h1:i1<x.zA.length)(h2:i2<x.zA.length)(h3:i3<x.zA.length)(b1:0<=v1/\v1<at0 x.zA i1)(b2:0<=v2/\v2<at0 x.zA i2)(b3:0<=v3/\v3<at0 x.zA i3):
  ∃r,zNn m.Prime (Mf (exx D x m T) (Mf (exx D x m T) (gk (exx D x m T).zA.length i1 v1) (gk (exx D x m T).zA.length i2 v2)) (gk (exx D x m T).zA.length i3 v3)) (Mf (exx D x m T) (gk (exx D x m T).zA.length i1 v1) (Mf (exx D x m T) (gk (exx D x m T).zA.length i2 v2) (gk (exx D x m T).zA.length i3 v3))) (x.zA.length:Int)=Wu r/\Row m.Prime D r/\
   (φ r=zeros D2↔Mf (exx D2 x m2 T2) (Mf (exx D2 x m2 T2) (gk (exx D2 x m2 T2).zA.length i1 v1) (gk (exx D2 x m2 T2).zA.length i2 v2)) (gk (exx D2 x m2 T2).zA.length i3 v3)=Mf (exx D2 x m2 T2) (gk (exx D2 x m2 T2).zA.length i1 v1) (Mf (exx D2 x m2 T2) (gk (exx D2 x m2 T2).zA.length i2 v2) (gk (exx D2 x m2 T2).zA.length i3 v3))):=by
 have _:=hL;have:=zXp h hE hT gM gP hF hc (zG3 h hE hT h1 b1.1 b1.2) (zG3 h hE hT h2 b2.1 b2.2) (zG3 h hE hT h3 b3.1 b3.2);rw[zUA h hE hT gM gP hF h1,zUA h hE hT gM gP hF h2,zUA h hE hT gM gP hF h3]at this;exact this
theorem yA0(gQ:i<j)(hj:j<x.zA.length){L:Mx}{C:Prop}(hG:GR m.Prime D (fun r=>φ r=zeros D2) L N C)(hN:N<=10000):
  ∃L',zF (zVS (exx D x m T) (x.zA.length:Int) m.Prime (gO (exx D x m T) i) (gO (exx D x m T) j)) (L,((j+1:Nat):Int))=Wu L'/\GR m.Prime D (fun r=>φ r=zeros D2) L' (N+x.zA.length) (C/\ ∀k,j<k->k<x.zA.length->Mf (exx D2 x m2 T2) (Mf (exx D2 x m2 T2) (gO (exx D2 x m2 T2) k) (gO (exx D2 x m2 T2) j)) (gO (exx D2 x m2 T2) i)=Mf (exx D2 x m2 T2) (gO (exx D2 x m2 T2) k) (Mf (exx D2 x m2 T2) (gO (exx D2 x m2 T2) j) (gO (exx D2 x m2 T2) i))):=by
 have h6:=h.os.1;have ob:=fun(q:Nat)(hq:q<x.zA.length)=>(h.os.2 q hq).pos
 have oi:=ob i (by omega);have oj:=ob j hj;have ok:=uX h hE hT (k:=0) (by omega);have gi:=zG3 h hE hT (i:=i) (v:=1) (by omega) (by omega) (by omega);have gj:=zG3 h hE hT (i:=j) (v:=1) hj (by omega) (by omega);refine uE (fun q(s:Mx×Int)=>s.2=((j+1+q:Nat):Int)/\GR m.Prime D (fun r=>φ r=zeros D2) s.1 (N+q) (C/\ ∀k,j<k->k<j+1+q->Mf (exx D2 x m2 T2) (Mf (exx D2 x m2 T2) (gO (exx D2 x m2 T2) k) (gO (exx D2 x m2 T2) j)) (gO (exx D2 x m2 T2) i)=Mf (exx D2 x m2 T2) (gO (exx D2 x m2 T2) k) (Mf (exx D2 x m2 T2) (gO (exx D2 x m2 T2) j) (gO (exx D2 x m2 T2) i)))) (x.zA.length-(j+1)) (fun q s hq ⟨hs,hg⟩=>?_) (fun s ⟨hs,hg⟩=>?_) ⟨rfl,hG.to (by omega) ⟨fun c=>⟨c,fun k a b=>by omega⟩,fun c=>c.1⟩⟩
 ·left
  obtain⟨L1,s2⟩:=s;dsimp only at hs hg;subst hs;have hk:j+1+q<x.zA.length:=by omega
  have ok2:=ob (j+1+q) hk;have gk':=zG3 h hE hT (i:=j+1+q) (v:=1) hk (by omega) (by omega);obtain⟨r,r1,r2,r3⟩:=zXq h hE hT gM gP hF hc hL (i1:=j+1+q) (i2:=j) (i3:=i) (v1:=1) (v2:=1) (v3:=1) hk hj (by omega) (by omega) (by omega) (by omega);have te:=hg.len;refine⟨(L1++[r],((j+1+q+1:Nat):Int)),?_,rfl,(hg.app (GR.one r2 r3)).to (by omega) ?_⟩
  ·unfold zVS
   dsimp only
   rw[show rng (((j+1+q:Nat):Int)+1)=Wu ((j+1+q+1:Nat):Int)from tM,xD hk,zK,zI0 h hE hT hL hk,bs,zEf h hE hT hL gk' gj,bs,zEf h hE hT hL (yT ok gk' gj) gi,bs,zEf h hE hT hL gj gi,bs,zEf h hE hT hL gk' (yT ok gj gi),bs,r1,bs,yA (by simp;omega),bs,bs]
  ·constructor
   ·rintro⟨⟨g1,g2⟩,g3⟩
    refine⟨g1,fun k a b=>?_⟩;rcases Jk k (j+1+q)with e|e
    ·exact g2 k a e
    ·obtain rfl:k=j+1+q:=by omega
     exact g3
   ·rintro⟨g1,g2⟩
    exact⟨⟨g1,fun k a b=>g2 k a (by omega)⟩,g2 _ (by omega) (by omega)⟩
 ·obtain⟨L1,s2⟩:=s
  dsimp only at hs hg;subst hs;refine⟨L1,?_,hg.to (by omega) ⟨fun⟨a,b⟩=>⟨a,fun k c d=>b k c (by omega)⟩,fun⟨a,b⟩=>⟨a,fun k c d=>b k c (by omega)⟩⟩⟩;unfold zVS;dsimp only
  rw[Wy (by omega),zL]
structure TB (y:SPr) (n i j:Nat):Prop where
 b:Mf y (Mf y (rO y j) (gO y j)) (gO y i)=Mf y (rO y j) (Mf y (gO y j) (gO y i))
 c:Mf y (Mf y (gO y j) (gO y i)) (rO y i)=Mf y (gO y j) (Mf y (gO y i) (rO y i))
 d:∀k,j<k->k<n->Mf y (Mf y (gO y k) (gO y j)) (gO y i)=Mf y (gO y k) (Mf y (gO y j) (gO y i))
theorem yA1(hi:i<x.zA.length){L:Mx}{C:Prop}(hG:GR m.Prime D (fun r=>φ r=zeros D2) L N C)(hN:N<=5000):
  ∃L',zF (zVT (exx D x m T) (x.zA.length:Int) m.Prime (gO (exx D x m T) i) (rO (exx D x m T) i)) (L,((i+1:Nat):Int))=Wu L'/\GR m.Prime D (fun r=>φ r=zeros D2) L' (N+50*x.zA.length) (C/\ ∀j,i<j->j<x.zA.length->TB (exx D2 x m2 T2) x.zA.length i j):=by
 have h6:=h.os.1;have ob:=fun(q:Nat)(hq:q<x.zA.length)=>(h.os.2 q hq).pos
 have oi:=ob i (by omega);have ok:=uX h hE hT (k:=0) (by omega);have e1:=zOp h hE hT hi;have e2:=zOp h gM gP hi;have gi:=zG3 h hE hT (i:=i) (v:=1) hi (by omega) (by omega);have ri:=zG3 h hE hT (i:=i) (v:=at0 x.zA i-1) hi (by omega) (by omega);have dz:rO (exx D x m T) i=gk (exx D x m T).zA.length i (at0 x.zA i-1):=by unfold rO;rw[e1]
 have cV:rO (exx D2 x m2 T2) i=gk (exx D2 x m2 T2).zA.length i (at0 x.zA i-1):=by unfold rO;rw[e2]
 have te:=xQ h hE hT;have Vx:∀q,q<=x.zA.length->50*q<=50*40:=fun q hq=>by omega
 refine uE (fun q(s:Mx×Int)=>s.2=((i+1+q:Nat):Int)/\GR m.Prime D (fun r=>φ r=zeros D2) s.1 (N+50*q) (C/\ ∀j,i<j->j<i+1+q->TB (exx D2 x m2 T2) x.zA.length i j)) (x.zA.length-(i+1)) (fun q s hq ⟨hs,hg⟩=>?_) (fun s ⟨hs,hg⟩=>?_) ⟨rfl,hG.to (by omega) ⟨fun c=>⟨c,fun k a b=>by omega⟩,fun c=>c.1⟩⟩
 ·left
  obtain⟨L1,s2⟩:=s;dsimp only at hs hg;subst hs;have hj:i+1+q<x.zA.length:=by omega
  have oj:=ob (i+1+q) hj;have e3:=zOp h hE hT hj;have e4:=zOp h gM gP hj;have gj:=zG3 h hE hT (i:=i+1+q) (v:=1) hj (by omega) (by omega);have rj:=zG3 h hE hT (i:=i+1+q) (v:=at0 x.zA (i+1+q)-1) hj (by omega) (by omega);have dy:rO (exx D2 x m2 T2) (i+1+q)=gk (exx D2 x m2 T2).zA.length (i+1+q) (at0 x.zA (i+1+q)-1):=by unfold rO;rw[e4]
  obtain⟨r,r1,r2,r3⟩:=zXq h hE hT gM gP hF hc hL (i1:=i+1+q) (i2:=i+1+q) (i3:=i) (v1:=at0 x.zA (i+1+q)-1) (v2:=1) (v3:=1) hj hj hi (by omega) (by omega) (by omega);obtain⟨t,t1,t2,t3⟩:=zXq h hE hT gM gP hF hc hL (i1:=i+1+q) (i2:=i) (i3:=i) (v1:=1) (v2:=1) (v3:=at0 x.zA i-1) hj hi hi (by omega) (by omega) (by omega);have te:=hg.len;have VP:=(hg.app (GR.one (Z:=fun r=>φ r=zeros D2) r2 r3)).app (GR.one (Z:=fun r=>φ r=zeros D2) t2 t3);obtain⟨L',l1,l2⟩:=yA0 h hE hT gM gP hF hc hL (i:=i) (j:=i+1+q) (by omega) hj VP (by omega);refine⟨(L',((i+1+q+1:Nat):Int)),?_,rfl,l2.to (by omega) ?_⟩
  ·unfold zVT
   dsimp only
   rw[show rng (((i+1+q:Nat):Int)+1)=Wu ((i+1+q+1:Nat):Int)from tM,xD hj,zK,zI0 h hE hT hL hj,bs,xM,bs,e3,zB,bs,zI0 h hE hT hL hj,bs,zEf h hE hT hL rj gj,bs,zEf h hE hT hL (yT ok rj gj) gi,bs,zEf h hE hT hL gj gi,bs,zEf h hE hT hL rj (yT ok gj gi),bs,r1,bs,yA (by simp;omega),bs,bs,dz,zEf h hE hT hL (yT ok gj gi) ri,bs,zEf h hE hT hL gi ri,bs,zEf h hE hT hL gj (yT ok gi ri),bs,t1,bs,yA (by simp;omega),bs,bs,l1,bs,bs]
  ·constructor
   ·rintro⟨⟨⟨⟨g1,g2⟩,g3⟩,g4⟩,g5⟩
    refine⟨g1,fun j a b=>?_⟩;rcases Jk j (i+1+q)with e|e
    ·exact g2 j a e
    ·obtain rfl:j=i+1+q:=by omega
     exact⟨by rw[dy];exact g3,by rw[cV];exact g4,g5⟩
   ·rintro⟨g1,g2⟩
    have g3:=g2 _ (show i<i+1+q by omega) (by omega);refine⟨⟨⟨⟨g1,fun j a b=>g2 j a (by omega)⟩,?_⟩,?_⟩,g3.d⟩
    ·have:=g3.b;rw[dy]at this;exact this
    ·have:=g3.c;rw[cV]at this;exact this
 ·obtain⟨L1,s2⟩:=s
  dsimp only at hs hg;subst hs;refine⟨L1,?_,hg.to (by omega) ⟨fun⟨a,b⟩=>⟨a,fun k c d=>b k c (by omega)⟩,fun⟨a,b⟩=>⟨a,fun k c d=>b k c (by omega)⟩⟩⟩;unfold zVT;dsimp only
  rw[Wy (by omega),zL]
theorem yA2(h7:x.zA.length<=7):∃G,f_r (exx D x m T) (x.zA.length:Int) m.Prime=Wu G/\GR m.Prime D (fun r=>φ r=zeros D2) G 10000 (I27 (exx D2 x m2 T2) x.zA.length):=by
 have ob:=fun(q:Nat)(hq:q<x.zA.length)=>(h.os.2 q hq).pos
 have ok:=uX h hE hT (k:=0) (by omega);have te:=xQ h hE hT
 suffices ∃G,zF (zVU (exx D x m T) (x.zA.length:Int) m.Prime) ([],0)=Wu G/\GR m.Prime D (fun r=>φ r=zeros D2) G 10000 (∀i,i<x.zA.length->Mf (exx D2 x m2 T2) (Mf (exx D2 x m2 T2) (gO (exx D2 x m2 T2) i) (rO (exx D2 x m2 T2) i)) (gO (exx D2 x m2 T2) i)=Mf (exx D2 x m2 T2) (gO (exx D2 x m2 T2) i) (Mf (exx D2 x m2 T2) (rO (exx D2 x m2 T2) i) (gO (exx D2 x m2 T2) i))/\ ∀j,i<j->j<x.zA.length->TB (exx D2 x m2 T2) x.zA.length i j)by obtain⟨G,g1,g2⟩:=this;refine⟨G,?_,g2.to (J9 _) ⟨fun g=>⟨fun i hi=>(g i hi).1,fun i j a b=>((g i (by omega)).2 j a b).b,fun i j a b=>((g i (by omega)).2 j a b).c,fun i j k a b c=>((g i (by omega)).2 j a (by omega)).d k b c⟩,fun g i hi=>⟨g.a i hi,fun j a b=>⟨g.b i j a b,g.c i j a b,fun k c d=>g.d i j k a c d⟩⟩⟩⟩;unfold f_r;rw[g1,bs]
 refine uE (fun i(s:Mx×Int)=>s.2=(i:Int)/\GR m.Prime D (fun r=>φ r=zeros D2) s.1 (400*i) (∀q,q<i->Mf (exx D2 x m2 T2) (Mf (exx D2 x m2 T2) (gO (exx D2 x m2 T2) q) (rO (exx D2 x m2 T2) q)) (gO (exx D2 x m2 T2) q)=Mf (exx D2 x m2 T2) (gO (exx D2 x m2 T2) q) (Mf (exx D2 x m2 T2) (rO (exx D2 x m2 T2) q) (gO (exx D2 x m2 T2) q))/\ ∀j,q<j->j<x.zA.length->TB (exx D2 x m2 T2) x.zA.length q j)) x.zA.length (fun i s hi ⟨hs,hg⟩=>?_) (fun s ⟨hs,hg⟩=>?_) ⟨rfl,(GR.nil (N:=0)).to (by omega) ⟨fun _ q hq=>by omega,fun _=>trivial⟩⟩
 ·left
  obtain⟨L1,s2⟩:=s;dsimp only at hs hg;subst hs;have oi:=ob i hi;have e1:=zOp h hE hT hi;have e2:=zOp h gM gP hi;have gi:=zG3 h hE hT (i:=i) (v:=1) hi (by omega) (by omega);have ri:=zG3 h hE hT (i:=i) (v:=at0 x.zA i-1) hi (by omega) (by omega);have dz:rO (exx D x m T) i=gk (exx D x m T).zA.length i (at0 x.zA i-1):=by unfold rO;rw[e1]
  have cV:rO (exx D2 x m2 T2) i=gk (exx D2 x m2 T2).zA.length i (at0 x.zA i-1):=by unfold rO;rw[e2]
  obtain⟨r,r1,r2,r3⟩:=zXq h hE hT gM gP hF hc hL (i1:=i) (i2:=i) (i3:=i) (v1:=1) (v2:=at0 x.zA i-1) (v3:=1) hi hi hi (by omega) (by omega) (by omega);have hll2:=hg.len;have VP:=hg.app (GR.one (Z:=fun r=>φ r=zeros D2) r2 r3);have We:400*i<=400*6:=by omega
  have cH:400*(i+1)=400*i+400:=by omega
  have hg3:=VP.to (M:=400*i+1) (by omega) Iff.rfl;obtain⟨L',l1,l2⟩:=yA1 h hE hT gM gP hF hc hL hi hg3 (by omega);rw[dz]at l1;refine⟨(L',((i+1:Nat):Int)),?_,rfl,l2.to (by omega) ?_⟩
  ·unfold zVU
   dsimp only
   rw[show rng ((i:Int)+1)=Wu ((i+1:Nat):Int)from tM,xD hi,zK,zI0 h hE hT hL hi,bs,xM,bs,e1,zB,bs,zI0 h hE hT hL hi,bs,zEf h hE hT hL gi ri,bs,zEf h hE hT hL (yT ok gi ri) gi,bs,zEf h hE hT hL ri gi,bs,zEf h hE hT hL gi (yT ok ri gi),bs,r1,bs,yA (by simp;omega),bs,bs,l1,bs,bs]
  ·rw[<-cV]at r3
   constructor
   ·rintro⟨⟨g1,g3⟩,g4⟩ q hq
    rcases Jk q i with e|e
    ·exact g1 q e
    ·obtain rfl:q=i:=by omega
     exact⟨by rw[cV];exact g3,g4⟩
   ·intro g
    have g3:=g i (by omega);exact⟨⟨fun q hq=>g q (by omega),by have:=g3.1;rw[cV]at this;exact this⟩,g3.2⟩
 ·obtain⟨L1,s2⟩:=s
  dsimp only at hs hg;subst hs;refine⟨L1,?_,hg.to (by omega) Iff.rfl⟩;unfold zVU;dsimp only
  rw[wX,zL]
theorem zMB(h7:x.zA.length<=7)(hr:zII x m2 D2):∃G,f_r (exx D x m T) (x.zA.length:Int) m.Prime=Wu G/\G.length<=10000/\(∀r∈G,Row m.Prime D r)/\((∀r∈G,φ r=zeros D2)↔xS (suf (exx D2 x m2 T2) 0)):=by obtain⟨G,g1,g2⟩:=yA2 h hE hT gM gP hF hc hL h7;exact⟨G,g1,g2.len,g2.row,g2.iff.trans (zXn h gM gP hr)⟩
end
section
variable {p:Int} (hp:Prime p) {N:Nat} (hN:N<=40)
 include hp hN
variable {R:Mx}{pv:Nat->Nat} (hR:Red p N R pv)
 include hR
theorem zAz{v:List Int}(hv:Row p N v):Row p (tI N R.length pv).length (pim p N R pv v):=by refine⟨yI _ _,fun b hb=>?_⟩;unfold pim;rw[zY hb];exact(zAF hp (by omega) hR hv R.length).2 _ (zFJ hb)
end
def dtp(D:Nat)(y v:List Int):Int:=S D fun k=>at0 y k*at0 v k
theorem zMC{v:List Int}:dtp D y v=dtp D v y:=xL fun _ _=>Lu _ _
theorem zBI{p:Int}{L:Mx}{v:List Int}(h:∀i,i<L.length->dtp D y (L.getD i [])%p=0)(hv:Sp p D L v):dtp D y v%p=0:=by
 obtain⟨c,hc⟩:=hv;have e:dtp D y v%p=(S D fun k=>S L.length fun i=>at0 y k*(c i*ent L i k))%p:=zAe fun k hk=>by rw[zBo,Jv,<-hc k hk,<-Jv]
 rw[e,zHI];refine(zAe (g:=fun _=>0) fun i hi=>?_).trans (by rw[uU];simp);rw[xL (g:=fun k=>c i*(at0 y k*ent L i k)) fun k _=>by rw[Int.mul_left_comm],zBo,Jv];have:=h i hi;unfold dtp at this;simp only[ent];rw[this];simp
section
variable {p:Int} (hp:Prime p) {D:Nat} (hD:D<=100000)
 include hp hD
theorem zMD(hu:Row p D u):u=mkv D fun i=>(S D fun k=>at0 u k*at0 (xE D k) i)%p:=by
 have _:=hD;have _:=hp
 conv=>lhs;rw[vT hu.1]
 refine yH fun i hi=>?_
 rw[zAq (k:=i) hi fun k _ hk=>by rw[xE,zY hi,if_neg (Ne.symm hk),L6],xE,zY hi,if_pos rfl,Kz,vN (hu.2 i hi)]
theorem zKZ{R:Mx}(hR:Red p D R pv){v:List Int}(hv:Row p D v)(h:∀y,Row p D y->(∀i,i<R.length->dtp D y (R.getD i [])%p=0)->dtp D y v%p=0):Sp p D R v:=by
 have h2:=hp.pos;refine(zK4 hp hD hR hv).1 fun j hj=>?_
 have hU:∀k,k<D->Row p D (xE D k):=fun k _=>tQ h2.1
 have key:∀u,Row p D u->at0 (cl p D R pv u R.length) j=dtp D (mkv D fun k=>at0 (cl p D R pv (xE D k) R.length) j) u%p:=fun u hu=>by
  conv=>lhs;rw[zMD hp hD hu]
  rw[zOm hp hD hR hU,zY hj];unfold dtp
  congr 1
  exact xL fun k hk=>by rw[zY hk,Lu]
 rw[key v hv];refine h _ ⟨yI _ _,fun k hk=>?_⟩ fun i hi=>?_
 ·rw[zY hk]
  exact(zAF hp hD hR (hU k hk) R.length).2 j hj
 ·rw[<-key _ (hR.row i hi)]
  exact(zK4 hp hD hR (hR.row i hi)).2 (qC hi) j hj
theorem zUB{G R1 R2:Mx}{pv1 pv2:Nat->Nat}(h1:Red p D R1 pv1)(e1:qN p D R1 A)(h2:Red p D R2 pv2)(e2:qN p D R2 G)(h:∀y,Row p D y->((∀i,i<A.length->dtp D y (A.getD i [])%p=0)↔ ∀i,i<G.length->dtp D y (G.getD i [])%p=0)):R1=R2:=by
 have h7:=hp.pos;refine h1.unique (by omega) h2 ⟨fun i hi=>?_,fun i hi=>?_⟩
 ·refine zKZ hp hD h2 (h1.row i hi) fun y hy z=>?_
  have a:=(h y hy).2 fun k hk=>zBI z (e2.2 k hk)
  exact zBI a (e1.1 i hi)
 ·refine zKZ hp hD h1 (h2.row i hi) fun y hy z=>?_
  have a:=(h y hy).1 fun k hk=>zBI z (e1.2 k hk)
  exact zBI a (e2.1 i hi)
theorem zRm{K:Mx}{pk:Nat->Nat}(hK:Red p D K pk)(hA:∀a,Sp p D A a↔ ∀j,j<K.length->dtp D a (K.getD j [])%p=0){z:List Int}(hz:Row p D z):(∀i,i<A.length->dtp D z (A.getD i [])%p=0)↔Sp p D K z:=by
 constructor
 ·intro h
  refine zKZ hp hD hK hz fun y _ hy=>?_
  rw[zMC];exact zBI h ((hA y).2 hy)
 ·intro h i hi
  rw[zMC];exact zBI ((hA _).1 (qC hi)) h
theorem zFk{R:Mx}(hR:Red p D R pv){v:List Int}(hv:Row p D v)(h:Sp p D R v):pim p D R pv v=zeros (tI D R.length pv).length:=by have h2:=hp.pos;refine(yH (g:=fun _=>0) fun b hb=>?_).trans (sK _).symm;exact(zK4 hp hD hR hv).2 h _ (zFJ hb)
theorem zLa{R:Mx}(hR:Red p D R pv){v:List Int}(hu:Row p D u)(hv:Row p D v):pim p D R pv (adv p D u v)=adv p (tI D R.length pv).length (pim p D R pv u) (pim p D R pv v):=by
 have e:adv p D u v=mkv D fun j=>(S 2 fun k=>(fun _=>(1:Int)) k*at0 ((fun k=>if k=0 then u else v) k) j)%p:=by
  refine yH fun j _=>?_
  simp[S]
 refine yH fun b hb=>?_
 have hl:=zFJ hb;rw[e,zOm hp hD hR (c:=fun _=>1) (V:=fun k=>if k=0 then u else v) (K:=2) (fun k _=>by by_cases g:k=0<;>simp[g,hu,hv]),zY hl];unfold pim;rw[zY hb,zY hb];simp[S]
end
theorem zFS{p:Int}(hp:Prime p){c:Nat}(fS:c+N<=100000)(hr:∀i,i<N->Row p c (A.getD i []))(hl:A.length=N):∃K pk,f_N p A (c:Int)=Wu K/\Red p N K pk/\ ∀x,Sp p N K x↔ ∀j,j<c->(S N fun k=>at0 x k*ent A k j)%p=0:=by obtain⟨W,pv,t,h1,h2,h3⟩:=Nul.get hp fS hr hl;refine⟨nul c t W,_,?_,h1.nred hp fS,fun x=>h1.nsp hp fS⟩;unfold f_N;rw[zEG fS hr hl,bs,h3,bs,zMm hp fS h1,bs,(zMl hp (by omega) (h1.nred hp fS)).2,bs]
section
variable {x:SPr}{m:zS}{D:Nat} (hx:zGm x) (hD:MOk x.zA.length m D)
 include hx hD
theorem zOq(hc:xS (suf x 0))(hr:zII x m D):∃K pk,f_e x m=Wu K/\Red m.Prime (base x.zA.length x.zA.length*D) K pk/\(0<x.zA.length-> ∀y,Row m.Prime (base x.zA.length x.zA.length*D) y->(Sp m.Prime (base x.zA.length x.zA.length*D) K y↔xS (suf (exx D x m (Tc (base x.zA.length x.zA.length) D y)) 0))):=by
 have h6:=hx.n6;have h3:=hD.d3;have h1:=hD.d1;have hp:=hD.p.pos;have eY:=vF x.zA.length (by omega);have hbD:base x.zA.length x.zA.length*D<=28*3:=Gt eY.2.1 h3;obtain⟨prs,hq⟩:=yAr hx hD;have hl:=hq.len;have gF:=zKN (x:=x) h6;have hqD:prs.length*D<=500*3:=Gt (by omega) h3;have fM:=zN (body:=zRN x m ((base x.zA.length x.zA.length:Nat):Int) ((cps x).map CPd)) (r:=gl (base x.zA.length x.zA.length*D) (fun q=>zAj m.Prime D m prs q)) (fun k=>(gl (base x.zA.length x.zA.length*D) (fun q=>zAj m.Prime D m (prs.take k) q),(k:Int))) (cps x).length (fun k hk=>zWY hx.toPres h6 hD hq hk rfl) (by
  unfold zRN
  grind)
 have e0:gl (base x.zA.length x.zA.length*D) (fun q=>zAj m.Prime D m (prs.take 0) q)=J0 (base x.zA.length x.zA.length*D) ([]:List Int):=by simp only[L9,zAj,Jai,Jbr];rw[List.eq_replicate_iff];simp
 rw[e0]at fM;have mw:f_e x m=cond (decide (((gl (base x.zA.length x.zA.length*D) (fun q=>zAj m.Prime D m prs q)).length:Int)> 0)) (
   (ixO (gl (base x.zA.length x.zA.length*D) (fun q=>zAj m.Prime D m prs q)) 0).bind fun v32=>(f_N m.Prime (gl (base x.zA.length x.zA.length*D) (fun q=>zAj m.Prime D m prs q)) (v32.length:Int)).bind fun r33=>Wu r33) (
   (f_N m.Prime (gl (base x.zA.length x.zA.length*D) (fun q=>zAj m.Prime D m prs q)) 0).bind fun r34=>Wu r34):=by
  unfold f_e;rw[zAI rfl h6,bs,hD.d,<-Int.natCast_mul,zB,bs,yZ,bs,zEd hx.toPres h6,bs]
  grind
 rcases Gu x.zA.length with h0|h0
 ·have hz:base x.zA.length x.zA.length*D=0:=by rw[h0];simp[base]
  obtain⟨K,pk,k2,k3,_⟩:=zFS hD.p (c:=0) (N:=0) (A:=[]) (by omega) (fun i hi=>by omega) rfl;refine⟨K,pk,?_,by rw[hz];exact k3,fun g=>by omega⟩;rw[mw,yG,hz,Wy (by omega),zL,show(gl 0 fun q=>zAj m.Prime D m prs q)=[]from rfl,show(0:Int)=((0:Nat):Int)from rfl,k2,bs]
 ·obtain⟨K,pk,j2,j3,j4⟩:=zFS hD.p (c:=prs.length*D) (N:=base x.zA.length x.zA.length*D) (A:=gl (base x.zA.length x.zA.length*D) fun k=>zAj m.Prime D m prs k) (by omega) (fun k hk=>by
   rw[yY hk];refine⟨zIf prs,fun j hj=>?_⟩;have hi:j/D<prs.length:=(Nat.div_lt_iff_lt_mul h1).2 hj;have hm:j%D<D:=Nat.mod_lt _ h1;have e:=zIe (F:=fun q:Trc×Trc=>prR m.Prime D m q.1 q.2 k) (fun _=>yI _ _) prs (j/D) (j%D) hi hm;rw[show j/D*D+j%D=j from by rw[Nat.mul_comm];exact Nat.div_add_mod j D]at e;rw[zAj,e,prR,zY hm];exact⟨Kl _ (by omega),by have:=K9 (zBr m.Prime D m (prs[j/D]).1 (k/D) (k%D) (j%D)-zBr m.Prime D m (prs[j/D]).2 (k/D) (k%D) (j%D)) (show 0<m.Prime by omega);omega⟩) yG
  refine⟨K,pk,?_,j3,fun _ y hy=>(j4 y).trans (zUg hx hD hq hc hr hy)⟩;have pL:0<base x.zA.length x.zA.length*D:=Nat.mul_pos (by omega) h1;rw[mw,yG,Wz,zK,show(0:Int)=((0:Nat):Int)from rfl,vM pL,bs,zIf,j2,bs]
end
def dt1(p:Int)(D:Nat)(y u:List Int):List Int:=mkv 1 fun _=>dtp D y u%p
theorem zI1{p:Int}:dt1 p D y u=zeros 1↔dtp D y u%p=0:=by simp[dt1,mkv,zeros]
theorem zQe{p:Int}{D2:Nat}{T T2:Mx}{φ:Vec->Vec}(hr:∀u,Row p D u->Row p D2 (φ u))(hz:φ (zeros D)=zeros D2)(ha:∀u v,Row p D u->Row p D v->φ (adv p D u v)=adv p D2 (φ u) (φ v))(ht:∀r,r<base n n->φ (T.getD r [])=T2.getD r []):Fh n D D2 (uJ p D n) (uJ p D2 n) T T2 φ:=
 ⟨rfl,hr,hz,ha,fun k hk u hu=>by rw[tS hk,tS hk,sL hu];exact(sL (hr u hu)).symm,ht⟩
theorem zXr{p:Int}{v:List Int}:dtp D y (adv p D u v)%p=(dtp D y u+dtp D y v)%p:=by
 unfold dtp;rw[<-zCp];refine zAe fun k hk=>?_
 rw[adv,zY hk,<-Int.mul_add,Jv,Jau _ (Int.dvd_refl p),<-Jv]
theorem zUC:dtp D y (zeros D)=0:=by unfold dtp;rw[xL (g:=fun _=>0) fun k _=>by rw[uN,L6],uU]
theorem zUD{r:Nat}(hr:r<D:=by omega):dtp D y (xE D r)=at0 y r:=by unfold dtp;rw[zAq (k:=r) hr fun k hk e=>by rw[xE,zY hk,if_neg e,L6],xE,zY hr,if_pos rfl,Kz]
theorem yDa{p:Int}(hp:Prime p)(hy:Row p D y)(hb:base n n<=D):Fh n D 1 (uJ p D n) (uJ p 1 n) (gl (base n n) (xE D)) (Tc (base n n) 1 (y.take (base n n))) (dt1 p D y):=by
 have h2:=hp.pos;refine zQe (fun u _=>⟨yI _ _,fun j hj=>?_⟩) ?_ (fun u v _ _=>?_) fun r hr=>?_
 ·rw[dt1,zY hj]
  have:=Kl (dtp D y u) (b:=p) (by omega);have:=K9 (dtp D y u) (b:=p) (by omega);omega
 ·exact zI1.2 (by rw[zUC];simp)
 ·refine yH fun j hj=>?_
  rw[dt1,dt1,zY hj,zY hj,zXr,Kb]
 ·rw[yY hr,Tc,yY hr]
  refine yH fun j hj=>?_
  rw[zUD,vN (hy.2 r (by omega)),show r*1+j=r by omega,zBA hr]
section
variable {x:SPr} (h:zGm x) (hc:xS (suf x 0)) {p:Int} (hp:Prime p) {N:Nat} (hN:N<=4)
 include h hc hp hN
theorem zRn:∃K pk G,f_e x (uJ p 1 x.zA.length)=Wu K/\Red p (base x.zA.length x.zA.length) K pk/\f_r (cvG x p N) (x.zA.length:Int) p=Wu G/\G.length<=10000/\(∀r∈G,Row p (dmX x N) r)/\ ∀y,Row p (dmX x N) y->((∀r∈G,dtp (dmX x N) y r%p=0)↔Sp p (base x.zA.length x.zA.length) K (y.take (base x.zA.length x.zA.length))):=by
 have h7:=h.n6;have h2:=hp.pos;have hd:=zFg h.toPres h7 hp hN;have ut:base x.zA.length x.zA.length<=dmX x N:=Qw _ _;have hm:MOk x.zA.length (uJ p 1 x.zA.length) 1:=zWZ hp;have hr:=zM0 h.toPres (q:=p) (D:=1) hp;obtain⟨K,pk,k2,k3,k4⟩:=zOq h hm hc hr;have k3:Red p (base x.zA.length x.zA.length*1) K pk:=k3;rw[Gd]at k3;have hE:=zKV h.toPres h7 hp hN (zU4 h.toPres h7 hp hN) (T:=gl (base x.zA.length x.zA.length) (xE (dmX x N))) yG;have hT:=fun i hi=>zOn h.toPres h7 hp hN (i:=i) hi
 have hLL:=xQ h.toPres hE hT;have gM:∀y:List Int,ExB x.zA.length 1 x (uJ p 1 x.zA.length) (Tc (base x.zA.length x.zA.length) 1 (y.take (base x.zA.length x.zA.length))):=fun y=>zKV h.toPres h7 hp hN hm.b yG
 have gP:∀y,Row p (dmX x N) y-> ∀i,i<(Tc (base x.zA.length x.zA.length) 1 (y.take (base x.zA.length x.zA.length))).length->Row (uJ p 1 x.zA.length).Prime 1 ((Tc (base x.zA.length x.zA.length) 1 (y.take (base x.zA.length x.zA.length))).getD i []):=fun y hy i hi=>by rw[Tc,yG]at hi;rw[Tc,yY hi];refine⟨yI _ _,fun j hj=>?_⟩;rw[blk,zY hj,zBA];exact hy.2 _ (by omega)
 have key:=fun y(hy:Row p (dmX x N) y)=>zMB h.toPres hE hT (gM y) (gP y hy) (yDa hp hy ut) hc (by omega) h7 hr
 obtain⟨G,g1,g2,g3,_⟩:=key (zeros (dmX x N)) (xI);refine⟨K,pk,G,k2,k3,g1,g2,g3,fun y hy=>?_⟩;obtain⟨G',j1,_,_,j4⟩:=key y hy;have e:G'=G:=Lr.inj (j1.symm.trans g1);subst e;rw[show(∀r∈G',dtp (dmX x N) y r%p=0)↔ ∀r∈G',dt1 p (dmX x N) y r=zeros 1 from⟨fun g r hr=>zI1.2 (g r hr),fun g r hr=>zI1.1 (g r hr)⟩,j4];have iJ:Row p (base x.zA.length x.zA.length) (y.take (base x.zA.length x.zA.length)):=⟨by rw[Kv,hy.1];omega,fun i hi=>by rw[zBA hi];exact hy.2 i (by omega)⟩;rcases Gu x.zA.length with h0|h0
 ·refine⟨fun _=>kT fun j hj=>?_,fun _=>?_⟩
  ·rw[h0]at hj;exact absurd hj (by simp[base])
  ·obtain⟨o,pw,cj⟩:=x
   have e1:o=[]:=Jj h0;subst e1;have e2:pw=[]:=Jj h.toPres.pl;have e3:cj=[]:=Jj h.toPres.cl;subst e2 e3;exact zXh hp (by omega)
 ·have:=k4 h0 (y.take (base x.zA.length x.zA.length)) (by rw[Gd];exact iJ)
  have e:(uJ p 1 x.zA.length).Prime=p:=rfl;rw[e,Gd]at this;exact this.symm
end
def trN(b c:Nat)(K:Mx):Mx:=gl b fun j=>mkv c fun i=>ent K i j
theorem zME{p:Int}{b:Nat}(hb:b<=1000){K:Mx}(hc:K.length<=1000)(hr:∀i,i<K.length->Row p b (K.getD i [])):f_T (zM.mk p (b:Int) K)=Wu (zM.mk p (K.length:Int) (trN b K.length K)):=by
 unfold f_T;rw[tF (body:=zV3 (zM.mk p (b:Int) K)) b (fun j=>mkv K.length fun i=>ent K i j) (fun j acc hj ha=>by
  unfold zV3;simp only
  have k:=tF (body:=zV2 (zM.mk p (b:Int) K) (acc,(j:Int))) K.length (fun i=>ent K i j) (fun i acc2 hi We=>by
   have hl:=(hr i hi).1;unfold zV2;simp only
   rw[xD hi,zK,yS [] hi,bs,xM,bs,yA (by simp;omega),bs,zB,bs,cs]) (fun acc2=>by
   unfold zV2;simp only
   rw[wX,zL])
  rw[xD hj,zK,k,bs,yA (by simp;omega),bs,zB,bs,cs];rfl) (fun acc=>by
  unfold zV3;simp only
  rw[wX,zL]),bs]
 rfl
theorem zQf{b:Nat}{a:List Int}(ha:a.length=b):dtp (b+N) y (a++J0 N 0)=dtp b (y.take b) a:=by
 unfold dtp;rw[zEC,xL (n:=N) (g:=fun _=>0) (fun i hi=>by
  rw[show at0 (a++J0 N (0:Int)) (b+i)=0 from by rw[at0,J2,Ja (by omega),K3];split<;>rfl]
  exact L6 _),uU,Kf]
 refine xL fun k hk=>?_
 rw[zBA hk]
 congr 1
 rw[at0,at0,J2,J2,K1 (by omega)]
section
variable {p:Int} (hp:Prime p) {b:Nat} (hb:b<=1000) {K:Mx}{pk:Nat->Nat} (hK:Red p b K pk)
 include hp hb hK
theorem zUE:∃A pa,zXW (zM.mk p (b:Int) K)=Wu (zM.mk p (b:Int) A)/\Red p b A pa/\ ∀a,Sp p b A a↔ ∀j,j<K.length->dtp b a (K.getD j [])%p=0:=by
 have hl:=hK.len_le;have h2:=hp.pos;obtain⟨A,pa,a2,a3,a4⟩:=zFS hp (c:=K.length) (N:=b) (A:=trN b K.length K) (by omega) (fun i hi=>by rw[trN,yY hi];refine⟨yI _ _,fun j hj=>?_⟩;rw[zY hj];exact(hK.row j hj).2 i hi) yG
 refine⟨A,pa,?_,a3,fun a=>(a4 a).trans ⟨fun g j hj=>?_,fun g j hj=>?_⟩⟩
 ·unfold zXW
  rw[zME hb (by omega) hK.row,bs,a2,bs]
 ·rw[<-g j hj]
  congr 1
  exact xL fun k hk=>by rw[ent,trN,yY hk,zY hj]
 ·rw[<-g j hj]
  congr 1
  exact xL fun k hk=>by rw[ent,trN,yY hk,zY hj]
end
theorem zUF{x3:Mx}{b:Nat}(hN:x3.length=N)(hN4:N<=1000)(hb:b<=1000)(hA:A.length<=1000)(hr:∀i,i<A.length->(A.getD i []).length=b):zF (zRW x3 A) ([],0)=Wu (gl A.length fun i=>A.getD i []++J0 N 0):=by
 subst hN;exact tF A.length (fun i=>A.getD i []++J0 x3.length 0) (fun i acc hi ha=>by
  have hl:=hr i hi;unfold zRW;simp only
  rw[xD hi,zK,yS [] hi,bs,show(0:Int)=((0:Nat):Int)from rfl,zGo (by omega) (by omega) hN4,bs,yA (by simp;omega),bs,zB,bs,cs];rfl) (fun acc=>by
  unfold zRW;simp only
  rw[wX,zL])
section
variable {x:SPr} (h:zGm x) (hc:xS (suf x 0)) {p:Int} (hp:Prime p) {N:Nat} (hN:N<=4)
 include h hc hp hN
theorem zRo:∃A R pv G,zXX x p=Wu A/\(∀x3:Mx,x3.length=N->zF (zRW x3 A) ([],0)=Wu (gl A.length fun i=>A.getD i []++J0 N 0))/\f_g p (gl A.length fun i=>A.getD i []++J0 N 0)=Wu R/\f_r (cvG x p N) (x.zA.length:Int) p=Wu G/\f_p p G=Wu R/\Red p (dmX x N) R pv/\ ∀r∈G,Row p (dmX x N) r/\Sp p (dmX x N) R r:=by
 have h7:=h.n6;have h2:=hp.pos;have hd:=zFg h.toPres h7 hp hN;have hb:=vF x.zA.length (by omega);obtain⟨K,pk,G,k1,k2,g1,g2,g3,g4⟩:=zRn h hc hp hN;obtain⟨A,pa,a1,a2,a3⟩:=zUE hp (by omega) k2;have hl:=a2.len_le;have aD:=fun i hi=>(a2.row i hi).1
 have hAr:∀i,i<(gl A.length fun i=>A.getD i []++J0 N (0:Int)).length->Row p (dmX x N) ((gl A.length fun i=>A.getD i []++J0 N (0:Int)).getD i []):=fun i hi=>by
  rw[yG]at hi;rw[yY hi];refine⟨by rw[J5,aD i hi,Jc],fun j hj=>?_⟩;rcases Jk j (base x.zA.length x.zA.length)with e|e
  ·rw[at0,J2,K1 (by rw[aD i hi];exact e),<-J2]
   exact(a2.row i hi).2 j e
  ·rw[at0,J2,Ja (by rw[aD i hi];exact e),K3]
   split<;>simp<;>omega
 obtain⟨R,pv,_,r2,r3,r4⟩:=qR hp (n:=dmX x N) (by omega) (rows:=gl A.length fun i=>A.getD i []++J0 N (0:Int)) (by rw[yG];omega) hAr;have hGr:∀i,i<G.length->Row p (dmX x N) (G.getD i []):=fun i hi=>by rw[J2,J3 hi];exact g3 _ (Jp hi)
 obtain⟨R',pv',s1,_,s3,s4⟩:=qR hp (n:=dmX x N) (by omega) (rows:=G) (by omega) hGr;have e:R=R':=zUB hp (by omega) r3 r4 s3 s4 fun y hy=>by
  have iJ:Row p (base x.zA.length x.zA.length) (y.take (base x.zA.length x.zA.length)):=⟨by rw[Kv,hy.1];exact Up (Qw _ _),fun i hi=>by rw[zBA hi];exact hy.2 i (Jc1 hi (Qw _ _))⟩;have e1:=zRm hp (by omega) k2 a3 iJ;have e2:=g4 y hy;have e3:(∀i,i<G.length->dtp (dmX x N) y (G.getD i [])%p=0)↔ ∀r∈G,dtp (dmX x N) y r%p=0:=by
   refine⟨fun g r hr=>?_,fun g i hi=>?_⟩
   ·obtain⟨i,hi,rfl⟩:=Uk hr
    have:=g i hi;rw[J2,J3 hi]at this;exact this
   ·rw[J2,J3 hi]
    exact g _ (Jp hi)
  rw[e3,e2,<-e1];refine⟨fun g i hi=>?_,fun g i hi=>?_⟩
  ·have:=g i (by rw[yG];exact hi)
   rw[yY hi,zQf (aD i hi)]at this;exact this
  ·rw[yG]at hi
   rw[yY hi,zQf (aD i hi)];exact g i hi
 subst e;refine⟨A,R,pv,G,?_,fun x3 h3=>zUF h3 (by omega) (b:=base x.zA.length x.zA.length) (by omega) (by omega) aD,r2,g1,s1,r3,fun r hr=>⟨g3 r hr,?_⟩⟩
 ·unfold zXX
  rw[show(1:Int)=((1:Nat):Int)from rfl,zNY hp h7,bs,k1,bs,zAI rfl h7,bs,a1,bs]
 ·obtain⟨i,hi,rfl⟩:=Uk hr
  have:=s4.2 i hi;rw[J2,J3 hi]at this;exact this
end
abbrev gX(x:SPr)(p:Int)(W:Nat)(t:Nat->Vec):SPr:=exx W x (uJ p W x.zA.length) (gl (base x.zA.length x.zA.length) t)
theorem zRp{α:Type}{a v:List α}:zT (a++v) (a.length:Int) ((a++v).length:Int)=Wu v:=by rw[zBG (by rw[J5];omega),List.drop_left]
section
variable {p:Int} (hp:Prime p) {W:Nat} (hW:W<=32) {R:Mx}{pv:Nat->Nat} (hR:Red p W R pv)
 include hp hW hR
theorem zLb{a v:List Int}(ha:a.length<=100)(hv:Row p W v):zOG p (a++v) (a.length:Int) R (jU W R.length pv)=Wu (a++pim p W R pv v):=by
 have h2:=hp.pos;have hRl:=hR.len_le;have hc:=zAF hp (by omega) hR hv R.length;unfold zOG;rw[zRp,bs,zHM hp (by omega) hR hv (by omega),bs,show(0:Int)=((0:Nat):Int)from rfl,zFd (K4 _) (by rw[J5];omega),bs];rw[Hr,Li,List.take_left,sJ,bs];have key:zF (zJP (jU W R.length pv) (cl p W R pv v R.length)) (a,0)=Wu (a++pim p W R pv v):=by
  have:=zN (body:=zJP (jU W R.length pv) (cl p W R pv v R.length)) (r:=a++pim p W R pv v) (fun b=>(a++mkv b fun b=>at0 (cl p W R pv v R.length) ((tI W R.length pv).getD b 0),(b:Int))) (tI W R.length pv).length (fun b hb=>by
   have hl:=kV (D:=W) (N:=R.length) (pv:=pv);unfold zJP;simp only
   rw[show(jU W R.length pv).length=(tI W R.length pv).length from Jm ..,xD hb,zK,zPA hb,bs,xM (by rw[hc.1];exact zFJ hb),bs,yA (by simp only[J5,yI,Jf];omega),bs,zB,bs,Jg];have:∀f:Nat->Int,mkv b f++[f b]=mkv (b+1) f:=fun f=>by simp[mkv,Ub]
   rw[this fun b=>at0 (cl p W R pv v R.length) ((tI W R.length pv).getD b 0)];rfl) (by
   unfold zJP;simp only
   rw[show(jU W R.length pv).length=(tI W R.length pv).length from Jm ..,wX,zL];rfl)
  rw[show(mkv 0 fun b=>at0 (cl p W R pv v R.length) ((tI W R.length pv).getD b 0))=[]from rfl,Jh]at this;exact this
 rw[show((0:Nat):Int)=0 from rfl,key,bs]
end
section
variable {x:SPr} (h:Pres x) (h7:x.zA.length<=7) {p:Int} (hp:Prime p)
 include h h7 hp
theorem yA3(hW:W<=32){t:Nat->Vec}:ExB x.zA.length W x (uJ p W x.zA.length) (gl (base x.zA.length x.zA.length) t):=
 zKV h h7 hp (show 0<=4 by omega) ⟨hp,by omega,yG,fun i hi=>by rw[tS hi];exact tX hp.pos.1⟩ yG
theorem zXs{t:Nat->Vec}(ht:∀k,k<base x.zA.length x.zA.length->Row p W (t k))(hi:i<(gl (base x.zA.length x.zA.length) t).length):Row (uJ p W x.zA.length).Prime W ((gl (base x.zA.length x.zA.length) t).getD i []):=by have _:=h;have _:=h7;have _:=hp;rw[yG]at hi;rw[yY hi];exact ht i hi
theorem yDb(hW:W<=32){t:Nat->Vec}(ht:∀k,k<base x.zA.length x.zA.length->Row p W (t k)):zWJ x.zA.length W x (uJ p W x.zA.length) (gl (base x.zA.length x.zA.length) t):=by
 refine⟨h7,rfl,h.pl,h.cl,fun i hi=>zFh h h7 hp (show 0<=4 by omega) hi,zFH fun i hi=>?_,fun i=>?_,yG,zFH fun i hi=>?_,zM1 hp⟩
 ·have:=(h.tl i (by rw[<-h.pl];exact hi)).1.1.1
  omega
 ·rcases Jk i x.zA.length with g|g
  ·intro j
   exact zFH (fun j hj=>by have:=((h.tl i g).2.2 j hj).1.1;omega) j
  ·intro j
   rw[J2 (l:=x.zG),Kj (by rw[h.cl];exact g)];simp
 ·have:=(zXs h h7 hp ht hi).1
  omega
theorem zUG{t:Nat->Vec}{q:Nat}(hi:i<x.zA.length)(hq:x.zA.length-1-i<=q):gl (x.zA.length+W-1-i) (exG x.zA.length (x.zA.length+W) x (uJ p W x.zA.length) (gl (base x.zA.length x.zA.length) t) i q)=gl (x.zA.length+W-1-i) (exF x.zA.length x (uJ p W x.zA.length) (gl (base x.zA.length x.zA.length) t) i):=by
 have _:=h;have _:=h7;have _:=hp;refine xZ fun r hr=>?_
 unfold exG;split
 ·rfl
 ·rename_i g
  unfold exF;rw[if_neg (by omega),tS hi,zBc];show _=J0 x.zA.length 0++xE W (r-(x.zA.length-1-i));rw[zIy]
  congr 1;omega
variable {W:Nat} (hW:W<=32) {t:Nat->Vec} (ht:∀k,k<base x.zA.length x.zA.length->Row p W (t k)) {R:Mx}{pv:Nat->Nat} (hR:Red p W R pv)
 include hW ht hR
theorem zQg:f_z (gX x p W t) (x.zA.length:Int) p R=Wu (gX x p (tI W R.length pv).length fun k=>pim p W R pv (t k)):=by
 have h2:=hp.pos;have hb:=vF x.zA.length (by omega);have hl:=kV (D:=W) (N:=R.length) (pv:=pv);have eg:(gX x p W t).zA.length=x.zA.length+W:=by simp[ext]
 unfold f_z;rw[eg,show rng (((x.zA.length+W:Nat):Int)-(x.zA.length:Int))=Wu (W:Int)from tM,bs,zEe hp (by omega) hR,bs,show(jU W R.length pv).length=(tI W R.length pv).length from Jm ..,<-Ja9,zB,bs]
 generalize hV:(tI W R.length pv).length=V at hl ⊢
 have hE:=yDb h h7 hp (W:=V) (by omega) (t:=fun k=>pim p W R pv (t k)) (fun k hk=>hV▸zAz hp (by omega) hR (ht k hk));rw[show(0:Int)=((0:Nat):Int)from rfl,zFd (K4 _) (by rw[eg];omega),bs];have ho:((gX x p W t).zA.drop 0).take (x.zA.length+V-0)=x.zA++J0 V p:=by
  show((x.zA++J0 W p).drop 0).take (x.zA.length+V-0)=_;rw[Hr,Li,Jb1,Jt (by omega),List.take_replicate]
  congr 2;omega
 have mc:(x.zA++J0 V p).length=x.zA.length+V:=by simp
 rw[ho,zIs,bs];have Wg:(trv (x.zA++J0 V p)).zQ=gl (x.zA.length+V) fun _=>J0 (x.zA.length+V) 0:=by unfold trv;simp only[mc]
 have gP:(trv (x.zA++J0 V p)).zG=gl (x.zA.length+V) (unC (x.zA.length+V)):=by unfold trv unC;simp only[mc]
 rw[Wg,gP]
 let T':Mx:=gl (base x.zA.length x.zA.length) fun k=>pim p W R pv (t k)
 let M':=uJ p V x.zA.length
 have hE:zWJ x.zA.length V x M' T':=hE;have k3:∀(i:Nat),i<x.zA.length-> ∀(P:Mx)(C:List Mx),zF (zOH (gX x p W t) (x.zA.length:Int) p R (jU W R.length pv) (P,C,(i:Int))) (gl (x.zA.length+V) (exE x.zA.length V x M' T' i 0),((i+1:Nat):Int))=Wu (gl (x.zA.length+V) (exE x.zA.length V x M' T' (i+1) 0)):=fun i hi P C=>by
  have iA:=zFG x.zA.length (by omega) i hi;have mN:=zBf x.zA.length (by omega) i hi;have gF:=zFh h h7 hp (show 0<=4 by omega) hi;have tw:gl (x.zA.length+V) (exE x.zA.length V x M' T' i (x.zA.length-1-i))=gl (x.zA.length+V) (exE x.zA.length V x M' T' (i+1) 0):=by
   rw[<-zHP hE hi];refine xZ fun k _=>?_
   unfold exE
   by_cases e:k<i
   ·rw[if_pos e,if_pos e]
   ·rw[if_neg e,if_neg e]
    by_cases g:k=i
    ·rw[if_pos g,if_pos g,zUG h h7 hp hi (J9 _),zUG h h7 hp hi (by omega)]
    ·rw[if_neg g,if_neg g]
  rw[<-tw];have:=zN (body:=zOH (gX x p W t) (x.zA.length:Int) p R (jU W R.length pv) (P,C,(i:Int))) (r:=gl (x.zA.length+V) (exE x.zA.length V x M' T' i (x.zA.length-1-i))) (fun q=>(gl (x.zA.length+V) (exE x.zA.length V x M' T' i q),((i+1+q:Nat):Int))) (x.zA.length-1-i) (fun q hq=>by
   have te:((x.zG.getD i []).getD q []).length=x.zA.length:=((h.tl i hi).2.2 q (by omega)).1.1;have hF:(x.zG.getD i []).getD q []++pim p W R pv (t (base x.zA.length i+q))=exF x.zA.length x M' T' i q:=by unfold exF;rw[if_pos hq,yY]
   have hF0:exF x.zA.length x (uJ p W x.zA.length) (gl (base x.zA.length x.zA.length) t) i q=(x.zG.getD i []).getD q []++t (base x.zA.length i+q):=by unfold exF;rw[if_pos hq,yY]
   have hs:=zLb hp hW hR (a:=(x.zG.getD i []).getD q []) (by omega) (ht (base x.zA.length i+q) (by omega));rw[hF,te]at hs;unfold zOH;simp only
   rw[show rng (((i+1+q:Nat):Int)+1)=Wu ((i+1+(q+1):Nat):Int)from tM,show rng (((i+1+q:Nat):Int)-(i:Int))=Wu ((q+1:Nat):Int)from tM];rw[xD,zK,vM,bs,bs,show rng (((q+1:Nat):Int)-1)=Wu (q:Int)from tM,bs];rw[show ixO (gX x p W t).zG (i:Int)=Wu (exC x.zA.length W x (uJ p W x.zA.length) (gl (base x.zA.length x.zA.length) t) i)from vM,bs,bs,show rng (((q+1:Nat):Int)-1)=Wu (q:Int)from tM,bs,exC,if_pos hi,vM,bs,hF0,hs,bs,zHO hE,vM,bs,bs,J7,J7,zGH hE]) (by
   unfold zOH;simp only
   rw[Wy (by omega),zL])
  exact this
 let st:Nat->Mx:=fun i=>gl (x.zA.length+V) fun k=>if k<i then x.zQ.getD k []++pim p W R pv (t k)else J0 (x.zA.length+V) 0
 have s0:st 0=gl (x.zA.length+V) (fun _=>J0 (x.zA.length+V) 0):=xZ fun k _=>if_neg (by omega)
 have sN:st x.zA.length=gl (x.zA.length+V) (exP x.zA.length V x T'):=xZ fun k _=>by
  unfold exP;split
  ·rw[yY]
  ·rfl
 have e0:gl (x.zA.length+V) (exE x.zA.length V x M' T' 0 0)=gl (x.zA.length+V) (unC (x.zA.length+V)):=xZ fun k _=>by rw[zAH hE,if_neg (by omega)]
 have eN:gl (x.zA.length+V) (exE x.zA.length V x M' T' x.zA.length 0)=gl (x.zA.length+V) (exC x.zA.length V x M' T'):=xZ fun k _=>by
  rw[zAH hE];split
  ·rfl
  ·rename_i g
   unfold exC;rw[if_neg g]
 have key:=zN (body:=zSa (gX x p W t) (x.zA.length:Int) p R (jU W R.length pv)) (r:=(st x.zA.length,gl (x.zA.length+V) (exE x.zA.length V x M' T' x.zA.length 0))) (fun i=>(st i,gl (x.zA.length+V) (exE x.zA.length V x M' T' i 0),(i:Int))) x.zA.length (fun i hi=>by
  have te:=(h.tl i hi).1.1.1;have hs:=zLb hp hW hR (a:=x.zQ.getD i []) (by omega) (ht i (by omega));rw[te]at hs;have gp:(st i).set i (x.zQ.getD i []++pim p W R pv (t i))=st (i+1):=by
   show(gl _ _).set i _=gl _ _;rw[zAG];refine xZ fun k _=>?_
   by_cases e:k=i
   ·subst e;rw[if_pos rfl,if_pos (by omega)]
   ·rw[if_neg e]
    by_cases g:k<i
    ·rw[if_pos g,if_pos (by omega)]
    ·rw[if_neg g,if_neg (by omega)]
  unfold zSa;simp only
  rw[show rng ((i:Int)+1)=Wu ((i+1:Nat):Int)from zB,xD hi,zK];rw[show ixO (gX x p W t).zQ (i:Int)=Wu (exP x.zA.length W x (gl (base x.zA.length x.zA.length) t) i)from vM,bs,exP,if_pos hi,yY,hs,bs,show ixO (st i) (i:Int)=_ from vM,bs,bs,k3 i hi,bs,bs,J7,gp]) (by
  unfold zSa;simp only
  rw[wX,zL])
 rw[s0,e0,sN,eN]at key;rw[show(((0:Nat):Int))=0 from rfl]at key ⊢
 rw[key,bs];unfold trv;rfl
end
section
variable {x:SPr} (h:Pres x) (h7:x.zA.length<=7) {p:Int} (hp:Prime p)
 include h h7 hp
theorem zFT{t:Nat->Vec}:(gX x p W t).zA.length=x.zA.length+W:=by have _:=h;have _:=h7;have _:=hp;simp[ext]
theorem zFl(hW:W<=32){t:Nat->Vec}(ht:∀k,k<base x.zA.length x.zA.length->Row p W (t k)):Pres (gX x p W t):=
 (kW h (yA3 h h7 hp hW) (fun i hi=>zXs h h7 hp ht hi)).p (by rw[zFT h h7 hp];omega)
theorem yA4(hW:W<=32){t:Nat->Vec}(ht:∀k,k<base x.zA.length x.zA.length->Row p W (t k)){v:Vec}:V (suf (gX x p W t) 0) v↔ ∃y u,v=y++u/\V (suf x 0) y/\Row p W u:=
 sX h (yA3 h h7 hp hW) (fun i hi=>zXs h h7 hp ht hi) x.zA.length 0 (by omega) v
end
section
variable {x:SPr} (h:zGm x) (hc:xS (suf x 0)) {p:Int} (hp:Prime p) {N:Nat} (hN:N<=4)
 include h hc hp hN
theorem zQh{G:Mx}(hG:f_r (cvG x p N) (x.zA.length:Int) p=Wu G)(hW:W<=32){φ:Vec->Vec}(hr:∀u,Row p (dmX x N) u->Row p W (φ u))(hz:φ (zeros (dmX x N))=zeros W)(ha:∀u v,Row p (dmX x N) u->Row p (dmX x N) v->φ (adv p (dmX x N) u v)=adv p W (φ u) (φ v))(hv:∀r∈G,φ r=zeros W):
  xS (suf (gX x p W fun k=>φ (xE (dmX x N) k)) 0):=by
 have h7:=h.n6;have h2:=hp.pos;have hd:=zFg h.toPres h7 hp hN;have hu:∀k,k<base x.zA.length x.zA.length->Row p W (φ (xE (dmX x N) k)):=fun k _=>hr _ (tQ h2.1)
 have hE:=zKV h.toPres h7 hp hN (zU4 h.toPres h7 hp hN) (T:=gl (base x.zA.length x.zA.length) (xE (dmX x N))) yG;have hT:=fun i hi=>zOn h.toPres h7 hp hN (i:=i) hi
 have hLL:=xQ h.toPres hE hT;obtain⟨G',g1,_,_,g4⟩:=zMB h.toPres hE hT (yA3 h.toPres h7 hp hW) (fun i hi=>zXs h.toPres h7 hp hu hi) (zQe (φ:=φ) hr hz ha fun r hr=>by rw[yY hr,yY hr]) hc (by omega) h7 (zM0 h.toPres hp);have e:G'=G:=Lr.inj (g1.symm.trans hG);subst e;exact g4.1 hv
theorem zJF(hD:0<dmX x N)(hW:W<=32){v:Nat->Vec}(hv:∀k,k<dmX x N->Row p W (v k)){I:Mx}(hI:I.length=N)(mQ:∀i,i<N->(I.getD i []).length=x.zA.length):
  f_X x p I (gl (dmX x N) v)=Wu (gX x p W v,gl N fun i=>I.getD i []++v (base x.zA.length x.zA.length+i)):=by
 have h7:=h.n6;have h2:=hp.pos;have _:=hc;have hd:=zFg h.toPres h7 hp hN;have hb:=vF x.zA.length (by omega);have ut:dmX x N=base x.zA.length x.zA.length+N:=rfl;have hE:=yDb h.toPres h7 hp hW (t:=v) fun k hk=>hv k (by omega)
 unfold f_X;rw[zAI rfl h7,bs,show ixO (gl (dmX x N) v) 0=Wu (v 0)from vM (i:=0),bs,(hv 0 hD).1,zNZ h7,bs];rw[show(0:Int)=((0:Nat):Int)from rfl,zFd (K4 _) (by rw[yG];omega),bs];have e1:((gl (dmX x N) v).drop 0).take (base x.zA.length x.zA.length-0)=gl (base x.zA.length x.zA.length) v:=by rw[Hr,Li];simp only[gl];rw[<-Qa,List.take_range,Up (by omega)]
 rw[e1,zTE hE,bs];have key:=zN (body:=zVJ I (gl (dmX x N) v) ((base x.zA.length x.zA.length:Nat):Int)) (r:=gl N fun i=>I.getD i []++v (base x.zA.length x.zA.length+i)) (fun k=>(gl k fun i=>I.getD i []++v (base x.zA.length x.zA.length+i),(k:Int))) N (fun k hk=>by
  have hl:=(hv (base x.zA.length x.zA.length+k) (by omega)).1;have Wp:=mQ k hk;unfold zVJ;simp only
  rw[hI,xD hk,zK,yS [],bs,show rng (((base x.zA.length x.zA.length:Nat):Int)+(k:Int))=Wu ((base x.zA.length x.zA.length+k:Nat):Int)from tM,bs,vM,bs,zK3,bs,yA (by rw[yG];simp;omega),bs,zB,bs,vZ];rfl) (by
  unfold zVJ;simp only
  rw[hI,wX,zL])
 rw[show(gl 0 fun i=>I.getD i []++v (base x.zA.length x.zA.length+i))=[]from rfl]at key;rw[key,bs]
theorem zMF{R:Mx}(hR:Red p (dmX x N) R pv){I:Mx}(hI:I.length=N)(mQ:∀i,i<N->(I.getD i []).length=x.zA.length):
  zF (zSe p x I ((dmX x N:Nat):Int) R (jU (dmX x N) R.length pv)) ([],0)=Wu (gl N fun i=>I.getD i []++pim p (dmX x N) R pv (xE (dmX x N) (base x.zA.length x.zA.length+i))):=by
 have h7:=h.n6;have h2:=hp.pos;have _:=hc;have hd:=zFg h.toPres h7 hp hN;have hb:=vF x.zA.length (by omega);have ut:dmX x N=base x.zA.length x.zA.length+N:=rfl;have key:=zN (body:=zSe p x I ((dmX x N:Nat):Int) R (jU (dmX x N) R.length pv)) (r:=gl N fun i=>I.getD i []++pim p (dmX x N) R pv (xE (dmX x N) (base x.zA.length x.zA.length+i))) (fun k=>(gl k fun i=>I.getD i []++pim p (dmX x N) R pv (xE (dmX x N) (base x.zA.length x.zA.length+i)),(k:Int))) N (fun k hk=>by
  have Wp:=mQ k hk;have hs:=zLb hp hd.1 hR (a:=I.getD k []) (by omega) (tQ h2.1 (k:=base x.zA.length x.zA.length+k));rw[Wp]at hs;have e9:=zKU (v:=I.getD k []) (D:=dmX x N) (q:=base x.zA.length x.zA.length+k);rw[Wp]at e9;unfold zSe;simp only
  rw[hI,xD hk,zK,yS [],bs,show(0:Int)=((0:Nat):Int)from rfl,zIt,bs,show rng ((x.zA.length:Int)+((dmX x N:Nat):Int))=Wu ((x.zA.length+dmX x N:Nat):Int)from tM,bs,
   show rng (((x.zA.length+dmX x N:Nat):Int)-(N:Int))=Wu ((x.zA.length+base x.zA.length x.zA.length:Nat):Int)from tM,bs,
   show rng (((x.zA.length+base x.zA.length x.zA.length:Nat):Int)+(k:Int))=Wu ((x.zA.length+(base x.zA.length x.zA.length+k):Nat):Int)from tM,bs]
  rw[Kt,Js,tB (by rw[J5,Jc];omega),bs,J7,e9,hs,bs,yA (by rw[yG];simp;omega),bs,zB,bs,vZ];rfl) (by
  unfold zSe;simp only
  rw[hI,wX,zL])
 exact key
end
open Classical in
noncomputable def ivx (x:SPr) (v:Vec):Vec:=if h:∃w,V (suf x 0) w/\mul (suf x 0) v w=zeros (suf x 0).length then h.choose else[]
noncomputable def ltx (x:SPr) (M:Mx) (c:Int):Vec:=if c<0 then ivx x (M.getD (ixa c) [])else M.getD (ixa c) []
noncomputable def evx (x:SPr) (M:Mx):Vec->List Int->Vec
 |a,[]=>a
 |a,c::w=>evx x M (mul (suf x 0) a (ltx x M c)) w
theorem zI2{x:SPr}{M:Mx}{c:Int}:∀(w:List Int)(a:Vec),evx x M a (w++[c])=mul (suf x 0) (evx x M a w) (ltx x M c)
 | [],_=>rfl
 |_::w,_=>zI2 w _
theorem zCi{w:List Int}(hi:i<w.length):w.take (i+1)=w.take i++[at0 w i]:=by rw[H8,at0,J2,J3 hi];rfl
section
variable {x:SPr} (h:Pres x) (hc:xS (suf x 0))
 include h hc
theorem zOr{v w:Vec}(hv:V (suf x 0) v)(hw:V (suf x 0) w)(e:mul (suf x 0) v w=zeros (suf x 0).length):ivx x v=w:=by have G:=zDC h (k:=0) (by omega) hc;unfold ivx;have hx:∃w,V (suf x 0) w/\mul (suf x 0) v w=zeros (suf x 0).length:=⟨w,hw,e⟩;rw[dif_pos hx];exact G.cancel_l hv hx.choose_spec.1 hw (hx.choose_spec.2.trans e.symm)
theorem yDc{v:Vec}(hv:V (suf x 0) v):V (suf x 0) (ivx x v):=by obtain⟨w,h1,h2⟩:=(zDC h (k:=0) (by omega) hc).inv hv;rw[zOr h hc hv h1 h2];exact h1
theorem yDd(hM:∀k,k<M.length->V (suf x 0) (M.getD k [])){c:Int}(hx:ixa c<M.length):V (suf x 0) (ltx x M c):=by
 unfold ltx;split
 ·exact yDc h hc (hM _ hx)
 ·exact hM _ hx
theorem zJG{M:Mx}(hM:∀k,k<M.length->V (suf x 0) (M.getD k [])):∀(w:List Int)(a:Vec),V (suf x 0) a->(∀c∈w,ixa c<M.length)->V (suf x 0) (evx x M a w)
 | [],_,ha,_=>ha
 |c::w,a,ha,hw=>zJG hM w _ (yT (h.okAt (k:=0) (by omega)) ha (yDd h hc hM (hw c (by simp)))) fun d hd=>hw d (by simp[hd])
theorem zI3{w:List Int}(hw:Wd N w){c:Int}(eW:c∈w):ixa c<N:=by have _:=h;have _:=hc;obtain⟨a1,a2,a3⟩:=hw.2 c eW;unfold ixa;omega
theorem zUH{w:List Int}(hM:∀k,k<M.length->V (suf x 0) (M.getD k []))(hw:Wd M.length w)(hl:M.length<=1000):zXY x w M=Wu (evx x M (zeros x.zA.length) w):=by
 have gS:=hw;obtain⟨aU,pZ⟩:=hw;have aK:=h.os.1;have fW:(suf x 0).length=x.zA.length:=by rw[yC];omega
 unfold zXY;rw[yZ,bs];have key:=zN (body:=zNj x w M) (r:=evx x M (zeros x.zA.length) w) (fun i=>(evx x M (zeros x.zA.length) (w.take i),(i:Int))) w.length (fun i hi=>by
  have hm:at0 w i∈w:=by rw[at0,J2,J3 hi];exact Jp hi
  obtain⟨a1,a2,a3⟩:=pZ _ hm;have hx:ixa (at0 w i)<M.length:=zI3 h hc gS hm;have hR:=hM _ hx;have hE:V (suf x 0) (evx x M (zeros x.zA.length) (w.take i)):=zJG h hc hM _ _ (by rw[<-fW];exact xT (h.okAt (k:=0) (by omega))) fun c eW=>zI3 h hc gS (Jah eW)
  unfold zNj yAO;simp only
  rw[xD hi,zK,xM hi,bs,zB,bs,bs,zB,bs,show max (at0 w i) (0-at0 w i)-1=((ixa (at0 w i):Nat):Int)from by unfold ixa;omega,yS [] hx,bs,zCi hi,zI2]
  by_cases hn:at0 w i<0
  ·obtain⟨u,u1,u2,u3⟩:=zBb h (k:=0) (by omega) hc hR
   rw[fv0,fv0]at u3;rw[Wz hn,zK,u3,bs,tv0 h hc hE u1,bs,zB,bs,ltx,if_pos hn,zOr h hc hR u1 u2];rfl
  ·rw[Wy hn,zL,tv0 h hc hE hR,bs,zB,bs,ltx,if_neg hn]
   rfl) (by
  unfold zNj;simp only
  rw[wX,zL,Jt (J9 _)])
 rw[L9]at key;rw[show J0 x.zA.length (0:Int)=evx x M (zeros x.zA.length) []from rfl];rw[show(0:Int)=((0:Nat):Int)from rfl,key,bs]
theorem zUI{w:List Int}(hM:∀k,k<M.length->V (suf x 0) (M.getD k []))(hw:Wd M.length w)(hl:M.length<=1000):zYd x w M=Wu (evx x M (zeros x.zA.length) w):=by
 have gS:=hw;obtain⟨aU,pZ⟩:=hw;have aK:=h.os.1;have fW:(suf x 0).length=x.zA.length:=by rw[yC];omega
 unfold zYd;rw[show zLh x=Wu (zeros x.zA.length)from by unfold zLh;rw[yZ,bs];rfl,bs]
 have key:=zN (body:=zNo x w M) (r:=evx x M (zeros x.zA.length) w) (fun i=>(evx x M (zeros x.zA.length) (w.take i),(i:Int))) w.length (fun i hi=>by
  have hm:at0 w i∈w:=by rw[at0,J2,J3 hi];exact Jp hi
  obtain⟨a1,a2,a3⟩:=pZ _ hm;have hx:ixa (at0 w i)<M.length:=zI3 h hc gS hm;have hR:=hM _ hx;have hE:V (suf x 0) (evx x M (zeros x.zA.length) (w.take i)):=zJG h hc hM _ _ (by rw[<-fW];exact xT (h.okAt (k:=0) (by omega))) fun c eW=>zI3 h hc gS (Jah eW)
  unfold zNo;simp only
  rw[xD hi,zK,xM hi,bs,zCi hi,zI2]
  by_cases hn:at0 w i<0
  ·obtain⟨u,u1,u2,u3⟩:=zEF h hc hR
   rw[Wy (by omega),zL,bs,zB,bs,zB,bs,show 0-at0 w i-1=((ixa (at0 w i):Nat):Int)from by unfold ixa;omega,yS [] hx,bs,u3,bs,
    zCR h hc hE u1,bs,zB,bs,ltx,if_pos hn,zOr h hc hR u1 u2]
   rfl
  ·rw[Wz,zK,bs,zB,bs,show at0 w i-1=((ixa (at0 w i):Nat):Int)from by unfold ixa;omega,yS [] hx,bs,
    zCR h hc hE hR,bs,zB,bs,ltx,if_neg hn]
   rfl) (by
  unfold zNo;simp only
  rw[wX,zL,Jt (J9 _)])
 rw[L9]at key;rw[show((zeros x.zA.length,0):List Int×Int)=(evx x M (zeros x.zA.length) [],((0:Nat):Int))from rfl,key,bs]
end
noncomputable def rlx (g:SPr) (n:Nat) (M:Mx) (ws:Mx):Mx:=ws.map fun w=>(evx g M (zeros g.zA.length) w).drop n
section
variable {x:SPr} (h:Pres x) (h7:x.zA.length<=7) {p:Int} (hp:Prime p) {W:Nat} (hW:W<=32) {t:Nat->Vec} (ht:∀k,k<base x.zA.length x.zA.length->Row p W (t k)) (hc:xS (suf (gX x p W t) 0)) {F:yF}{M:Mx} (hM:∀k,k<M.length->V (suf (gX x p W t) 0) (M.getD k [])) (hw:∀w∈F.zW,Wd M.length w) (hl:M.length<=1000) (hF:F.zW.length<=1000)
 include h h7 hp hW ht hc hM hw hl hF
theorem zUJ:zF (zOC F x (gX x p W t,M)) ([],0)=Wu (rlx (gX x p W t) x.zA.length M F.zW):=by
 have hg:=zFl h h7 hp hW ht;have gm:=zFT h h7 hp (W:=W) (t:=t);have key:=zN (body:=zOC F x (gX x p W t,M)) (r:=rlx (gX x p W t) x.zA.length M F.zW) (fun k=>(rlx (gX x p W t) x.zA.length M (F.zW.take k),(k:Int))) F.zW.length (fun k hk=>by
  have hm:F.zW[k]∈F.zW:=Jp hk;have fp:=zUH hg hc hM (hw _ hm) hl;have hv:=qE (zJG hg hc hM F.zW[k] (zeros (gX x p W t).zA.length) (by have:=xT (hg.okAt (k:=0) (by omega));rwa [yC,Li]at this) fun c eW=>zI3 hg hc (hw _ hm) eW);rw[yC]at hv;unfold zOC;simp only
  rw[xD hk,zK,tB hk,bs,fp,bs,zBG,bs,yA (by simp[rlx];omega),bs,zB,bs];rw[show rlx (gX x p W t) x.zA.length M (F.zW.take k)++[(evx (gX x p W t) M (zeros (gX x p W t).zA.length) F.zW[k]).drop x.zA.length]=rlx (gX x p W t) x.zA.length M (F.zW.take (k+1))from by unfold rlx;rw[H8,J3 hk,Lq];rfl];rfl) (by
  unfold zOC;simp only
  rw[wX,zL,Jt (J9 _)])
 exact key
theorem zUK:zF (zOJ F x M (gX x p W t)) ([],0)=Wu (rlx (gX x p W t) x.zA.length M F.zW):=by
 have hg:=zFl h h7 hp hW ht;have gm:=zFT h h7 hp (W:=W) (t:=t);have key:=zN (body:=zOJ F x M (gX x p W t)) (r:=rlx (gX x p W t) x.zA.length M F.zW) (fun k=>(rlx (gX x p W t) x.zA.length M (F.zW.take k),(k:Int))) F.zW.length (fun k hk=>by
  have hm:F.zW[k]∈F.zW:=Jp hk;have fp:=zUI hg hc hM (hw _ hm) hl;have hv:=qE (zJG hg hc hM F.zW[k] (zeros (gX x p W t).zA.length) (by have:=xT (hg.okAt (k:=0) (by omega));rwa [yC,Li]at this) fun c eW=>zI3 hg hc (hw _ hm) eW);rw[yC]at hv;unfold zOJ;simp only
  rw[xD hk,zK,tB hk,bs,fp,bs,zBG,bs,yA (by simp[rlx];omega),bs,zB,bs];rw[show rlx (gX x p W t) x.zA.length M (F.zW.take k)++[(evx (gX x p W t) M (zeros (gX x p W t).zA.length) F.zW[k]).drop x.zA.length]=rlx (gX x p W t) x.zA.length M (F.zW.take (k+1))from by unfold rlx;rw[H8,J3 hk,Lq];rfl];rfl) (by
  unfold zOJ;simp only
  rw[wX,zL,Jt (J9 _)])
 exact key
theorem zXt(hi:i<(rlx (gX x p W t) x.zA.length M F.zW).length):Row p W ((rlx (gX x p W t) x.zA.length M F.zW).getD i []):=by
 have hg:=zFl h h7 hp hW ht;have _:=hF;have _:=hl;unfold rlx at hi ⊢
 rw[Jm]at hi;rw[J2,J3 (by simpa using hi)];simp only[Qh,Le];have hm:F.zW[i]∈F.zW:=Jp hi;have hv:=zJG hg hc hM F.zW[i] (zeros (gX x p W t).zA.length) (by have:=xT (hg.okAt (k:=0) (by omega));rwa [yC,Li]at this) fun c eW=>zI3 hg hc (hw _ hm) eW
 obtain⟨y,u,e,hy,hu⟩:=(yA4 h h7 hp hW ht).1 hv;have eQ:=qE hy;rw[yC]at eQ;rw[e,Kq (by omega),Lw (by omega)];exact hu
 omit h h7 hW ht hc hM hw hl hF hp in
theorem zXu{g:SPr}{ws:Mx}:(rlx g n M ws).length=ws.length:=Jm ..
end
section
variable {p:Int} (hp:Prime p) {W:Nat} (hW:W<=32) {R:Mx}{pv:Nat->Nat} (hR:Red p W R pv)
 include hp hW hR
theorem zXv(hu:Row p W u):pim p W R pv u=mkv (tI W R.length pv).length fun b=>(S W fun k=>at0 u k*at0 (pim p W R pv (xE W k)) b)%p:=by
 have h2:=hp.pos;refine yH fun b hb=>?_
 have hl:=zFJ hb
 conv=>lhs;rw[zMD hp (by omega) hu]
 rw[zOm hp (by omega) hR (fun k _=>tQ h2.1),zY hl]
 congr 1
 refine xL fun k hk=>?_
 unfold pim;rw[zY hb]
theorem zXw(hu:Row p W u):zF (zRX p (gl W fun k=>pim p W R pv (xE W k)) u) (J0 (tI W R.length pv).length 0,0)=Wu (pim p W R pv u):=by
 have h2:=hp.pos;have gH:=kV (D:=W) (N:=R.length) (pv:=pv);have fD:∀f:Nat->Int,Row p (tI W R.length pv).length (mkv (tI W R.length pv).length fun b=>f b%p):=fun f=>⟨yI _ _,fun b hb=>by rw[zY hb];have:=Kl (f b) (b:=p) (by omega);have:=K9 (f b) (b:=p) (by omega);omega⟩
 have key:=zN (body:=zRX p (gl W fun k=>pim p W R pv (xE W k)) u) (r:=pim p W R pv u) (fun i=>(mkv (tI W R.length pv).length fun b=>(S i fun k=>at0 u k*at0 (pim p W R pv (xE W k)) b)%p,(i:Int))) W (fun i hi=>by
  have hui:=hu.2 i hi;unfold zRX;simp only
  rw[hu.1,xD hi,zK,xM (by rw[hu.1];exact hi),bs,vM hi,bs,zDl hp (fD _) (zAz hp (by omega) hR (tQ h2.1)) (by omega) (by omega),bs,zB,bs];rw[show tN p (tI W R.length pv).length (mkv (tI W R.length pv).length fun b=>(S i fun k=>at0 u k*at0 (pim p W R pv (xE W k)) b)%p) (at0 u i) (pim p W R pv (xE W i))=mkv (tI W R.length pv).length fun b=>(S (i+1) fun k=>at0 u k*at0 (pim p W R pv (xE W k)) b)%p from yH fun b hb=>by rw[zY hb,S,Gk]];rfl) (by
  unfold zRX;simp only
  rw[hu.1,wX,zL,<-zXv hp hW hR hu])
 rw[show(mkv (tI W R.length pv).length fun b=>(S 0 fun k=>at0 u k*at0 (pim p W R pv (xE W k)) b)%p)=J0 (tI W R.length pv).length 0 from by rw[sK];exact yH fun b _=>by simp[S]]at key
 exact key
theorem zUL(hD:D<=1000){v:Nat->Vec}(hv:∀k,k<D->Row p W (v k)){v22:List Int}(h22:v22.length=(tI W R.length pv).length):zF (zVL p (gl D v) (gl W fun k=>pim p W R pv (xE W k)) v22) ([],0)=Wu (gl D fun k=>pim p W R pv (v k)):=by
 have gH:=kV (D:=W) (N:=R.length) (pv:=pv);exact zN (fun k=>(gl k fun k=>pim p W R pv (v k),(k:Int))) D (fun k hk=>by
  unfold zVL;simp only
  rw[yG,xD hk,zK,vM hk,bs,h22,yZ,bs,zXw hp hW hR (hv k hk),bs,yA (by rw[yG];simp;omega),bs,zB,bs,vZ];rfl) (by
  unfold zVL;simp only
  rw[yG,wX,zL])
theorem zRq(h0:W=0)(hD:D<=1000){v:Nat->Vec}(hv:∀k,k<D->Row p W (v k)):zF (zVN p (gl D v) (gl W fun k=>pim p W R pv (xE W k))) ([],0)=Wu (gl D fun k=>pim p W R pv (v k)):=by
 have _:=hW;have gH:=kV (D:=W) (N:=R.length) (pv:=pv);exact zN (fun k=>(gl k fun k=>pim p W R pv (v k),(k:Int))) D (fun k hk=>by
  have hz:=(hv k hk).1;have e1:pim p W R pv (v k)=[]:=by have:=(zAz hp (by omega) hR (hv k hk)).1;exact Jj (by omega)
  have e2:zF (zXZ p (gl W fun k=>pim p W R pv (xE W k)) (v k)) (J0 0 0,0)=Wu []:=by
   rw[yW];unfold zXZ;simp only
   rw[Wy (by omega),zL];rfl
  unfold zVN;simp only
  rw[yG,xD hk,zK,vM hk,bs,show yO 0=Wu 0 from yZ (n:=0),bs,e2,bs,yA (by rw[yG];simp;omega),bs,zB,bs,<-vZ,e1];rfl) (by
  unfold zVN;simp only
  rw[yG,wX,zL])
end
section
variable {p:Int} (hp:Prime p) {W:Nat} (hW:W<=32) {R:Mx}{pv:Nat->Nat} (hR:Red p W R pv)
 include hp hW hR
theorem zOs{x:SPr}{I:Mx}(hN:N<=1000)(h7:x.zA.length<=7)(mQ:∀i,i<N->(I.getD i []).length=x.zA.length){v:Nat->Vec}(hv:∀i,i<N->Row p W (v i)):
  zF (zVV p x R (jU W R.length pv)) (gl N (fun i=>I.getD i []++v i),0)=Wu (gl N fun i=>I.getD i []++pim p W R pv (v i)):=by
 let st:Nat->Mx:=fun q=>gl N fun i=>if i<q then I.getD i []++pim p W R pv (v i)else I.getD i []++v i
 have s0:st 0=gl N (fun i=>I.getD i []++v i):=xZ fun k _=>if_neg (by omega)
 have sN:st N=gl N fun i=>I.getD i []++pim p W R pv (v i):=xZ fun k hk=>if_pos hk
 rw[<-s0,<-sN];exact zN (fun q=>(st q,(q:Int))) N (fun q hq=>by
  have hIq:=mQ q hq;have hs:=zLb hp hW hR (a:=I.getD q []) (by omega) (hv q hq);rw[hIq]at hs;have gp:(st q).set q (I.getD q []++pim p W R pv (v q))=st (q+1):=by
   show(gl _ _).set q _=gl _ _;rw[zAG];refine xZ fun k _=>?_
   by_cases e:k=q
   ·subst e;rw[if_pos rfl,if_pos (by omega)]
   ·rw[if_neg e]
    by_cases g:k<q
    ·rw[if_pos g,if_pos (by omega)]
    ·rw[if_neg g,if_neg (by omega)]
  have gm:(st q).length=N:=yG;unfold zVV;simp only
  rw[gm,xD hq,zK,show ixO (st q) (q:Int)=Wu (I.getD q []++v q)from by show ixO (gl _ _) _=_;rw[vM hq,if_neg (by omega)],bs,hs,bs,bs,zB,bs,J7,gp]
  rfl) (by
  have gm:(st N).length=N:=yG;unfold zVV;simp only
  rw[gm,wX,zL])
end
abbrev lfI(x:SPr)(N:Nat)(I:Mx)(v:Nat->Vec):Mx:=gl N fun i=>I.getD i []++v (base x.zA.length x.zA.length+i)
section
variable {x:SPr} (h:zGm x) (hc:xS (suf x 0)) {p:Int} (hp:Prime p) {N:Nat} (hN:N<=4)
 include h hc hp hN
theorem zRr(gT:∀i,i<x.zA.length->at0 x.zA i=p){F:yF}(hw:∀w∈F.zW,Wd N w)(hF:F.zW.length<=1000){I:Mx}(hI:I.length=N)(mQ:∀i,i<N->V (suf x 0) (I.getD i [])):
  ∃y J,Pres y/\xS (suf y 0)/\J.length=N/\(∀i,i<N->V (suf y 0) (J.getD i []))/\(∀i,i<y.zA.length->at0 y.zA i=p)/\y.zA.length<=x.zA.length+dmX x N/\f_o F p x I=Wu (y,J)/\(0<dmX x N->f_f F p x I=Wu (y,J,x)):=by
 have h7:=h.n6;have h2:=hp.pos;have hd:=zFg h.toPres h7 hp hN;have hb:=vF x.zA.length (by omega);have ut:dmX x N=base x.zA.length x.zA.length+N:=rfl;have iE:∀i,i<N->(I.getD i []).length=x.zA.length:=fun i hi=>by have:=qE (mQ i hi);rw[yC]at this;omega
 obtain⟨A,R,pv,G,a1,a2,a3,g1,g2,hR,hG⟩:=zRo h hc hp hN;have gH:=kV (D:=dmX x N) (N:=R.length) (pv:=pv);have fV:∀k,Row p (dmX x N) (xE (dmX x N) k):=fun k=>tQ h2.1
 generalize bF:(fun k=>pim p (dmX x N) R pv (xE (dmX x N) k))=v1
 have mo:∀k,pim p (dmX x N) R pv (xE (dmX x N) k)=v1 k:=fun k=>congrFun bF k
 generalize mO:(tI (dmX x N) R.length pv).length=W1 at gH
 have eO:∀k,Row p W1 (v1 k):=fun k=>by rw[<-mo,<-mO];exact zAz hp (by omega) hR (fV k)
 have ct:xS (suf (gX x p W1 v1) 0):=by rw[<-bF];exact zQh h hc hp hN g1 (by omega) (φ:=pim p (dmX x N) R pv) (fun u hu=>mO▸zAz hp (by omega) hR hu) (mO▸zFk hp (by omega) hR (xI) (kT fun j _=>by rw[uN];simp)) (fun u v hu hv=>mO▸zLa hp (by omega) hR hu hv) fun r hr=>mO▸zFk hp (by omega) hR (hG r hr).1 (hG r hr).2
 have dL:=zFl h.toPres h7 hp (W:=W1) (t:=v1) (by omega) fun k _=>eO k
 let M1:Mx:=lfI x N I v1
 have Wn:∀k,k<M1.length->V (suf (gX x p W1 v1) 0) (M1.getD k []):=fun k hk=>by
  have hk:k<N:=by rw[show M1.length=N from yG]at hk;exact hk
  rw[show M1.getD k []=I.getD k []++v1 (base x.zA.length x.zA.length+k)from yY hk];exact(yA4 h.toPres h7 hp (by omega) fun k _=>eO k).2 ⟨_,_,rfl,mQ k hk,eO _⟩
 have Wm:M1.length=N:=yG;have aU:∀w∈F.zW,Wd M1.length w:=fun w hww=>by rw[Wm];exact hw w hww
 have e1:=zUJ h.toPres h7 hp (by omega) (fun k _=>eO k) ct Wn aU (by omega) hF;have e2:=zUK h.toPres h7 hp (by omega) (fun k _=>eO k) ct Wn aU (by omega) hF;obtain⟨R2,pv2,q1,q2,pV,_⟩:=qR hp (n:=W1) (by omega) (rows:=rlx (gX x p W1 v1) x.zA.length M1 F.zW) (by rw[zXu];omega) (fun i hi=>zXt h.toPres h7 hp (by omega) (fun k _=>eO k) ct Wn aU (by omega) hF hi);have dO:=kV (D:=W1) (N:=R2.length) (pv:=pv2)
 generalize eU:(fun k=>pim p W1 R2 pv2 (v1 k))=v2
 have df:∀k,pim p W1 R2 pv2 (v1 k)=v2 k:=fun k=>congrFun eU k
 generalize aI:(tI W1 R2.length pv2).length=W2 at dO
 have pf:∀k,Row p W2 (v2 k):=fun k=>by rw[<-df,<-aI];exact zAz hp (by omega) pV (eO k)
 have eE:xS (suf (gX x p W2 v2) 0):=by
  have e:v2=fun k=>(fun u=>pim p W1 R2 pv2 (pim p (dmX x N) R pv u)) (xE (dmX x N) k):=by rw[<-eU];funext k;rw[<-mo]
  rw[e];have rr:∀u,Row p (dmX x N) u->Row p W1 (pim p (dmX x N) R pv u):=fun u hu=>mO▸zAz hp (by omega) hR hu
  have zz:pim p W1 R2 pv2 (zeros W1)=zeros W2:=aI▸zFk hp (by omega) pV (xI) (kT fun j _=>by rw[uN];simp);have z1:∀r,Row p (dmX x N) r->Sp p (dmX x N) R r->pim p W1 R2 pv2 (pim p (dmX x N) R pv r)=zeros W2:=fun r hr hs=>by rw[zFk hp (by omega) hR hr hs,mO,zz]
  refine zQh h hc hp hN g1 (by omega) (φ:=fun u=>pim p W1 R2 pv2 (pim p (dmX x N) R pv u)) (fun u hu=>aI▸zAz hp (by omega) pV (rr u hu)) (z1 _ (xI) (kT fun j _=>by rw[uN];simp)) (fun u v hu hv=>?_) fun r hr=>z1 r (hG r hr).1 (hG r hr).2
  show pim p W1 R2 pv2 (pim p (dmX x N) R pv (adv p (dmX x N) u v))=_;rw[zLa hp (by omega) hR hu hv,mO,zLa hp (by omega) pV (rr u hu) (rr v hv),aI]
 have fb:=zFl h.toPres h7 hp (W:=W2) (t:=v2) (by omega) fun k _=>pf k
 let M2:Mx:=lfI x N I v2
 have hM2l:M2.length=N:=yG;have ia:∀a∈M2,V (suf (gX x p W2 v2) 0) a:=fun a ha=>by obtain⟨k,hk,rfl⟩:=Jq.1 ha;exact(yA4 h.toPres h7 hp (by omega) fun k _=>pf k).2 ⟨_,_,rfl,mQ k (Ll.1 hk),pf _⟩
 have bj:=zFT h.toPres h7 hp (W:=W2) (t:=v2);obtain⟨C,c1,c2,c3⟩:=zIp fb eE ia (by omega)
 let J:Mx:=gl N fun i=>XX (gX x p W2 v2) C 0 (gX x p W2 v2).zA.length (I.getD i []++v2 (base x.zA.length x.zA.length+i))
 have hMi:∀i,i<N->I.getD i []++v2 (base x.zA.length x.zA.length+i)∈M2:=fun i hi=>Jq.2 ⟨i,Ll.2 hi,rfl⟩
 have iD:=fun i hi=>ia _ (hMi i hi)
 refine⟨sbp (gX x p W2 v2) C,J,zXe fb eE ia c3,zXd fb eE ia c3,yG,fun i hi=>?_,fun i hi=>?_,?_,?_,fun hD=>?_⟩
 ·rw[show J.getD i []=_ from yY hi]
  exact yCN fb eE ia c3 (iD i hi) (Gen.x (hMi i hi))
 ·rw[zIx fb eE c3]at hi
  obtain⟨d,t,ha⟩:=zIw c3 hi;rw[show at0 (sbp (gX x p W2 v2) C).zA i=at0 (gX x p W2 v2).zA d from ha.o];have ev:=ha.b;show at0 (x.zA++J0 W2 p) d=p;rcases Jk d x.zA.length with e|e
  ·rw[at0,J2,K1 e,<-J2]
   exact gT d e
  ·rw[at0,J2,Ja e,K3,if_pos (by omega)]
   rfl
 ·rw[zIx fb eE c3]
  have:=zAN C 0 (gX x p W2 v2).zA.length;omega
 ·have tf:=zFT h.toPres h7 hp (W:=dmX x N) (t:=xE (dmX x N))
  have bm:=zFT h.toPres h7 hp (W:=W1) (t:=v1);have f1:=zQg h.toPres h7 hp (W:=dmX x N) (by omega) (t:=xE (dmX x N)) (fun k _=>fV k) hR;rw[mO,bF]at f1;have f2:=zQg h.toPres h7 hp (W:=W1) (by omega) (t:=v1) (fun k _=>eO k) pV;rw[aI,eU]at f2;have im:=zMF h hc hp hN hR hI iE;simp only[mo]at im;have sl:=zOs hp (W:=W1) (by omega) pV (x:=x) (I:=I) (N:=N) (by omega) h7 iE (v:=fun i=>v1 (base x.zA.length x.zA.length+i)) fun i _=>eO _
  simp only[df]at sl;unfold f_o;rw[hI,zRj h.toPres h7 hp hN,bs,show rng (((cvG x p N).zA.length:Int)-(x.zA.length:Int))=Wu ((dmX x N:Nat):Int)from by show rng (((gX x p (dmX x N) (xE (dmX x N))).zA.length:Int)-(x.zA.length:Int))=_;rw[tf];exact tM,bs,g1,bs,g2,bs,zEe hp (by omega) hR,bs,im,bs]
  rw[show f_z (cvG x p N) (x.zA.length:Int) p R=Wu (gX x p W1 v1)from f1,bs,show zF (zOJ F x (lfI x N I v1) (gX x p W1 v1)) ([],0)=_ from e2,bs,q1,bs,show rng (((gX x p W1 v1).zA.length:Int)-(x.zA.length:Int))=Wu (W1:Int)from by rw[bm];exact tM,bs,zEe hp (by omega) pV,bs,sl,bs,f2,bs,show f_E (gX x p W2 v2) (lfI x N I v2)=_ from c1,bs]
  have k4:zF (zVW (lfI x N I v2) (gX x p W2 v2) (yP C 0 (gX x p W2 v2).zA.length)) ([],0)=Wu J:=tF N (fun i=>XX (gX x p W2 v2) C 0 (gX x p W2 v2).zA.length (I.getD i []++v2 (base x.zA.length x.zA.length+i))) (fun i acc hi ha=>by
   unfold zVW;simp only
   rw[yG,xD hi,zK,vM hi,bs,zIu fb eE (zFf fb eE c3) (iD i hi),bs,yA (by simp;omega),bs,zB,bs];rfl) (fun acc=>by
   unfold zVW;simp only
   rw[yG,wX,zL])
  rw[k4,bs,zU2 fb eE c3,bs]
 ·have li1:=zJF h hc hp hN hD (W:=W1) (by omega) (v:=v1) (fun k _=>eO k) hI iE
  have li2:=zJF h hc hp hN hD (W:=W2) (by omega) (v:=v2) (fun k _=>pf k) hI iE;have qv1:=zQb hp (N:=dmX x N) (by omega) hR;simp only[mo]at qv1;have qv2:=zQb hp (N:=W1) (by omega) pV;have k5:zF (zVM (gX x p W2 v2,lfI x N I v2) (yP C 0 (gX x p W2 v2).zA.length)) ([],0)=Wu J:=tF N (fun i=>XX (gX x p W2 v2) C 0 (gX x p W2 v2).zA.length (I.getD i []++v2 (base x.zA.length x.zA.length+i))) (fun i acc hi ha=>by
   obtain⟨b,hm⟩:=zFe fb eE (zFf fb eE c3) (iD i hi);unfold zVM;simp only
   rw[yG,xD hi,zK,vM hi,bs,hm,bs,yA (by simp;omega),bs,zB,bs];rfl) (fun acc=>by
   unfold zVM;simp only
   rw[yG,wX,zL])
  have k8:zF (zVO (gX x p W2 v2,lfI x N I v2) (yP C 0 (gX x p W2 v2).zA.length)) ([],0)=Wu J:=tF N (fun i=>XX (gX x p W2 v2) C 0 (gX x p W2 v2).zA.length (I.getD i []++v2 (base x.zA.length x.zA.length+i))) (fun i acc hi ha=>by
   obtain⟨b,hm⟩:=zFe fb eE (zFf fb eE c3) (iD i hi);unfold zVO;simp only
   rw[yG,xD hi,zK,vM hi,bs,hm,bs,yA (by simp;omega),bs,zB,bs];rfl) (fun acc=>by
   unfold zVO;simp only
   rw[yG,wX,zL])
  unfold f_f;rw[zAI rfl h7,bs,hI,show rng (((base x.zA.length x.zA.length:Nat):Int)+(N:Int))=Wu ((dmX x N:Nat):Int)from tM,bs,zCK,zL,a1,bs,a2 I hI,bs,a3,bs,qv1,bs,li1,bs,show zF (zOC F x (gX x p W1 v1,lfI x N I v1)) ([],0)=_ from e1,bs,bs,q2,bs,show ixO (gl (dmX x N) v1) 0=Wu (v1 0)from vM (i:=0) hD,bs,(eO 0).1,qv2,bs,yG];rcases Gu W1 with z|z
  ·have cn:=zRq hp (W:=W1) (by omega) pV z (D:=dmX x N) (by omega) (v:=v1) fun k _=>eO k
   rw[eU]at cn;rw[Wy (by omega),zL,cn,bs,li2,bs];simp only
   rw[show zNg (gX x p W2 v2) (lfI x N I v2)=_ from c2,bs,zM9 fb eE c3,bs,k8,bs]
  ·have ca:=zUL hp (W:=W1) (by omega) pV (D:=dmX x N) (by omega) (v:=v1) (fun k _=>eO k) (v22:=pim p W1 R2 pv2 (xE W1 0)) (zAz hp (by omega) pV (tQ h2.1)).1
   rw[eU]at ca;rw[Wz,zK,show ixO (gl W1 fun k=>pim p W1 R2 pv2 (xE W1 k)) 0=Wu (pim p W1 R2 pv2 (xE W1 0))from vM (i:=0) z,bs,ca,bs,li2,bs];simp only
   rw[show zNg (gX x p W2 v2) (lfI x N I v2)=_ from c2,bs,zM9 fb eE c3,bs,k5,bs]
end
def nm(p:Int)(v:List Int):Int:=v.foldl (fun n a=>n*p+a) 0
theorem zDw(p:Int)(v:List Int)(a:Int):nm p (v++[a])=nm p v*p+a:=by simp[nm,Q7]
theorem zFU{p:Int}{v:List Int}(h:Row p (W+1) v):∃u a,v=u++[a]/\Row p W u/\0<=a/\a<=p-1:=by
 have hl:=h.1;refine⟨v.take W,at0 v W,?_,⟨by simp;omega,fun i hi=>?_⟩,h.2 W (by omega)⟩
 ·rw[at0,J2,J3 (by omega),Le,List.take_append_getElem (by omega:W<v.length),Jt (by omega)]
 ·have:=h.2 i (by omega)
  rw[at0,J2,Ua hi,<-J2];exact this
section
variable {p:Int} (h2:2<=p)
 include h2
theorem zMG:∀{W:Nat}{v:List Int},Row p W v->0<=nm p v/\nm p v<p ^ W
 |0,v,h=>by have:v=[]:=Jj h.1;subst this;simp[nm]
 |W+1,v,h=>by obtain⟨u,a,rfl,hu,a1,a2⟩:=zFU h;obtain⟨b1,b2⟩:=zMG hu;rw[zDw,Qzy];have e1:=Gi b1 (show 0<=p by omega);have e2:=Int.mul_le_mul_of_nonneg_right (show nm p u+1<=p ^ W by omega) (show 0<=p by omega);rw[Int.add_mul,Uy]at e2;omega
theorem zLc:∀{W:Nat}{u v:List Int},Row p W u->Row p W v->nm p u=nm p v->u=v
 |0,u,v,hu,hv,_=>by rw[Jj hu.1,Jj hv.1]
 |W+1,u,v,hu,hv,h=>by
  obtain⟨u,a,rfl,hu,a1,a2⟩:=zFU hu;obtain⟨v,b,rfl,pc,b1,b2⟩:=zFU hv;rw[zDw,zDw]at h;have e1:a=b:=by
   have:=congrArg (· %p) h;simp only[Qk (_*p),Int.add_mul_emod_self_right]at this
   rwa [Jo a1 (by omega),Jo b1 (by omega)]at this
  subst e1;rw[zLc hu pc (Int.eq_of_mul_eq_mul_right (show p≠0 by omega) (by omega))]
end
theorem zMH{α:Type}[DecidableEq α]:∀(l m:List α),l.Nodup->(∀a∈l,a∈m)->l.length<=m.length
 | [],_,_,_=>K4 _
 |a::l,m,h,hs=>by
  have ha:=hs a (by simp);have hn:=L4.1 h;have:=zMH l (m.erase a) hn.2 fun b hb=>(List.mem_erase_of_ne (show b≠a from fun e=>hn.1 (by rw[<-e];exact hb))).2 (hs b (by simp[hb]))
  rw[List.length_erase_of_mem ha]at this;have:=List.length_pos_of_mem ha;simp only[J8];omega
theorem zQi{p:Int}(h2:2<=p)(hF:F.Nodup)(hr:∀v∈F,Row p W v):(F.length:Int)<=p ^ W:=by
 have hP:0<p ^ W:=Int.pow_pos (by omega);have:=zMH (F.map fun v=>(nm p v).toNat) (Ju (p ^ W).toNat) (by
  refine List.pairwise_map.2 (hF.imp_of_mem fun{a b} ha hb gf e=>gf ?_);have:=(zMG h2 (hr a ha)).1;have:=(zMG h2 (hr b hb)).1;exact zLc h2 (hr a ha) (hr b hb) (by omega)) (fun k hk=>by
  obtain⟨v,hv,rfl⟩:=Jq.1 hk;have:=zMG h2 (hr v hv);exact Ll.2 (by omega))
 rw[Jm,Gv]at this;omega
def adF(F:Mx)(y:List Int):Mx:=if y∈F then F else F++[y]
theorem zXx(F:Mx)(y:List Int):∃G,adF F y=F++G:=by
 unfold adF;split
 ·exact⟨[],by simp⟩
 ·exact⟨[y],rfl⟩
theorem zCm{P:Nat->Prop}:∀b,P b-> ∃n,n<=b/\P n/\ ∀i,i<n-> ¬P i:=fun b=>by
 induction b using U4 with
 |ind b ih=>
  intro h
  by_cases q:∃i,i<b/\P i
  ·obtain⟨i,i1,i2⟩:=q
   obtain⟨n,n1,n2,n3⟩:=ih i i1 i2;exact⟨n,by omega,n2,n3⟩
  ·exact⟨b,J9 _,h,fun i hi hp=>q ⟨i,hi,hp⟩⟩
theorem zUM{l:List (Int×Int)}(h:qY l k=Wv):zB9 l k v=l++[(k,v)]:=by
 refine zJu ?_;have:=zH9 k l 0;rw[h]at this;cases e:zDW k l 0 with
 |none=>rfl
 |some x=>rw[e]at this;cases this
theorem zUN{l:List (Int×Int)}{k':Int}:qY (l++[(k,v)]) k'=(qY l k').or (if k'=k then Wu v else Wv):=by
 unfold qY;rw[List.find?_append];cases e:l.find? fun e=>k'==e.1 with
 |some x=>simp
 |none=>
  by_cases q:k'=k
  ·simp[q]
  ·simp[q]
theorem zXy{z:List Int}:(F++[y]).idxOf z=if z∈F then F.idxOf z else if y=z then F.length else F.length+1:=by
 rw[List.idxOf_append];split
 ·rfl
 ·rw[Jan]
  by_cases q:y=z
  ·simp[q]
  ·have:(y==z)=Wx:=by simpa using q
   rw[this,if_neg q];simp;omega
theorem zI4(h:y∉F):F.idxOf y=F.length:=List.idxOf_eq_length h
theorem zUO{y:List Int}:∀(F:Mx)(j:Nat),j<F.idxOf y->F.getD j []≠y
 | [],j,h=>by simp at h
 |a::F,j,h=>by
  rw[Jan]at h
  by_cases e:a=y
  ·simp[e]at h
  ·have:(a==y)=Wx:=by simpa using e
   rw[this]at h;simp only[cond_false]at h;cases j with
   |zero=>simpa using e
   |succ j=>
    rw[List.getD_cons_succ];exact zUO F j (by omega)
theorem yA5(h:y∈F):F.getD (F.idxOf y) []=y:=by have hl:=Qb h;rw[J2,J3 hl,Le];exact List.getElem_idxOf hl
theorem zRs{T:Mx}(hl:F.length<=1000)(hr:∀j,j<F.length->(F.getD j []).length<=1000):zF (zVX (T,F,k) y) 0=Wu ((F.idxOf y:Nat):Int):=by
 have fR:F.idxOf y<=F.length:=List.idxOf_le_length;refine zN (fun i=>(i:Int)) (F.idxOf y) (fun i hi=>?_) ?_
 ·unfold zVX
  simp only
  rw[xD,zK,yS [],bs,zJ1 (by have:=hr i (by omega);omega),bs,show((F.getD i [])==y)=Wx from by simpa using zUO F i hi,Ko,zK,zB,bs];rfl
 ·unfold zVX
  simp only
  by_cases h:y∈F
  ·have gI:=Qb h
   rw[xD gI,zK,yS [] gI,bs,zJ1 (by have:=hr _ gI;omega),bs,yA5 h,beq_self_eq_true,K7,zL]
  ·rw[zI4 h,wX,zL]
def SFp(F:yF):Prop:=True/\F.zW.length<=2000000/\ ∀w∈F.zW,w.length<=2000000
def Lt(n:Int)(a:Int):Prop:=a≠0/\ -n<=a/\a<=n
def WdI(n:Int)(w:List Int):Prop:=w.length<=64/\ ∀j,j<w.length->Lt n (at0 w j)
def yA6(F:yF):Prop:=(0<=F.Gens/\F.Gens<=4)/\F.zW.length<=12/\ ∀i,i<F.zW.length->WdI F.Gens (F.zW.getD i [])
theorem zRt{n:Int}{w:List Int}(hn:0<=n/\n<=4)(hw:w.length<=2000000):IsB (zXU n w) (WdI n w):=by
 unfold zXU;rcases chk (body:=zNh n w) w.length 0 (K4 _) (fun i=>Lt n (at0 w i)) (fun _=>Wx) (fun i _ hi _=>by
   unfold zNh;rw[xD hi,zK,xM hi,bs]
   by_cases h0:at0 w i=0
   ·rw[h0,beq_self_eq_true,zK]
    exact .inr ⟨rfl,fun h=>h.1 rfl⟩
   ·rw[zCK h0,zL,zB,bs]
    rcases zAd (at0 w i) (0-n) n with⟨e,q⟩|⟨e,q⟩
    ·rw[e,bs,K7,zL,zB,bs]
     exact .inl ⟨rfl,h0,by omega,q.2⟩
    ·rw[e,bs,Ko,zK]
     exact .inr ⟨rfl,fun h=>q ⟨by have:=h.2.1;omega,h.2.2⟩⟩) (by
   unfold zNh;rw[wX,zL])with⟨e,h⟩|⟨i,_,hi,e,h⟩
 ·rw[show((0:Nat):Int)=0 from rfl]at e
  rw[e,bs];simp only
  by_cases hl:w.length<=64
  ·rw[Wz]
   exact .inl ⟨rfl,hl,fun j hj=>h j (K4 _) hj⟩
  ·rw[Wy (by omega)]
   exact .inr ⟨rfl,fun q=>hl q.1⟩
 ·rw[show((0:Nat):Int)=0 from rfl]at e
  rw[e,bs];exact .inr ⟨rfl,fun q=>h (q.2 i hi)⟩
theorem zRu{n:Int}{w:List Int}(hn:0<=n/\n<=4)(hw:w.length<=2000000):IsB (zYb n w) (WdI n w):=by
 unfold zYb
 by_cases hl:w.length<=64
 ·rw[Wy (by omega),zL]
  rcases chk (body:=zNk n w) w.length 0 (K4 _) (fun i=>Lt n (at0 w i)) (fun _=>Wx) (fun i _ hi _=>by
    unfold zNk;rw[xD hi,zK,xM hi,bs]
    by_cases h0:at0 w i=0
    ·rw[h0,beq_self_eq_true,zK]
     exact .inr ⟨rfl,fun h=>h.1 rfl⟩
    ·rw[zCK h0,zL,bs,zB,bs]
     rcases zCC (at0 w i) (0-n) n with⟨e,q⟩|⟨e,q⟩
     ·rw[e,bs,K7,zL,zB,bs]
      exact .inl ⟨rfl,h0,by omega,q.2⟩
     ·rw[e,bs,Ko,zK]
      exact .inr ⟨rfl,fun h=>q ⟨by have:=h.2.1;omega,h.2.2⟩⟩) (by
    unfold zNk;rw[wX,zL])with⟨e,h⟩|⟨i,_,hi,e,h⟩
  ·rw[show((0:Nat):Int)=0 from rfl]at e
   rw[e,bs];exact .inl ⟨rfl,hl,fun j hj=>h j (K4 _) hj⟩
  ·rw[show((0:Nat):Int)=0 from rfl]at e
   rw[e,bs];exact .inr ⟨rfl,fun q=>h (q.2 i hi)⟩
 ·rw[Wz,zK]
  exact .inr ⟨rfl,fun q=>hl q.1⟩
theorem zXz{F:yF}(h:SFp F):IsB (zXV F) (yA6 F):=by
 obtain⟨h1,h2,h3⟩:=h;have hw:∀i,i<F.zW.length->(F.zW.getD i []).length<=2000000:=fun i hi=>h3 _ (by rw[J2,J3 hi];exact Jp hi)
 unfold zXV;rcases zAd F.Gens 0 4 with⟨e,q⟩|⟨e,q⟩
 ·rw[e,bs,K7,zL]
  by_cases hl:F.zW.length<=12
  ·rw[Wy (by omega),zL]
   unfold yAN yAM;rcases zAd F.Gens 0 6 with⟨e6,_⟩|⟨_,q6⟩
   ·rw[e6,bs,bs,K7,zL]
    rcases chk (body:=zNi F.Gens F.zW) F.zW.length 0 (K4 _) (fun i=>WdI F.Gens (F.zW.getD i [])) (fun _=>(1:Int)) (fun i _ hi _=>by
      unfold zNi;rw[xD hi,zK,yS [] hi,bs];rcases zRt q (hw i hi)with⟨e,r⟩|⟨e,r⟩
      ·rw[e,bs,K7,zL,zB,bs]
       exact .inl ⟨rfl,r⟩
      ·rw[e,bs,Ko,zK]
       exact .inr ⟨rfl,r⟩) (by
      unfold zNi;rw[wX,zL])with⟨e,r⟩|⟨i,_,hi,e,r⟩
    ·rw[show((0:Nat):Int)=0 from rfl]at e
     rw[e,bs];exact .inl ⟨rfl,q,hl,fun i hi=>r i (K4 _) hi⟩
    ·rw[show((0:Nat):Int)=0 from rfl]at e
     rw[e,bs];exact .inr ⟨rfl,fun s=>r (s.2.2 i hi)⟩
   ·exact absurd (by omega) q6
  ·rw[Wz,zK]
   exact .inr ⟨rfl,fun s=>hl s.2.1⟩
 ·rw[e,bs,Ko,zK]
  exact .inr ⟨rfl,fun s=>q s.1⟩
theorem zX0{F:yF}(h:SFp F):IsB (zYc F) (yA6 F):=by
 obtain⟨h1,h2,h3⟩:=h;have hw:∀i,i<F.zW.length->(F.zW.getD i []).length<=2000000:=fun i hi=>h3 _ (by rw[J2,J3 hi];exact Jp hi)
 unfold zYc;rcases zCC F.Gens 0 4 with⟨e,q⟩|⟨e,q⟩
 ·rw[e,bs,K7,zL]
  by_cases hl:F.zW.length<=12
  ·rw[Wy (by omega),zL]
   rcases chk (body:=zNl F) F.zW.length 0 (K4 _) (fun i=>WdI F.Gens (F.zW.getD i [])) (fun _=>Wx) (fun i _ hi _=>by
     unfold zNl;rw[xD hi,zK,yS [] hi,bs];rcases zRu q (hw i hi)with⟨e,r⟩|⟨e,r⟩
     ·rw[e,bs,K7,zL,zB,bs]
      exact .inl ⟨rfl,r⟩
     ·rw[e,bs,Ko,zK]
      exact .inr ⟨rfl,r⟩) (by
     unfold zNl;rw[wX,zL])with⟨e,r⟩|⟨i,_,hi,e,r⟩
   ·rw[show((0:Nat):Int)=0 from rfl]at e
    rw[e,bs];exact .inl ⟨rfl,q,hl,fun i hi=>r i (K4 _) hi⟩
   ·rw[show((0:Nat):Int)=0 from rfl]at e
    rw[e,bs];exact .inr ⟨rfl,fun s=>r (s.2.2 i hi)⟩
  ·rw[Wz,zK]
   exact .inr ⟨rfl,fun s=>hl s.2.1⟩
 ·rw[e,bs,Ko,zK]
  exact .inr ⟨rfl,fun s=>q s.1⟩
section
variable (y:SPr) (im:Nat->List Int)
def inG(F:Mx)(i:Nat):Nat->Mx
 |0=>F
 |k+1=>adF (inG F i k) (mul (suf y 0) (F.getD i []) (im k))
def wR(W N:Nat):Nat->Mx
 |0=>[zeros W]
 |i+1=>inG y im (wR W N i) i N
theorem zLd(F:Mx)(i:Nat):∀k,∃G,inG y im F i k=F++G
 |0=>⟨[],by simp[inG]⟩
 |k+1=>by obtain⟨G,hG⟩:=zLd F i k;obtain⟨H,hH⟩:=zXx (inG y im F i k) (mul (suf y 0) (F.getD i []) (im k));exact⟨G++H,by rw[inG,hH,hG,Jg]⟩
theorem zJH(W N i:Nat):∀d,∃G,wR y im W N (i+d)=wR y im W N i++G
 |0=>⟨[],by simp⟩
 |d+1=>by obtain⟨G,hG⟩:=zJH W N i d;obtain⟨H,hH⟩:=zLd y im (wR y im W N (i+d)) (i+d) N;exact⟨G++H,by rw[show i+(d+1)=(i+d)+1 from rfl,wR,hH,hG,Jg]⟩
end
def GOk(S:Vec->Prop)(F:Mx):Prop:=F.Nodup/\ ∀v∈F,S v
theorem yA7{S:Vec->Prop}(h:GOk S F)(hy:S y):GOk S (adF F y):=by
 unfold adF;split
 ·exact h
 ·rename_i hn
  refine⟨List.nodup_append.2 ⟨h.1,by simp,fun a ha b hb e=>?_⟩,fun v hv=>?_⟩
  ·simp only[List.mem_singleton]at hb
   exact hn (by rw[<-hb,<-e];exact ha)
  ·rcases Ji.1 hv with q|q
   ·exact h.2 v q
   ·simp only[List.mem_singleton]at q
    rw[q];exact hy
theorem zUP{p:Int}(hp:Prime p)(i:Nat):∀d,p ^ i<=p ^ (i+d)
 |0=>Int.le_refl _
 |d+1=>by have h2:=hp.pos;have:=zUP hp i d;have hq:0<p ^ (i+d):=Int.pow_pos (by omega);rw[show i+(d+1)=(i+d)+1 from rfl,Qzy];have:=Qd (show 1<=p by omega) (show 0<=p ^ (i+d)by omega);omega
section
variable {y:SPr} (h:Pres y) (hc:xS (suf y 0)) {p:Int} (hp:Prime p) {W:Nat} (hW:y.zA.length=W) (gT:∀i,i<W->at0 y.zA i=p) {N:Nat}{im:Nat->List Int} (eI:∀k,k<N->V (suf y 0) (im k))
 include h hc hW
theorem zV:V (suf y 0) (zeros W):=by
 have _:=hc;have:=xT (h.okAt (k:=0) (by omega))
 rwa [yC,Li,hW]at this
 include gT
theorem zX1{v:Vec}(hv:V (suf y 0) v):Row p W v:=by
 have hl:=qE hv;rw[yC,Li,hW]at hl;refine⟨hl,fun i hi=>?_⟩;have:=(zCg h hc).r hv (show i<y.zA.length by omega);have:=gT i hi;omega
 omit hW gT hc
 include eI
theorem zLe{F:Mx}(hF:GOk (V (suf y 0)) F){i:Nat}(hi:i<F.length):∀k,k<=N->GOk (V (suf y 0)) (inG y im F i k)
 |0,_=>hF
 |k+1,hk=>yA7 (zLe hF hi k (by omega)) (yT (h.okAt (k:=0) (by omega)) (hF.2 _ (by rw[J2,J3 hi];exact Jp hi)) (eI k (by omega)))
 include hc hW
theorem zFm(hi:∀j,j<i->j<(wR y im W N j).length):GOk (V (suf y 0)) (wR y im W N i):=by
 induction i with
 |zero=>exact⟨by simp[wR],fun v hv=>by simp only[wR,List.mem_singleton]at hv;rw[hv];exact zV h hc hW⟩
 |succ i ih=>exact zLe h eI (ih fun j hj=>hi j (by omega)) (hi i (by omega)) N (J9 _)
 include gT hp
theorem zUQ(hP:p ^ W<=128):∃n,(wR y im W N n).length=n/\(∀i,i<n->i<(wR y im W N i).length)/\n<=128:=by
 have h2:=hp.pos;have fR:∀i,(∀j,j<i->j<(wR y im W N j).length)->((wR y im W N i).length:Int)<=p ^ W:=fun i hi=>by have q:=zFm h hc hW eI hi;exact zQi h2.1 q.1 fun v hv=>zX1 h hc hW gT (q.2 v hv)
 have cE:∃i,i<=128/\(wR y im W N i).length<=i:=by
  refine Classical.byContradiction fun hn=>?_
  have cu:∀j,j<=128->j<(wR y im W N j).length:=fun j hj=>Classical.byContradiction fun q=>hn ⟨j,hj,by omega⟩
  have:=fR 128 fun j hj=>cu j (by omega)
  have:=cu 128 (by omega);omega
 obtain⟨i0,iw,tq⟩:=cE;obtain⟨n,n1,n2,n3⟩:=zCm (P:=fun n=>(wR y im W N n).length<=n) i0 tq;have hn3:∀i,i<n->i<(wR y im W N i).length:=fun i hi=>by have:=n3 i hi;omega
 have:(wR y im W N n).length=n:=by
  cases n with
  |zero=>simp[wR]at n2
  |succ m=>
   have:=hn3 m (by omega);obtain⟨G,hG⟩:=zJH y im W N m 1;rw[hG,J5]at n2 ⊢
   omega
 exact⟨n,this,hn3,by omega⟩
end
end Go.Pl
