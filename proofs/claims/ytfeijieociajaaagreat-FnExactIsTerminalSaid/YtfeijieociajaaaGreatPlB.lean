/- The program's IsTerminal returns what the reference's returns,for all arguments;no conditions. -/
import Derived.Test.YtfeijieociajaaaGreatPlA
open List renaming replicate→J1,getD_eq_getElem?_getD→J2,getElem?_eq_getElem→J3,length_append→J5,length_cons→J7,mem_cons→J9,mem_append→Ja,length_singleton→Jb,mem_map→Jc,range→Jd,length_map→Jf,append_assoc→Jg,append_nil→Jh,length_replicate→Jk,getElem?_append_right→Jm,replicate_append_replicate→Jn,take_left'→Jr,length_nil→Jt,map_cons→Ju,replicate_succ→Jv,getElem?_map→Jw,take_of_length_le→Jx,nil_append→Jz,drop_left'→K0,getElem?_append_left→K1,getElem?_replicate→K4,take_succ_eq_append_getElem→K5,map_append→K6,cons_append→K9,take_zero→Kc,length_take→Kd,eq_nil_of_length_eq_zero→Ke,reverse_reverse→Kh,length_drop→Kk,drop_append_of_le_length→Ks,ext_getElem?→Kx,take_succ_cons→Ky,range_succ→Kz,map_nil→La,getElem?_eq_none→Lf,mem_range→Lh,drop_replicate→Lj,take_length→Lm,replicate_succ'→Lv,getElem?_drop→Lx,replicate_zero→Lz,eq_of_mem_replicate→H1,mem_iff_getElem→H3,drop_eq_getElem_cons→Hq,flatten_cons→Hr,reverse_cons→G8,foldl_cons→Ga,getD_cons_zero→Gp,foldl_append→Gv,getElem?_take_of_lt→Gy,flatMap_append→U5,set_append_right→U6,drop_zero→Uf,flatten_append→Uk,drop_of_length_le→Uo,getElem?_replicate_of_lt→Us,map_congr_left→Uu,length→Qd,append_cancel_left→Qu,range_succ_eq_map→Qy,mem_of_mem_head?→Ja4,take→Ja9,cons→Jae,mem_flatten→Jaz,map_map→Jb1,head?_cons→Jba,getElem?_cons_succ→Jbb
open Int renaming toNat_natCast->J8,emod_eq_of_lt->Jp,mul_emod->Jy,emod_emod->K3,add_emod->Ka,emod_lt_of_pos->Kg,emod_nonneg->Kj,zero_add->Ko,mul_one->L6,add_zero->L7,mul_zero->Ln,tmod_eq_emod_of_nonneg->Hg,natCast_add->Hn,one_mul->Gs,toNat_zero->Gu,mul_comm->Gz,mul_assoc->U2,mul_nonneg->Ul,natCast_mul->Up,add_emod_right->Uv,zero_mul->qb9,sub_emod->Qe,add_mul_emod_self_left->Qp,toNat_of_nonneg->Ja1,emod_self->Jap,sub_self->Jbc,add_mul->Jbp
open Nat renaming le_refl->Je,zero_add->Ji,lt_or_ge->Jo,mul_le_mul->Jq,succ_mul->K8,mul_le_mul_right->Kb,sub_self->Kn,zero_le->Lb,add_sub_cancel_left->H4,add_assoc->Ha,lt_trichotomy->G1,add_zero->Um,lt_of_not_le->Jac,lt_irrefl->Jam,le_mul_of_pos_right->Jav,eq_zero_or_pos->Jaw
open Bool renaming not_true->L5,not_false->H5
open Option renaming some->Hm
open Option renaming some->jd,none->je
open Bool renaming true->jf,false->jg
namespace Go.Pl
open Go Go.Ab Go.Wk Go.Pc
variable {m c k i j D a N q:Nat}{d y e y1 y2:Vec}{pv:Nat->Nat}{x:SPr}{r u:List Int}{xs A:Mx}{β:Type}{C:Prop}{f:Nat->Int}{Z:Vec->Prop}{t1 t2:List (Nat×List Nat)}
theorem Red.empty{p:Int}{n:Nat}:Red p n [] (fun _=>0):=⟨by simp,by simp,by simp,by simp,by simp,by simp⟩
theorem zRG.take{p:Int}{n:Nat}{rows:Mx}{M:Mx}{d:Nat}(h:zRG p n m rows c M d pv)(d5:c<=n)(hz:∀k,d<=k->k<m-> ∀j,j<n->ent M k j=0):Red p n (M.take d) pv/\qQ p n (M.take d) rows:=by
 have hl:(M.take d).length=d:=by rw[Kd,h.len];exact Nat.min_eq_left h.dm
 have hg:∀i,i<d->(M.take d).getD i []=M.getD i []:=by grind
 have dm:=h.dm;refine⟨⟨fun i hi=>?_,fun i hi=>?_,fun i hi=>?_,fun i hi j hj=>?_,fun i k hi hk gc=>?_,fun i j gI hj=>?_⟩,qQ.trans ⟨fun i hi=>?_,fun i hi=>?_⟩ h.sp⟩
 ·rw[hl]at hi;rw[hg i hi];exact h.row i (by omega)
 ·rw[hl]at hi;have:=h.lt i hi;omega
 ·rw[hl]at hi;simp only[ent,hg i hi];exact h.one i hi
 ·rw[hl]at hi;simp only[ent,hg i hi];exact h.low i hi j hj
 ·rw[hl]at hi hk;simp only[ent,hg k hk];exact h.off i k hi (by omega) gc
 ·rw[hl]at hj;exact h.mono i j gI hj
 ·grind[uO]
 ·rw[h.len]at hi
  rcases Jo i d with g|g
  ·grind[uO]
  ·exact zA5 fun j hj=>by simp_all
section
variable {p:Int} (hp:Prime p) {n:Nat}{rows:Mx} (hn:n<=100000) (hm:rows.length<=600000) (hr:∀i,i<rows.length->Row p n (rows.getD i []))
 include hp hn hm hr
theorem zMB:∃R pv,f_i p rows=jd R/\Red p n R pv/\qQ p n R rows:=by
 have h7:=hp.pos;unfold f_i;rw[zIA (by omega) (fun i hi=>by have:=(hr i hi).1;omega),bs];have main:=wV (body:=zP3 p) (s:=(rows,0,0)) (Q:=fun r=> ∃(M:Mx)(d:Nat)(pv:Nat->Nat),r=(M,(d:Int))/\d<=M.length/\Red p n (M.take d) pv/\qQ p n (M.take d) rows)
  (fun i s=> ∃(M:Mx)(d:Nat)(pv:Nat->Nat),s=(M,(d:Int),(i:Int))/\zRG p n rows.length rows i M d pv/\i<=n) n (fun c s hc hI=>?_) (fun s hI=>?_) ⟨rows,0,fun _=>0,rfl,⟨rfl,hr,Lb _,fun _ h=>by omega,fun _ h=>by omega,fun _ h=>by omega,fun _ _ h=>by omega,fun _ _ _ h=>by omega,fun _ _ _ _ h=>by omega,qQ.refl⟩,Lb _⟩
 ·obtain⟨r,h1,M,d,pv,rfl,hd,hR,hS⟩:=main
  rw[h1,bs];simp only
  have e:zR M 0 (d:Int)=jd (M.take d):=by unfold zR;rw[if_pos ⟨by omega,by omega,by omega⟩];simp
  rw[e,bs];exact⟨_,_,rfl,hR,hS⟩
 ·
  obtain⟨M,d,pv,rfl,h,d5⟩:=hI;have hl:=h.len;have pJ:=h.dm
  by_cases h0:rows.length=0
  ·refine .inr ⟨(M,(d:Int)),?_,M,d,pv,rfl,by omega,h.take d5 fun k hk eZ=>by omega⟩
   unfold zP3;simp only
   rw[jh (by omega),zJ]
  have e0:zP3 p (M,(d:Int),(c:Int))=cond (decide ((d:Int)<(M.length:Int))) ((zG (zII (M,(d:Int),(c:Int))) (d:Int)).bind fun r6=>
    cond (r6==(M.length:Int)) ((rng ((c:Int)+1)).bind fun v7=>jd (.inl (M,(d:Int),v7))) (
     (ixO M r6).bind fun v8=>(ixO M (d:Int)).bind fun v9=>(ixO (qY M (d:Int) r6 v8 v9) (d:Int)).bind fun v10=>(ixO v10 (c:Int)).bind fun v11=>(zN0 v11 p).bind fun r12=>
     (ixO (qY M (d:Int) r6 v8 v9) (d:Int)).bind fun v13=>(zG (zN1 p (M,(d:Int),(c:Int)) r12 v13) (qY M (d:Int) r6 v8 v9,0)).bind fun r21=>
     (zG (zP2 p (M,(d:Int),(c:Int)) r21) (r21,0)).bind fun r30=>(rng ((d:Int)+1)).bind fun v31=>(rng ((c:Int)+1)).bind fun v32=>jd (.inl (r30,v31,v32)))) (jd (.inr (M,(d:Int)))):=by
   unfold zP3;simp only
   have hx:ixO M (0:Int)=jd (M.getD 0 []):=by have:=yA (v:=M) (i:=0) [];exact this
   rw[ji,zH,hx];simp only[bs];rw[(h.row 0 (by omega)).1,yS hc,zH]
  rcases Jo d rows.length with hd|hd
  ·obtain⟨t,t1,t2,t3,t4,t5⟩:=zRH (M:=M) (d:=d) (c:=c) (m:=rows.length) (n:=n) hl pJ (by omega) (fun i hi=>(h.row i hi).1) hc
   rw[e0,hl,yS hd,zH,t3];simp only[bs]
   by_cases aj:t=rows.length
   ·
    left;refine⟨(M,(d:Int),((c+1:Nat):Int)),?_,M,d,pv,rfl,⟨hl,h.row,pJ,fun i hi=>by have:=h.lt i hi;omega,h.one,h.low,h.off,h.mono,fun k k1 k2 j hj=>?_,h.sp⟩,by omega⟩
    ·rw[zQB,zH,zB,bs,cs]
    ·rcases Jo j c with g|g
     ·exact h.zero k k1 k2 j g
     ·rw[show j=c from by omega];exact t4 k k1 (by omega)
   ·have eM:t<rows.length:=by omega
    have gc:=t5 eM;have fh:=h.row t eM;have hrc:=fh.2 c hc;obtain⟨q,q1,q2,q3,q4⟩:=zB5 (p:=p) (x:=ent M t c) hp (by simp only[ent]at gc ⊢;omega) (by simp only[ent];omega);left;have hM:M=mkR rows.length (fun i=>M.getD i []):=zUw hl;obtain⟨F,hF⟩:∃F:Nat->List Int,∀i,F i=if i=t then M.getD d []else if i=d then M.getD t []else M.getD i []:=⟨_,fun _=>rfl⟩
    have bU:qY M (d:Int) (t:Int) (M.getD t []) (M.getD d [])=mkR rows.length F:=by
     unfold qY;rw[J8,J8]
     conv=>lhs;rw[hM]
     rw[zG2,zG2];exact jI fun i hi=>by rw[hF,jS hd,jS eM]
    have mu:∀i,i<rows.length->Row p n (F i):=fun i hi=>by
     rw[hF];split
     ·exact h.row d hd
     ·split
      ·exact fh
      ·exact h.row i hi
    have hFd:F d=M.getD t []:=by
     rw[hF]
     by_cases e:d=t
     ·rw[if_pos e,e]
     ·rw[if_neg e,if_pos rfl]
    obtain⟨G,hG⟩:∃G:Nat->List Int,∀i,G i=if i=d then mkv n fun j=>(at0 (F d) j*q)%p else F i:=⟨_,fun _=>rfl⟩
    have hGd:G d=mkv n fun j=>(ent M t j*q)%p:=by rw[hG,if_pos rfl,hFd]
    have hGo:∀i,i≠d->G i=if i=t then M.getD d []else M.getD i []:=fun i eF=>by rw[hG,if_neg eF,hF];simp only[eF,if_false]
    have bV:zG (zN1 p (M,(d:Int),(c:Int)) (q,jf) (M.getD t [])) (mkR rows.length F,0)=jd (mkR rows.length G):=by
     rw[zO6 hp (F:=F) hd (mu d hd) (by omega) ⟨q2,q3⟩ fh.1 rfl]
     congr 1
     exact jI fun i _=>(hG i).symm
    have hF3:∀i,i<rows.length->Row p n (G i):=fun i hi=>by
     rw[hG];split
     ·refine⟨zU _ _,fun j hj=>?_⟩
      have e1:=Kj (at0 (F d) j*q) (show p≠0 by omega);have e2:=Kg (at0 (F d) j*q) (show 0<p by omega);rw[zW hj];omega
     ·exact mu i hi
    have gy:=zO7 hp (c:=c) (F:=G) hd hc hF3 (by omega) (by omega) (r21:=mkR rows.length G) tW (s:=(M,(d:Int),(c:Int))) rfl rfl;rw[zMA,zJ,yA [],yA []];simp only[bs];rw[bU,zKC hd,hFd];simp only[bs];rw[yK (by rw[fh.1];exact hc)];simp only[bs];rw[show at0 (M.getD t []) c=ent M t c from rfl,q1];simp only[bs];rw[bV];simp only[bs];rw[gy];simp only[bs];rw[zB,zB];simp only[bs,cs];have br:=h.pivot hp hc hd t1 eM gc q4;refine⟨_,rfl,_,d+1,fun i=>if i=d then c else pv i,rfl,?_,by omega⟩;have e3:(mkR rows.length fun i=>if i=d then G d else uN p n (G i) (0-at0 (G i) c) (G d))=(mkR rows.length fun i=>if i=d then mkv n fun j=>(ent M t j*q)%p else uN p n (if i=t then M.getD d []else M.getD i []) (0-at0 (if i=t then M.getD d []else M.getD i []) c) (mkv n fun j=>(ent M t j*q)%p)):=by
     refine jI fun i hi=>?_
     rw[hGd]
     by_cases eF:i=d
     ·rw[if_pos eF,if_pos eF]
     ·rw[if_neg eF,if_neg eF,hGo i eF]
    rw[e3];exact br
  ·
   refine .inr ⟨(M,(d:Int)),?_,M,d,pv,rfl,by omega,h.take d5 fun k hk eZ=>by omega⟩;rw[e0,jh (by omega),zJ]
 ·
  obtain⟨M,d,pv,rfl,h,d5⟩:=hI;have hl:=h.len;have pJ:=h.dm;refine⟨(M,(d:Int)),?_,M,d,pv,rfl,by omega,h.take d5 fun k hk eZ j hj=>h.zero k hk eZ j hj⟩;unfold zP3;simp only
  by_cases h0:rows.length=0
  ·rw[jh (by omega),zJ]
  ·have hx:ixO M (0:Int)=jd (M.getD 0 []):=by
    have:=yA (v:=M) (i:=0) [];exact this
   rw[ji,zH,hx];simp only[bs];rw[(h.row 0 (by omega)).1,tQ,zJ]
end
theorem zJ3{v:List Int}{n:Nat}(hl:v.length=n)(hn:n<=1000000:=by omega):∃k:Nat,k<=n/\f_I v=jd (k:Int)/\(∀j,j<k->at0 v j=0)/\(k<n->at0 v k≠0):=by
 unfold f_I;rcases chk (body:=zIJ v) n 0 (Lb _) (fun i=>at0 v i=0) (fun i=>(i:Int)) (fun i _ hi _=>by
   unfold zIJ;rw[hl,yS hi,zH,yK,bs]
   by_cases h:at0 v i=0
   ·rw[zCq h,zJ,zB,bs,cs];grind
   grind) (by
   unfold zIJ
   grind)with⟨h1,h2⟩|⟨i,_,hi,h1,h2⟩
 ·grind
 ·rw[show((0:Nat):Int)=0 from rfl]at h1
  rw[h1,bs];obtain⟨k,⟨hk1,eZ⟩,fc⟩:=zDk (p:=fun k=>k<n/\at0 v k≠0) ⟨i,hi,h2⟩;have hz:∀j,j<k->at0 v j=0:=by grind
  have hki:k=i:=by
   have eU:∀q,q<=k->zG (zIJ v) ((k-q:Nat):Int)=jd (.inr (k:Int)):=by
    intro q
    induction q with
    |zero=>
     intro _;rw[yP];have e:zIJ v ((k-0:Nat):Int)=jd (.inr (.inr (k:Int))):=by unfold zIJ;rw[show k-0=k from rfl,hl,yS hk1,zH,yK,bs,zDo eZ,zH]
     rw[e]
    |succ q ih=>
     intro hq;rw[yP];have e:zIJ v ((k-(q+1):Nat):Int)=jd (.inl ((k-q:Nat):Int)):=by unfold zIJ;rw[hl,yS,zH,yK,bs,zCq (hz _ (by omega)),zJ,zB,bs,cs,show k-(q+1)+1=k-q from by omega]
     grind
   have:=eU k (Je _)
   grind
  grind
theorem zKD{v:List Int}{n:Nat}(hl:v.length=n)(hn:n<=1000000)(hk:k<n)(h0:∀j,j<k->at0 v j=0)(h1:at0 v k≠0:=by omega):f_I v=jd (k:Int):=by grind[zJ3]
theorem zMC{p x:Int}(hp:Prime p)(h0:1<=x:=by omega)(h1:x<=p-1:=by omega):∃r,zW4 x p=jd r/\0<=r/\r<=p-1/\(x*r)%p=1:=by
 have h7:=hp.pos;have hx:∃k:Nat,1<=k/\(k:Int)<p/\(x*(k:Int))%p=1:=by
  obtain⟨r,_,r1,r2,r3⟩:=zB5 hp h0 h1;refine⟨r.toNat,?_,by omega,by grind⟩;rcases Int.lt_or_eq_of_le r1 with g|g
  ·omega
  ·rw[<-g]at r3;simp at r3
 obtain⟨k,⟨k1,k2,k3⟩,fc⟩:=zDk hx;have body:∀i:Nat,1<=i->(i:Int)<p->zN3 x p (i:Int)=cond ((x*(i:Int))%p==1) (jd (.inr (.inr (i:Int)))) (jd (.inl ((i+1:Nat):Int))):=fun i hi hip=>by
  have a3:=Ul (show 0<=x by omega) (show 0<=(i:Int)by omega);have a4:=zB2 hp (k:=(i:Int)) (by omega) (b:=x) ⟨by omega,h1⟩;rw[Gz]at a4;unfold zN3;rw[ji hip,zH,zM9 hp (by omega) (by omega),bs,Jp (by omega) (by omega),zB,bs];unfold vA;rw[if_neg (by omega),bs,Hg a3]
  by_cases hh:(x*(i:Int))%p=1
  ·grind
  ·rw[zMA hh,zJ,zJ,zB,bs,cs]
 have eU:∀q,q+1<=k->zG (zN3 x p) ((k-q:Nat):Int)=jd (.inr (k:Int)):=by
  intro q
  induction q with
  |zero=>
   intro _;rw[yP,show k-0=k from rfl,body k k1 k2,zQB k3,zH]
  |succ q ih=>
   intro hq;have gc:(x*((k-(q+1):Nat):Int))%p≠1:=by grind
   rw[yP,body _ (by omega) (by omega),zMA gc,zJ,show k-(q+1)+1=k-q from by omega]
   grind
 have:=eU (k-1) (by omega);rw[show k-(k-1)=1 from by omega,show((1:Nat):Int)=1 from rfl]at this
 grind[zW4]
section
variable {p:Int} (hp:Prime p) {n:Nat} (hn:n<=100000)
 include hp hn
theorem yBa{s:List Int}(hr:Row p n r):uN p n r p s=r:=by
 have _:=hp;have _:=hn
 conv=>rhs;rw[vE hr.1]
 refine zX fun j hj=>?_
 have:=hr.2 j hj;rw[Qp];exact Jp this.1 (by omega)
def cl(p:Int)(n:Nat)(out:Mx)(pv:Nat->Nat)(v:List Int):Nat->List Int
 |0=>v
 |i+1=>uN p n (cl p n out pv v i) (p-at0 (cl p n out pv v i) (pv i)) (out.getD i [])
variable {out:Mx}{pv:Nat->Nat} (h:Red p n out pv) {v:List Int} (hv:Row p n v)
 include h hv
theorem zKE:∀i,Row p n (cl p n out pv v i):=by
 have _:=hn;have _:=h;intro i;cases i with
 |zero=>exact hv
 |succ i=>exact qT hp
theorem yBb:∀i,i<=out.length-> ∀k,k<i->at0 (cl p n out pv v i) (pv k)=0:=by
 have _:=hn;have _:=hv;have h7:=hp.pos;intro i
 induction i with
 |zero=>simp
 |succ i ih=>
  intro hi k hk;have gC:=h.lt k (by omega);rw[cl,uN,zW gC];rcases Jo k i with g|g
  ·have h1:=ih (by omega) k g
   have h2:=h.off k i (by omega) (by omega) (by omega)
   simp_all
  ·have hki:k=i:=by omega
   subst hki;have h2:=h.one k (by omega);simp only[ent]at h2;rw[h2,L6,show at0 (cl p n out pv v k) (pv k)+(p-at0 (cl p n out pv v k) (pv k))=p from by omega,Jap]
theorem zQC:∀i,i<=out.length-> ∃cf:Nat->Int,∀j,j<n->at0 (cl p n out pv v i) j%p=(at0 v j+S out.length fun k=>cf k*ent out k j)%p:=by
 have _:=hp;have _:=h;have _:=hv;have _:=hn;intro i
 induction i with
 |zero=>intro _;exact⟨fun _=>0,fun j _=>by rw[xT (g:=fun _=>0) (fun i _=>by simp),sW,L7];rfl⟩
 |succ i ih=>
  intro hi;obtain⟨cf,c7⟩:=ih (by omega);refine⟨fun k=>cf k+(if k=i then p-at0 (cl p n out pv v i) (pv i)else 0),fun j hj=>?_⟩;have e1:(S out.length fun k=>(cf k+(if k=i then p-at0 (cl p n out pv v i) (pv i)else 0))*ent out k j)=(S out.length fun k=>cf k*ent out k j)+(p-at0 (cl p n out pv v i) (pv i))*ent out i j:=by rw[xT (g:=fun k=>cf k*ent out k j+(if k=i then p-at0 (cl p n out pv v i) (pv i)else 0)*ent out k j) (by grind),zCw,kF (f:=fun k=>(if k=i then p-at0 (cl p n out pv v i) (pv i)else 0)*ent out k j) (k:=i) (by omega) (by grind)];simp
  rw[e1,cl,uN,zW hj,K3,<-Int.add_assoc,Ka,c7 j hj,<-Ka]
theorem zHB(hm:out.length<=100000):zSt p out v=jd (cl p n out pv v out.length):=by
 have h7:=hp.pos;unfold zSt;rw[tE (by rw[hv.1];omega),bs];have:=zN (body:=zN2 p out) (r:=cl p n out pv v out.length) (fun i=>(cl p n out pv v i,(i:Int))) out.length (fun i hi=>by
  have hr:=zKE hp hn h hv i;have ho:=h.row i hi;have gC:=h.lt i hi;have gk:=h.one i hi;have fK:=h.low i hi;simp only[ent]at gk fK;have he:=hr.2 (pv i) gC;unfold zN2;simp only
  rw[yS hi,zH,yA [] hi,bs,zKD ho.1 (by omega) gC fK,bs,hr.1,yS gC,zH,yK (by rw[hr.1];exact gC),bs]
  by_cases hz:at0 (cl p n out pv v i) (pv i)=0
  ·rw[zCq hz,zJ,zB,bs,cs,cl,hz,Int.sub_zero,yBa hp hn hr]
  ·rw[zDo hz,zH,bs,zB,bs,bs,uR hp hr ho (by omega) (by omega),bs,zB,bs,cs]
   rfl) (by
  unfold zN2;simp)
 rw[show((0:Nat):Int)=0 from rfl]at this
 grind[cl]
end
section
variable {p:Int} (hp:Prime p) {n:Nat}{out:Mx}{pv:Nat->Nat} (h:Red p n out pv) {u:List Int}{k q:Nat} (hu:Row p n u) (hk:k<n) (u1:at0 u k=1) (ul:∀j,j<k->at0 u j=0) (up:∀i,i<out.length->at0 u (pv i)=0) (hq:q<=out.length) (q1:∀i,i<q->pv i<k) (q2:∀i,q<=i->i<out.length->k<pv i)
def oth(p:Int)(n:Nat)(out:Mx)(u:List Int)(k i:Nat):List Int:=uN p n (out.getD i []) (p-at0 (out.getD i []) k) u
def sA(p:Int)(n:Nat)(out:Mx)(u:List Int)(k q i:Nat):List Int:=if i<q then oth p n out u k i else if i=q then u else oth p n out u k (i-1)
def zXT(pv:Nat->Nat)(k q i:Nat):Nat:=if i<q then pv i else if i=q then k else pv (i-1)
 include hp h hu hk u1 ul up hq q1 q2
theorem zO8(hj:j<n):at0 (oth p n out u k i) j=(at0 (out.getD i []) j-at0 (out.getD i []) k*at0 u j)%p:=by have _:=hp;have _:=h;have _:=hu;have _:=hk;have _:=u1;have _:=ul;have _:=up;have _:=hq;have _:=q1;have _:=q2;rw[oth,uN,zW hj,show at0 (out.getD i []) j+(p-at0 (out.getD i []) k)*at0 u j=at0 (out.getD i []) j-at0 (out.getD i []) k*at0 u j+p*at0 u j from by grind,Qp]
theorem zE4(hi:i<out.length)(hj:j<n)(hz:at0 (out.getD i []) k=0\/at0 u j=0):at0 (oth p n out u k i) j=ent out i j:=by
 rw[zO8 hp h hu hk u1 ul up hq q1 q2 hj];have:=(h.row i hi).2 j hj;have e:at0 (out.getD i []) k*at0 u j=0:=by grind
 rw[e,Int.sub_zero];exact Jp this.1 (by omega)
theorem yDA:at0 (oth p n out u k i) k=0:=by rw[zO8 hp h hu hk u1 ul up hq q1 q2 hk,u1,L6,Jbc];rfl
theorem zXU(hi:i<out.length)(hj:j<pv i)(gc:pv i≠k):at0 (oth p n out u k i) j=0:=by
 have gC:=h.lt i hi;rcases Jo (pv i) k with g|g
 ·rw[zE4 hp h hu hk u1 ul up hq q1 q2 hi (by omega) (by grind)];exact h.low i hi j hj
 ·have:=h.low i hi k (by omega)
  rw[zE4 hp h hu hk u1 ul up hq q1 q2 hi (by omega) (.inl this)];exact h.low i hi j hj
theorem yDB(hi:i<out.length):pv i≠k:=by have _:=hp;have _:=h;have _:=hu;have _:=hk;have _:=ul;have _:=hq;have _:=q1;have _:=q2;grind
theorem zJ4(hi:i<out.length+1):(i=q/\sA p n out u k q i=u/\zXT pv k q i=k)\/ ∃a,a<out.length/\(i<q/\a=i\/q<i/\i=a+1)/\sA p n out u k q i=oth p n out u k a/\zXT pv k q i=pv a:=by
 have _:=hp;have _:=h;have _:=hu;have _:=hk;have _:=u1;have _:=ul;have _:=up;have _:=q1;have _:=q2;unfold sA zXT
 grind
theorem zO9:Red p n (mkR (out.length+1) (sA p n out u k q)) (zXT pv k q):=by
 have nc:=fun i hi=>zJ4 hp h hu hk u1 ul up hq q1 q2 (i:=i) hi
 have pn:=fun i hi=>yDB hp h hu hk u1 ul up hq q1 q2 (i:=i) hi
 refine⟨fun i hi=>?_,fun i hi=>?_,fun i hi=>?_,fun i hi j hj=>?_,fun i j hi hj gc=>?_,fun i j gI hj=>?_⟩<;>rw[tW]at*
 ·rw[jS hi]
  rcases nc i hi with⟨_,e,_⟩|⟨a,_,_,e,_⟩<;>rw[e]
  ·exact hu
  ·exact qT hp
 ·rcases nc i hi with⟨_,_,e⟩|⟨a,ha,_,_,e⟩<;>rw[e]
  ·exact hk
  ·exact h.lt a ha
 ·rw[zE3 hi]
  rcases nc i hi with⟨_,e1,e2⟩|⟨a,ha,_,e1,e2⟩<;>rw[e1,e2]
  ·exact u1
  ·rw[zE4 hp h hu hk u1 ul up hq q1 q2 ha (h.lt a ha) (.inr (up a ha))];exact h.one a ha
 ·rw[zE3 hi]
  rcases nc i hi with⟨_,e1,e2⟩|⟨a,ha,_,e1,e2⟩<;>rw[e2]at hj<;>rw[e1]
  ·grind
  ·exact zXU hp h hu hk u1 ul up hq q1 q2 ha hj (pn a ha)
 ·rw[zE3 hj]
  rcases nc i hi with⟨g1,_,e2⟩|⟨a,ha,ga,_,e2⟩<;>rw[e2]<;>rcases nc j hj with⟨g3,e3,_⟩|⟨b,hb,gb,e3,_⟩<;>rw[e3]
  ·omega
  ·exact yDA hp h hu hk u1 ul up hq q1 q2
  ·grind
  ·rw[zE4 hp h hu hk u1 ul up hq q1 q2 hb (h.lt a ha) (.inr (up a ha))]
   exact h.off a b ha hb (by omega)
 ·rcases nc i (by omega)with⟨g1,_,e2⟩|⟨a,ha,ga,_,e2⟩<;>rw[e2]<;>rcases nc j hj with⟨g3,_,e4⟩|⟨b,hb,gb,_,e4⟩<;>rw[e4]
  ·omega
  ·grind
  ·grind
  ·exact h.mono a b (by omega) hb
theorem zRI:(∀i,i<out.length+1->Sp p n (out++[u]) (sA p n out u k q i))/\(∀i,i<out.length->Sp p n (mkR (out.length+1) (sA p n out u k q)) (out.getD i []))/\Sp p n (mkR (out.length+1) (sA p n out u k q)) u:=by
 have gT:Sp p n (out++[u]) u:=by
  have:=uO (p:=p) (n:=n) (R:=out++[u]) (i:=out.length) (by simp)
  grind
 have hol:∀i,i<out.length->Sp p n (out++[u]) (out.getD i []):=fun i hi=>by
  have:=uO (p:=p) (n:=n) (R:=out++[u]) (i:=i) (by simp;omega)
  grind
 have hoth:∀i,i<out.length->Sp p n (out++[u]) (oth p n out u k i):=fun i hi=>
  jH (k:=p-at0 (out.getD i []) k) (hol i hi) gT (by grind[oth,uN,zW,K3])
 have ar:Sp p n (mkR (out.length+1) (sA p n out u k q)) u:=by have:=zB6 (p:=p) (n:=n) (m:=out.length+1) (F:=sA p n out u k q) (i:=q);rw[show sA p n out u k q q=u from by unfold sA;simp]at this;exact this
 refine⟨fun i hi=>?_,fun i hi=>?_,ar⟩
 ·rcases zJ4 hp h hu hk u1 ul up hq q1 q2 hi with⟨_,e,_⟩|⟨a,ha,_,e,_⟩<;>rw[e]
  all_goals grind
 ·have eR:∃b,b<out.length+1/\sA p n out u k q b=oth p n out u k i:=by
   rcases Jo i q with g|g
   ·exact⟨i,by omega,by unfold sA;grind⟩
   ·exact⟨i+1,by omega,by unfold sA;grind⟩
  obtain⟨b,hb,e⟩:=eR;have h1:=zB6 (p:=p) (n:=n) (m:=out.length+1) (F:=sA p n out u k q) hb;rw[e]at h1;refine jH (k:=at0 (out.getD i []) k) h1 ar fun j hj=>?_
  rw[zO8 hp h hu hk u1 ul up hq q1 q2 hj,Ka,K3,<-Ka,show at0 (out.getD i []) j-at0 (out.getD i []) k*at0 u j+at0 (out.getD i []) k*at0 u j=at0 (out.getD i []) j from by omega]
theorem zMD(hn:n<=100000)(hm:out.length<=100000){x:Int}:
  ((zG (zIK p (out,x) (k:Int) u) ([],jg,0)).bind fun r32=>cond (!r32.2) ((yI r32.1 [u]).bind fun v33=>jd v33) (jd r32.1))=jd (mkR (out.length+1) (sA p n out u k q)):=by
 have _:=u1;have _:=ul;have _:=up;have h7:=hp.pos;have ho:∀i,i<out.length->f_x p (out.getD i []) (p-at0 (out.getD i []) k) u=jd (oth p n out u k i)/\ixO (out.getD i []) (k:Int)=jd (at0 (out.getD i []) k)/\0<=at0 (out.getD i []) k/\at0 (out.getD i []) k<=p-1/\f_I (out.getD i [])=jd (pv i:Int):=fun i hi=>by have hr:=h.row i hi;have eZ:=hr.2 k hk;have gk:=h.one i hi;have fK:=h.low i hi;simp only[ent]at gk fK;exact⟨by rw[uR hp hr hu (by omega) (by omega)];rfl,yK (by rw[hr.1];exact hk),eZ.1,eZ.2,zKD hr.1 (by omega) (h.lt i hi) fK⟩
 have hsn:∀{m:Nat}{F:Nat->List Int},mkR m F++[F m]=mkR (m+1) F:=by grind[mkR,Kz]
 have:=zN (body:=zIK p (out,x) (k:Int) u) (r:=(if out.length<=q then(mkR out.length (sA p n out u k q),jg)else(mkR (out.length+1) (sA p n out u k q),jf)))
  (fun j=>if j<=q then(mkR j (sA p n out u k q),jg,(j:Int))else(mkR (j+1) (sA p n out u k q),jf,(j:Int))) out.length (fun j hj=>by
   obtain⟨a1,a2,a3,a4,a5⟩:=ho j hj;have u7:rng (p-at0 (out.getD j []) k)=jd (p-at0 (out.getD j []) k):=by grind[zB]
   rcases G1 j q with g|g|g
   ·have hpj:=q1 j g
    rw[if_pos (by omega),if_pos (by omega)];unfold zIK;simp only
    rw[yS hj,zH,H5,zH,yA [] hj];simp only[bs,a5];rw[jh (by omega),zJ,a2];simp only[bs,u7,a1];rw[zV (by rw[tW];simp;omega),bs,zB,bs,cs];have:sA p n out u k q j=oth p n out u k j:=by unfold sA;grind
    grind
   ·subst g
    have hpj:=q2 j (Je _) hj;rw[if_pos (by omega),if_neg (by omega)];unfold zIK;simp only
    rw[yS hj,zH,H5,zH,yA [] hj];simp only[bs,a5];rw[ji,zH,zV (by rw[tW];simp;omega),a2];simp only[bs,u7,a1];have e1:sA p n out u k j j=u:=by unfold sA;simp
    have e2:sA p n out u k j (j+1)=oth p n out u k j:=by unfold sA;grind
    have e3:mkR j (sA p n out u k j)++[u]=mkR (j+1) (sA p n out u k j):=by grind
    rw[e3,zV (by rw[tW];simp;omega),bs,zB,bs,cs,<-e2,hsn]
   ·rw[if_neg (by omega),if_neg (by omega)]
    unfold zIK;simp only
    rw[yS hj,zH,L5,zJ,yA [] hj];simp only[bs,a2,u7,a1];have e2:sA p n out u k q (j+1)=oth p n out u k j:=by unfold sA;rw[if_neg (by omega),if_neg (by omega)];rfl
    rw[zV (by rw[tW];simp;omega),bs,zB,bs,cs,<-e2,hsn]) (by
   by_cases g:out.length<=q
   ·rw[if_pos g,if_pos g]
    unfold zIK;simp
   ·rw[if_neg g,if_neg g]
    unfold zIK;simp)
 rw[if_pos (Lb _),show((0:Nat):Int)=0 from rfl,show mkR 0 (sA p n out u k q)=[]from rfl]at this;rw[this,bs]
 by_cases g:out.length<=q
 ·have e1:sA p n out u k q out.length=u:=by unfold sA;grind
  rw[if_pos g];simp only
  rw[H5,zH,zV (by rw[tW];simp;omega),bs]
  grind
 grind
end
theorem zOA{p:Int}{n:Nat}{R out:Mx}{cf:Nat->Int}(ho:∀i,i<out.length->Sp p n R (out.getD i []))(hu:∀j,j<n->at0 u j%p=(S out.length fun k=>cf k*ent out k j)%p):Sp p n R u:=
 sJ ho ⟨cf,by grind⟩
theorem Red.len_le{p:Int}{n:Nat}{R:Mx}(h:Red p n R pv):R.length<=n:=by
 have key:∀i,i<R.length->i<=pv i:=by
  intro i
  induction i with
  |zero=>simp
  |succ i ih=>
   intro hi;have h1:=ih (by omega);have h2:=h.mono i (i+1) (by omega) hi;omega
 rcases Jaw R.length with g|g
 ·omega
 ·have h1:=key (R.length-1) (by omega)
  have h2:=h.lt (R.length-1) (by omega);omega
theorem zCS{v:List Int}(h:i<xs.length:=by omega):(xs++[v]).getD i []=xs.getD i []:=by grind
theorem zCT{v:List Int}:(xs++[v]).getD xs.length []=v:=by simp
section
variable {p:Int} (hp:Prime p) {n:Nat} (hn:n<=100000)
 include hp hn
theorem zOB{w:List Int}(hw:Row p n w){r:Int}(h0:0<=r)(h1:r<=p-1):zYA p r w=jd (mkv n fun j=>(at0 w j*r)%p):=by
 have h7:=hp.pos;unfold zYA;rw[hw.1,yH,bs,uR hp (zF2) hw (by omega) (by omega),bs]
 congr 1
 refine zX fun j hj=>?_
 grind
variable {rows:Mx} (hm:rows.length<=600000) (hr:∀i,i<rows.length->Row p n (rows.getD i []))
 include hm hr
theorem zE5:∃R pv,f_q p rows=jd R/\(Red p n R pv/\R.length<=rows.length)/\qQ p n R rows:=by
 have h7:=hp.pos;unfold f_q;have main:=wV (body:=zSu p rows) (s:=([],0)) (Q:=fun R=> ∃pv,(Red p n R pv/\R.length<=rows.length)/\qQ p n R rows)
  (fun i s=> ∃(out:Mx)(pv:Nat->Nat),s=(out,(i:Int))/\Red p n out pv/\qQ p n out (rows.take i)/\out.length<=i/\i<=rows.length) rows.length (fun i s hi hI=>?_) (fun s hI=>?_) ⟨[],fun _=>0,rfl,Red.empty,by rw[Kc];exact qQ.refl,Lb _,Lb _⟩
 ·obtain⟨R,h1,pv,h2,h3⟩:=main
  rw[h1,bs];exact⟨R,pv,rfl,h2,h3⟩
 ·obtain⟨out,pv,rfl,h,hs,hl,_⟩:=hI
  have hon:out.length<=n:=h.len_le;left;have hv:=hr i hi;have hw:=zKE hp hn h hv out.length;have gy:=zHB hp hn h hv (by omega);have hpz:=yBb hp hn h hv out.length (Je _);obtain⟨cf,c7⟩:=zQC hp hn h hv out.length (Je _);obtain⟨k,k1,k2,k3,k4⟩:=zJ3 hw.1;have eE:rows.take (i+1)=rows.take i++[rows.getD i []]:=by rw[K5 hi,J2,J3 hi];rfl
  have bT:(rows.take i).length=i:=by rw[Kd];omega
  have fa:∀u,Sp p n (rows.take i) u->Sp p n (rows.take (i+1)) u:=fun u hu=>sJ (fun a ha=>by have:=uO (p:=p) (n:=n) (R:=rows.take (i+1)) (i:=a) (by rw[eE,J5];omega);rw[eE,zCS ha,<-eE]at this;exact this) hu
  have cX:Sp p n (rows.take (i+1)) (rows.getD i []):=by
   have:=uO (p:=p) (n:=n) (R:=rows.take (i+1)) (i:=i) (by rw[eE,J5,bT];simp);rw[eE]at this;have e:(rows.take i++[rows.getD i []]).getD i []=rows.getD i []:=by have:=zCT (xs:=rows.take i) (v:=rows.getD i []);rw[bT]at this;exact this
   rw[e,<-eE]at this;exact this
  by_cases eY:k=n
  ·
   refine⟨(out,((i+1:Nat):Int)),?_,out,pv,rfl,h,⟨fun a ha=>fa _ (hs.1 a ha),fun a ha=>?_⟩,by omega,by omega⟩
   ·unfold zSu
    simp only
    rw[yS hi,zH,yA [] hi];simp only[bs,gy,k2];rw[hw.1,zQB,zH,zB,bs,cs]
   ·rw[eE,J5,bT,Jb]at ha
    rw[eE];rcases Jo a i with g|g
    ·rw[zCS];exact hs.2 a (by omega)
    ·have:a=i:=by omega
     subst this;have e:(rows.take a++[rows.getD a []]).getD a []=rows.getD a []:=by have:=zCT (xs:=rows.take a) (v:=rows.getD a []);rw[bT]at this;exact this
     rw[e];refine zOA (out:=out) (cf:=fun q=> -1*cf q) (fun a ha=>uO ha) fun j hj=>?_
     have h1:=c7 j hj;rw[k3 j (by omega)]at h1;rw[xT (g:=fun q=> -1*(cf q*ent out q j)) (fun q _=>by rw[U2]),zCx];have h2:(at0 (rows.getD a []) j+S out.length fun q=>cf q*ent out q j)%p=0:=by rw[<-h1];rfl
     rw[show at0 (rows.getD a []) j=(at0 (rows.getD a []) j+S out.length fun q=>cf q*ent out q j)+ -1*(S out.length fun q=>cf q*ent out q j)from by omega,Ka,h2,Ko,K3]
  ·have hk:k<n:=by omega
   have hwk:=hw.2 k hk;have gc:=k4 hk;obtain⟨r,r1,r2,r3,r4⟩:=zMC hp (x:=at0 (cl p n out pv (rows.getD i []) out.length) k);have bV:=zOB hp hn hw r2 r3;have hu:Row p n (mkv n fun j=>(at0 (cl p n out pv (rows.getD i []) out.length) j*r)%p):=⟨zU _ _,fun j hj=>by have e1:=Kj (at0 (cl p n out pv (rows.getD i []) out.length) j*r) (show p≠0 by omega);have e2:=Kg (at0 (cl p n out pv (rows.getD i []) out.length) j*r) (show 0<p by omega);rw[zW hj];omega⟩
   have ua:∀j,j<n->at0 (mkv n fun j=>(at0 (cl p n out pv (rows.getD i []) out.length) j*r)%p) j=(at0 (cl p n out pv (rows.getD i []) out.length) j*r)%p:=fun j hj=>zW hj
   generalize mkv n (fun j=>(at0 (cl p n out pv (rows.getD i []) out.length) j*r)%p)=u at bV hu ua
   have u1:at0 u k=1:=by rw[ua k hk];exact r4
   have ul:∀j,j<k->at0 u j=0:=fun j hj=>by rw[ua j (by omega),k3 j hj];simp
   have up:∀a,a<out.length->at0 u (pv a)=0:=fun a ha=>by rw[ua _ (h.lt a ha),hpz a ha];simp
   obtain⟨q,⟨hq,uz⟩,fc⟩:=zDk (p:=fun q=>q<=out.length/\(q<out.length->k<pv q)) ⟨out.length,Je _,fun g=>by omega⟩;have q1:∀a,a<q->pv a<k:=fun a ha=>by
    have h1:¬(k<pv a):=fun g=>fc a ha ⟨by omega,fun _=>g⟩
    have h2:pv a≠k:=fun e=>by have:=up a (by omega);rw[e,u1]at this;cases this
    omega
   have q2:∀a,q<=a->a<out.length->k<pv a:=fun a ha ha2=>by
    have h1:=uz (by omega);rcases Jo q a with g|g
    ·have:=h.mono q a g ha2;omega
    ·rw[show a=q from by omega];exact h1
   have ff:=zMD hp h hu hk u1 ul up hq q1 q2 hn (by omega) (x:=(i:Int));have u9:=zO9 hp h hu hk u1 ul up hq q1 q2;obtain⟨s1,s2,s3⟩:=zRI hp h hu hk u1 ul up hq q1 q2;refine⟨(mkR (out.length+1) (sA p n out u k q),((i+1:Nat):Int)),?_,_,_,rfl,u9,⟨fun a ha=>?_,fun a ha=>?_⟩,by rw[tW];omega,by omega⟩
   ·unfold zSu
    simp only
    rw[yS hi,zH,yA [] hi];simp only[bs,gy,k2];rw[hw.1,zMA,zJ,yK (by rw[hw.1];exact hk)];simp only[bs,r1,bV];cases eK:zG (zIK p (out,(i:Int)) (k:Int) u) ([],jg,0)with
    |none=>rw[eK]at ff;cases ff
    |some r32=>
     rw[eK,bs]at ff;simp only[bs];obtain⟨a1,a2⟩:=r32;cases a2 with
     |true=>
      simp only[L5,zJ]at ff ⊢
      rw[zB,bs,cs,Hm.inj ff]
     |false=>
      simp only[H5,zH]at ff ⊢
      cases hap:yI a1 [u]with
      |none=>rw[hap]at ff;cases ff
      |some v33=>
       rw[hap,bs]at ff;simp only[bs];rw[zB,bs,cs,Hm.inj ff]
   ·rw[tW]at ha
    rw[jS ha];refine sJ (fun b hb=>?_) (s1 a ha);rw[J5,Jb]at hb;rcases Jo b out.length with g|g
    ·rw[zCS g];exact fa _ (hs.1 b g)
    ·rw[show b=out.length from by omega,zCT]
     have dL:Sp p n (rows.take (i+1)) (cl p n out pv (rows.getD i []) out.length):=by
      have ml:Sp p n (rows.take (i+1)) (mkv n fun j=>S out.length fun k=>cf k*ent out k j):=zOA (out:=out) (cf:=cf) (fun b hb=>fa _ (hs.1 b hb)) fun j hj=>by rw[zW hj]
      refine jH (k:=1) cX ml fun j hj=>?_
      rw[c7 j hj,zW hj,Gs]
     refine jH (k:=r) (zA5 (u:=[]) fun j _=>by simp[at0]) dL fun j hj=>?_
     rw[ua j hj,K3,show at0 ([]:List Int) j=0 from by simp[at0],Ko,Gz]
   ·rw[eE,J5,bT,Jb]at ha
    rw[eE];rcases Jo a i with g|g
    ·rw[zCS]
     exact sJ s2 (hs.2 a (by omega))
    ·have hai:a=i:=by omega
     subst hai;have e:(rows.take a++[rows.getD a []]).getD a []=rows.getD a []:=by have:=zCT (xs:=rows.take a) (v:=rows.getD a []);rw[bT]at this;exact this
     rw[e];have dL:Sp p n (mkR (out.length+1) (sA p n out u k q)) (cl p n out pv (rows.getD a []) out.length):=by
      refine jH (k:=at0 (cl p n out pv (rows.getD a []) out.length) k) (zA5 (u:=[]) fun j _=>by simp[at0]) s3 fun j hj=>?_
      rw[ua j hj,show at0 ([]:List Int) j=0 from by simp[at0],Ko];rw[Jy,K3,<-Jy,<-U2,Gz (at0 (cl p n out pv (rows.getD a []) out.length) k),U2,Jy,r4,L6,K3]
     have ml:Sp p n (mkR (out.length+1) (sA p n out u k q)) (mkv n fun j=>S out.length fun k=>cf k*ent out k j):=zOA (out:=out) (cf:=cf) s2 fun j hj=>by rw[zW hj]
     refine jH (k:=-1) dL ml fun j hj=>?_
     rw[zW hj,Ka,c7 j hj,<-Ka]
     congr 1;omega
 ·obtain⟨out,pv,rfl,h,hs,hl,_⟩:=hI
  refine⟨out,?_,pv,⟨h,hl⟩,by rw[Lm]at hs;exact hs⟩;unfold zSu;simp only
  rw[tQ,zJ]
theorem zGa:∃R pv,f_q p rows=jd R/\Red p n R pv/\qQ p n R rows:=by grind[zE5]
theorem zHC{R:Mx}(h:Red p n R pv)(hs:qQ p n R rows):R.length<=rows.length:=by have h7:=hp.pos;obtain⟨R',pv',_,h2,h3⟩:=zE5 hp hn hm hr;rw[h.unique (by omega) h2.1 (hs.trans h3.symm)];exact h2.2
theorem sK:∃R pv,f_q p rows=jd R/\f_i p rows=jd R/\Red p n R pv/\qQ p n R rows:=by
 have h7:=hp.pos;obtain⟨R,pv,h1,h2,h3⟩:=zGa hp hn hm hr;obtain⟨R',pv',g1,g2,g3⟩:=zMB hp hn hm hr;have e:=h2.unique (by omega) g2 (h3.trans g3.symm)
 grind
end
theorem wG{body:List β×Int->Option ((List β×Int)⊕List β)}(n:Nat)(F:Nat->β)(h:∀i acc,i<n->acc.length=i->body (acc,(i:Int))=jd (.inl (acc++[F i],((i+1:Nat):Int))))(he:∀acc,body (acc,(n:Int))=jd (.inr acc)):
  zG body ([],0)=jd ((Jd n).map F):=by
 have:=zN (body:=body) (r:=(Jd n).map F) (fun i=>((Jd i).map F,(i:Int))) n (by grind[Kz]) (he _);exact this
theorem zRJ(hx:xs.length<=100000)(hf:xs.flatten.length<=1000000):zYG xs=jd xs.flatten:=by
 unfold zYG;have:=zN (body:=zNA xs) (r:=xs.flatten) (fun i=>((xs.take i).flatten,(i:Int))) xs.length (fun i hi=>by
  have h1:=zF1 hi;have h2:=zK9 (xs:=xs) (i+1);have h3:=congrArg Qd h1;rw[J5]at h3;unfold zNA;simp only
  rw[yS hi,zH,yA [] hi,bs,zV,bs,zB,bs,cs,h1]) (by
  unfold zNA;simp)
 grind
theorem zQD{p:Int}{L:Nat}{v:List Int}:Row p L v↔v.length=L/\ ∀a∈v,0<=a/\a<=p-1:=by
 constructor
 ·rintro⟨h1,h2⟩
  refine⟨h1,fun a ha=>?_⟩;obtain⟨i,hi,rfl⟩:=H3.1 ha
  grind
 ·rintro⟨h1,h2⟩
  refine⟨h1,fun i hi=>?_⟩
  simp_all
def wZ(D k:Nat):List Int:=mkv D fun j=>if j=k then 1 else 0
theorem zRK{p:Int}(hp:2<=p):Row p D (wZ D k):=⟨zU _ _,by grind[wZ,zW]⟩
theorem qE(hk:k<D:=by omega)(hD:D<=1000000:=by omega):zIH (D:Int) (k:Int)=jd (wZ D k):=by grind[zIH,yH,yK,uB,sO,wZ]
abbrev gl{β:Type}(m:Nat)(F:Nat->β):List β:=(Jd m).map F
theorem wK{β:Type}{F:Nat->β}:(gl m F).length=m:=by simp[gl]
theorem zA6{β:Type}{F:Nat->β}(h:i<m:=by omega):ixO (gl m F) (i:Int)=jd (F i):=by rw[zA1 (by grind)];simp[gl]
theorem kG{β:Type}{F G:Nat->β}(h:∀i,i<m->F i=G i):gl m F=gl m G:=by grind[Uu]
theorem zDK{β:Type}{F:Nat->β}{a:β}:(gl m F).set i a=gl m (fun k=>if k=i then a else F k):=by
 apply Kx
 grind
theorem zA7{β:Type}{F:Nat->β}:gl m F++[F m]=gl (m+1) F:=by simp[gl,Kz]
def base(n i:Nat):Nat:=n+i*n-i*(i+1)/2
theorem zJ5:∀n,n<7-> ∀i,i<n->base n (i+1)=base n i+(n-1-i):=by decide
theorem zAa:∀n,n<7-> ∀i,i<n->base n i+(n-1-i)<=base n n:=by decide
theorem xY:∀n,n<7->n<=base n n/\base n n<=21/\base n 0=n:=by decide
theorem zOC:∀n:Nat,n<7-> ∀j:Nat,j<n-> ∀i:Nat,i<j->yBS (n:Int) (i:Int) (j:Int)=jd ((base n i+(j-i-1):Nat):Int):=by decide+kernel
def exP(n D:Nat)(x:SPr)(T:Mx)(i:Nat):List Int:=if i<n then x.zP.getD i []++T.getD i []else J1 (n+D) 0
def exF(n:Nat)(x:SPr)(m:zE)(T:Mx)(i j:Nat):List Int:=if j<n-1-i then(x.zF.getD i []).getD j []++T.getD (base n i+j) []else J1 n 0++(m.zL.getD i []).getD (j-(n-1-i)) []
def unC(N i:Nat):Mx:=gl (N-1-i) fun j=>wZ N (i+1+j)
def exC(n D:Nat)(x:SPr)(m:zE)(T:Mx)(i:Nat):Mx:=if i<n then gl (n+D-1-i) (exF n x m T i)else unC (n+D) i
def ext(n D:Nat)(x:SPr)(m:zE)(T:Mx):SPr:=⟨x.zA++J1 D m.Prime,gl (n+D) (exP n D x T),gl (n+D) (exC n D x m T)⟩
structure zU0 (n D:Nat) (x:SPr) (m:zE) (T:Mx):Prop where
 hn:n<=6
 o:x.zA.length=n
 p:x.zP.length=n
 c:x.zF.length=n
 cl:∀i,i<n->(x.zF.getD i []).length=n-1-i
 pl:∀i,(x.zP.getD i []).length<=6
 ce:∀i j,((x.zF.getD i []).getD j []).length<=6
 t:T.length=base n n
 tl:∀i,(T.getD i []).length<=30
 m:yAY n m D
theorem zQE{a b:List Int}(ha:a.length<=1000:=by omega)(hb:b.length<=1000:=by omega):f_t [a,b]=jd (a++b):=by grind[qO]
theorem zJ6{v:Int}(hk:k<=1000):∀d c:Nat,c<=k->(c=0->k=0)->k-c<=d->zG zBI (J1 c v++J1 (k-c) 0,(c:Int))=jd (J1 k v):=by
 intro d
 induction d with
 |zero=>
  intro c h1 _ h3;obtain rfl:c=k:=by omega
  rw[yP];unfold zBI;simp
 |succ d ih=>
  intro c h1 h2 h3
  by_cases hc:c=k
  ·grind
  ·have hl:(J1 c v++J1 (k-c) (0:Int)).length=k:=by simp;omega
   have s1:zR (J1 c v++J1 (k-c) (0:Int)) (c:Int) (k:Int)=jd (((J1 c v++J1 (k-c) (0:Int)).drop c).take (k-c)):=by
    unfold zR
    simp_all
   have s2:zR (J1 c v++J1 (k-c) (0:Int)) 0 (c:Int)=jd (J1 c v):=by
    unfold zR
    simp_all
   have e1:(J1 c v).take (k-c)=J1 (min (k-c) c) v:=by simp
   have e2:wP (J1 c v++J1 (k-c) (0:Int)) c (J1 (min (k-c) c) v)=J1 (c+min c (k-c)) v++J1 (k-(c+min c (k-c))) 0:=by
    unfold wP;rw[Jr (by simp),Jk,Nat.min_comm (k-c) c,Jn,List.drop_append,Jk,Uo (by rw[Jk];omega),Jz,Lj]
    congr 2;omega
   have hb:zBI (J1 c v++J1 (k-c) 0,(c:Int))=jd (.inl (J1 (c+min c (k-c)) v++J1 (k-(c+min c (k-c))) 0,((c+min c (k-c):Nat):Int))):=by
    unfold zBI;simp only
    rw[hl,yS,zH,s1,bs,s2,bs,Jk];simp only[J8];rw[e1,e2,<-Hn,zB,bs]
   rw[yP,hb];exact ih (c+min c (k-c)) (by omega) (by omega) (by omega)
theorem zOD{v:Int}(hk:k<=30):f_k [v] (k:Int)=jd (J1 k v):=by
 have key:∀k:Nat,k<31->zWm 1 (IntKind.wrap .u64 (k:Int))=jd (0,(k:Int))/\yG (IntKind.wrap .i64 (k:Int))=jd k:=by decide+kernel
 obtain⟨k1,k2⟩:=key k (by omega);unfold f_k;rw[jh (by omega),zJ,zM4 k1,bs];simp only[k2,bs];rw[show decide ((0:Int)> 0)=jg from rfl,zJ,jh (by omega),zJ]
 by_cases h0:k=0
 ·subst h0
  have:=zJ6 (v:=v) (k:=0) (by omega) 0 0 (by omega) (by omega) (by omega);rw[show wP (J1 0 (0:Int)) 0 (([v]:List Int).take ((J1 0 (0:Int)).length-0))=J1 0 v++J1 (0-0) 0 from rfl,show((min ([v]:List Int).length ((J1 0 (0:Int)).length-0):Nat):Int)=((0:Nat):Int)from rfl,this,bs]
 ·have:=zJ6 (v:=v) (k:=k) (by omega) k 1 (by omega) (by omega) (by omega)
  have e1:wP (J1 k (0:Int)) 0 (([v]:List Int).take ((J1 k (0:Int)).length-0))=J1 1 v++J1 (k-1) 0:=by
   unfold wP
   grind
  grind
theorem zRL{O:List Int}(hO:O.length=N)(hN:N<=100:=by omega):f_P O=jd ⟨O,gl N (fun _=>J1 N 0),gl N (unC N)⟩:=by
 have gK:∀i,i<N->zG (zSw O) ([],((i+1:Nat):Int))=jd (unC N i):=fun i hi=>by
  have:=zN (body:=zSw O) (r:=unC N i) (fun j=>(gl j fun j=>wZ N (i+1+j),((i+1+j:Nat):Int))) (N-1-i) (fun j hj=>by
   unfold zSw;simp only
   rw[hO,yS,zH,qE,bs,zV (by grind),bs,zB,bs,cs,zA7 (F:=fun j=>wZ N (i+1+j))];rfl) (by
   unfold zSw;simp only
   rw[hO,show i+1+(N-1-i)=N from by omega,tQ,zJ,unC])
  exact this
 have:=zN (body:=zSx O) (r:=(gl N (fun _=>J1 N 0),gl N (unC N))) (fun i=>(gl i (fun _=>J1 N (0:Int)),gl i (unC N),((i:Nat):Int))) N (fun i hi=>by
  unfold zSx;simp only
  rw[hO,yS hi,zH,yH,bs,zV (by grind),bs,zB,bs,cs,gK i hi,bs,zV (by rw[wK];simp;omega),bs,bs,zA7 (F:=unC N),zA7 (F:=fun _=>J1 N (0:Int))]) (by
  unfold zSx
  grind)
 unfold f_P;rw[jJ,bs]
 grind
section
variable {n D:Nat}{x:SPr}{m:zE}{T:Mx} (h:zU0 n D x m T)
 include h
def exG(n N:Nat)(x:SPr)(m:zE)(T:Mx)(i t q:Nat):List Int:=if q<t then exF n x m T i q else wZ N (i+1+q)
def exE(n D:Nat)(x:SPr)(m:zE)(T:Mx)(i t k:Nat):Mx:=if k<i then exC n D x m T k else if k=i then gl (n+D-1-i) (exG n (n+D) x m T i t)else unC (n+D) k
theorem zOE{t:Nat}:exE n D x m T i t i=gl (n+D-1-i) (exG n (n+D) x m T i t):=by have _:=h;rw[exE,if_neg (by omega),if_pos rfl]
theorem zQF{t:Nat}:(gl (n+D) (exE n D x m T i t)).set i ((gl (n+D-1-i) (exG n (n+D) x m T i t)).set t (exF n x m T i t))=gl (n+D) (exE n D x m T i (t+1)):=by
 have _:=h;rw[zDK,zDK];refine kG fun k _=>?_
 by_cases hk:k=i
 ·subst hk
  rw[if_pos rfl,zOE h];refine kG fun q _=>?_
  simp only[exG]
  grind
 ·rw[if_neg hk,exE,exE,if_neg hk,if_neg hk]
theorem zHD:exE n D x m T i 0 k=if k<i then exC n D x m T k else unC (n+D) k:=by
 have _:=h;rw[exE]
 by_cases h1:k<i
 ·grind
 ·rw[if_neg h1,if_neg h1]
  by_cases h2:k=i
  ·subst h2
   rw[if_pos rfl];rfl
  grind
theorem zU1(hi:i<n):gl (n+D) (exE n D x m T i (n+D-1-i))=gl (n+D) (exE n D x m T (i+1) 0):=by
 refine kG fun k _=>?_
 rw[zHD h,exE]
 by_cases h1:k<i
 ·grind
 ·rw[if_neg h1]
  by_cases h2:k=i
  ·subst h2
   rw[if_pos rfl,if_pos (by omega),exC,if_pos hi];exact kG fun q hq=>by rw[exG,if_pos hq]
  grind
theorem yDC(hi:i<n){C:List Mx}{w:Int}:zG (zP5 T (C,w,(i:Int)) (x.zF.getD i [])) (gl (n+D) (exE n D x m T i 0),((base n i:Nat):Int),0)=jd (gl (n+D) (exE n D x m T i (n-1-i)),((base n (i+1):Nat):Int)):=by
 have h6:=h.hn;have h3:=h.m.d3;have hc:=h.cl i hi;have hb:=zAa n (by omega) i hi;have fx:=xY n (by omega);have:=zN (body:=zP5 T (C,w,(i:Int)) (x.zF.getD i [])) (r:=(gl (n+D) (exE n D x m T i (n-1-i)),((base n (i+1):Nat):Int))) (fun j=>(gl (n+D) (exE n D x m T i j),((base n i+j:Nat):Int),((j:Nat):Int))) (n-1-i) (fun j hj=>by
  have a1:=h.ce i j;have a2:=h.tl (base n i+j);have e:exF n x m T i j=(x.zF.getD i []).getD j []++T.getD (base n i+j) []:=if_pos hj;unfold zP5;simp only
  rw[hc,yS hj,zH,yA [],bs,zA6,bs,yA [] (by rw[h.t];omega),bs,zQE,bs,zOE h,zA6,bs,zB,bs,zB,bs,cs,cs,<-e,J8,J8,zQF h];rfl) (by
  unfold zP5;simp only
  rw[hc,tQ,zJ,zJ5 n (by omega) i hi])
 exact this
theorem yDD(hi:i<n){C:List Mx}{w:Int}:zG (zP6 x (C,w,(i:Int)) (m.zL.getD i [])) (gl (n+D) (exE n D x m T i (n-1-i)),0)=jd (gl (n+D) (exE n D x m T (i+1) 0)):=by
 have h6:=h.hn;have h3:=h.m.d3;have iu:=h.m.mat i hi;have:=zN (body:=zP6 x (C,w,(i:Int)) (m.zL.getD i [])) (r:=gl (n+D) (exE n D x m T (i+1) 0)) (fun j=>(gl (n+D) (exE n D x m T i (n-1-i+j)),((j:Nat):Int))) D (fun j hj=>by
  have e:exF n x m T i (n-1-i+j)=J1 n 0++(m.zL.getD i []).getD j []:=by rw[exF,if_neg (by omega),show n-1-i+j-(n-1-i)=j from by omega]
  have hr:=(iu.2 j hj).1;unfold zP6;simp only
  rw[iu.1,yS hj,zH,yA [] (by grind),bs,zA6,bs,h.o,zB,bs,zB,bs,zB,bs,show(0:Int)=((0:Nat):Int)from rfl,zM5,bs,
   show(n:Int)-1-(i:Int)+(j:Int)=((n-1-i+j:Nat):Int)from by omega,zOE h,zA6,bs,zB,bs,cs,Lz,Jh,<-e,J8,J8,zQF h];rfl) (by
  unfold zP6;simp only
  rw[iu.1,tQ,zJ,show n-1-i+D=n+D-1-i from by omega,zU1 h hi])
 exact this
theorem yDE:zG (zP7 x m T) (gl (n+D) (unC (n+D)),((n:Nat):Int),0)=jd (gl (n+D) (exC n D x m T)):=by
 have h6:=h.hn;have h3:=h.m.d3;have fx:=xY n (by omega);have:=zN (body:=zP7 x m T) (r:=gl (n+D) (exC n D x m T)) (fun i=>(gl (n+D) (exE n D x m T i 0),((base n i:Nat):Int),((i:Nat):Int))) n (fun i hi=>by
  unfold zP7;simp only
  rw[h.o,yS hi,zH,yA [] (by rw[h.c];exact hi),bs,yDC h hi,bs,yA [] (by rw[h.m.len];exact hi),bs,yDD h hi,bs,zB,bs,cs]) (by
  unfold zP7;simp only
  rw[h.o,tQ,zJ]
  congr 2
  refine kG fun k _=>?_
  rw[zHD h,exC]
  grind)
 have e:gl (n+D) (exE n D x m T 0 0)=gl (n+D) (unC (n+D)):=kG fun k _=>by rw[zHD h,if_neg (by omega)]
 grind
theorem yDF:zG (zP4 x T) (gl (n+D) (fun _=>J1 (n+D) 0),0,0)=jd (gl (n+D) (exP n D x T),((n:Nat):Int)):=by
 have h6:=h.hn;have h3:=h.m.d3;have fx:=xY n (by omega);have:=zN (body:=zP4 x T) (r:=(gl (n+D) (exP n D x T),((n:Nat):Int))) (fun i=>(gl (n+D) (fun k=>if k<i then exP n D x T k else J1 (n+D) 0),((i:Nat):Int),((i:Nat):Int))) n (fun i hi=>by
  have a1:=h.pl i;have a2:=h.tl i;have e:exP n D x T i=x.zP.getD i []++T.getD i []:=if_pos hi;unfold zP4;simp only
  rw[h.p,yS hi,zH,yA [] (by rw[h.p];exact hi),bs,yA [] (by rw[h.t];omega),bs,zQE,bs,zA6,bs,zB,bs,bs,cs,<-e,J8,zDK]
  grind) (by
  unfold zP4;simp only
  rw[h.p,tQ,zJ]
  congr 3
  refine kG fun k _=>?_
  by_cases hk:k<n
  ·grind
  ·rw[if_neg hk,exP,if_neg hk])
 grind
theorem zXV{v:Int}:f_k [v] m.Dim=jd (J1 D v):=by rw[h.m.d];exact zOD (by have:=h.m.d3;omega)
theorem zU2:f_m x m T=jd (ext n D x m T):=by
 have h6:=h.hn;have h3:=h.m.d3;unfold f_m;rw[jJ (by rw[h.o];omega),bs,zXV h,bs,zV (by rw[h.o];simp;omega),bs,zRL (N:=n+D) (by rw[J5,h.o];simp),bs];simp only
 rw[yDF h,bs,yDE h,bs];rfl
end
theorem zOF{b:Nat}(h:∀i,i<xs.length->(xs.getD i []).length<=b)(i:Nat):(xs.getD i []).length<=b:=by grind
theorem zB7{n:Nat}(ho:x.zA.length=n)(hn:n<=6:=by omega):zW5 x=jd ((base n n:Nat):Int):=by
 unfold zW5;rw[ho];have key:∀n:Nat,n<7->((rng ((n:Int)-1)).bind fun v1=>(rng ((n:Int)*v1)).bind fun v2=>(vK v2 2).bind fun v3=>(rng ((n:Int)+v3)).bind fun v4=>jd v4)=jd ((base n n:Nat):Int):=by decide+kernel
 grind
theorem zHE{n:Nat}(ho:x.zA.length=n)(hn:n<=6):zW6 x=jd ((base n n:Nat):Int):=by
 unfold zW6;rw[ho];have key:∀n:Nat,n<7->((rng ((n:Int)+1)).bind fun v1=>(rng ((n:Int)*v1)).bind fun v2=>(vK v2 2).bind fun v3=>jd v3)=jd ((base n n:Nat):Int):=by decide+kernel
 grind
theorem zU0.ofX{m:zE}{T:Mx}(hx:zA2 x)(hm:yAY x.zA.length m D)(ht:T.length=base x.zA.length x.zA.length)(eM:∀i,(T.getD i []).length<=30):zU0 x.zA.length D x m T:=by
 have h6:=hx.n6;refine⟨h6,rfl,hx.pl,hx.cl,fun i hi=>by have:=(hx.tl i hi).2.1;omega,zOF fun i hi=>?_,fun i=>?_,ht,eM,hm⟩
 ·have:=(hx.tl i (by rw[<-hx.pl];exact hi)).1.1.1
  omega
 ·rcases Jo i x.zA.length with g|g
  ·refine zOF fun j hj=>?_
   have:=((hx.tl i g).2.2 j hj).1.1;omega
  ·have e:x.zF.getD i []=[]:=by rw[J2,Lf (by rw[hx.cl];exact g)];rfl
   grind
theorem zF3(h:xs.length<=100000)(hl:∀i,i<xs.length->(xs.getD i []).length<=1000000):zS2 xs=jd xs:=by
 unfold zS2;rw[wG (body:=zN9 xs) xs.length (fun i=>xs.getD i []) (fun i acc hi ha=>by
  unfold zN9;simp only
  rw[yS hi,zH,yA [] hi,bs,tE (hl i hi),bs,zV (by simp;omega),bs,zB,bs,cs]) (fun acc=>by
  unfold zN9;simp),bs]
 congr 1
 exact(zUw rfl).symm
theorem zOG{v:List Int}(hl:v.length<=1000000)(hk:k<v.length)(h0:∀j,j<k->at0 v j=0)(h1:at0 v k≠0):zS4 v=jd (k:Int):=by
 unfold zS4;have:=zN (body:=zGf v) (r:=.inr (k:Int)) (fun i=>(i:Int)) k (fun i hi=>by
  unfold zGf zS3;rw[yS,zH,yK,bs,bs,h0 i hi,bne_self_eq_false,zJ,zB,bs,cs]) (by
  unfold zGf zS3;rw[yS hk,zH,yK hk,bs,bs,zDo h1,zH])
 grind
section
variable {p:Int} (hp:Prime p) {n:Nat} (hn:n<=100000) {R:Mx}{pv:Nat->Nat} (h:Red p n R pv) {v:List Int} (hv:Row p n v)
 include hp hn h
theorem zME(hm:R.length<=100000):f_Q R=jd (gl R.length fun i=>(pv i:Int)):=by
 have h7:=hp.pos;unfold f_Q;rw[wG (body:=zIL R) R.length (fun i=>(pv i:Int)) (fun i acc hi ha=>by
  have hr:=h.row i hi;have h1:=h.one i hi;unfold zIL;simp only
  rw[yS hi,zH,yA [] hi,bs,zOG (k:=pv i) (by rw[hr.1];omega) (by grind) (fun j hj=>h.low i hi j hj) (by grind),bs,zV (by simp;omega),bs,zB,bs,cs]) (fun acc=>by
  unfold zIL;simp),bs]
 include hv
theorem yBc(hi:i<R.length):uN p n (cl p n R pv v i) (0-at0 (cl p n R pv v i) (pv i)) (R.getD i [])=cl p n R pv v (i+1):=by
 have _:=hp;have _:=hn;have _:=h;have _:=hv;have _:=hi;rw[cl];refine zX fun j _=>?_
 generalize at0 (cl p n R pv v i) (pv i)=a
 generalize at0 (R.getD i []) j=b
 rw[Int.sub_mul,Int.sub_mul,qb9];have e:at0 (cl p n R pv v i) j+(p*b-a*b)=at0 (cl p n R pv v i) j+(0-a*b)+p*b:=by omega
 simp_all
theorem zHF{c:Int}(hm:R.length<=100000):zYF (zS.mk p c R) v=jd (cl p n R pv v R.length):=by
 have h7:=hp.pos;have:=zN (body:=zJP (zS.mk p c R) (gl R.length fun i=>(pv i:Int))) (r:=cl p n R pv v R.length) (fun i=>(cl p n R pv v i,(i:Int))) R.length (fun i hi=>by
  have hr:=zKE hp hn h hv i;have ha:=hr.2 (pv i) (h.lt i hi);unfold zJP;simp only
  rw[wK,yS hi,zH,zA6 hi,bs,yA [] hi,bs,yK (by rw[hr.1];exact h.lt i hi),bs,zB,bs,zBk hp hr (h.row i hi) (by omega) (by omega),bs,zB,bs,cs,yBc hp hn h hv hi]) (by
  unfold zJP;simp)
 unfold zYF;rw[jJ (by rw[hv.1];omega),bs];simp only
 rw[zME hp hn h hm,bs];have e:zG (zJP (zS.mk p c R) (gl R.length fun i=>(pv i:Int))) (v,0)=jd (cl p n R pv v R.length):=this;rw[e,bs]
end
section
variable {p:Int} (hp:1<p) {n:Nat}{R R':Mx}{pv pv':Nat->Nat} (h:Red p n R pv) (h':Red p n R' pv') (hs:∀i,i<R.length->Sp p n R' (R.getD i []))
 include hp h h' hs
theorem Red.lt_of{i2 k2:Nat}(hii:i<i2)(eR:i2<R.length)(hk:k<R'.length)(e:pv' k=pv i)(e2:pv' k2=pv i2):k<k2:=by
 have _:=hp;have _:=hs;have h1:=h.mono i i2 hii eR;refine Classical.byContradiction fun hn=>?_
 rcases Jo k2 k with g|g
 ·have:=h'.mono k2 k g hk;omega
 grind
theorem Red.low_in:∀i,i<R.length-> ∃k,k<R'.length/\pv' k=pv i/\i<=k:=by
 intro i
 induction i with
 |zero=>intro hi;obtain⟨k,hk,e⟩:=h.piv_in hp h' hs hi;grind
 |succ i ih=>
  intro hi;obtain⟨k,hk,e,aS⟩:=ih (by omega);obtain⟨k2,eZ,e2⟩:=h.piv_in hp h' hs hi;have:=h.lt_of hp h' hs (by simp) hi hk e e2
  grind
theorem Red.le_of:R.length<=R'.length:=by
 rcases Jaw R.length with g|g
 ·omega
 ·obtain⟨k,hk,_,aS⟩:=h.low_in hp h' hs (R.length-1) (by omega)
  omega
end
theorem zCU{v:List Int}:at0 (u++v) j=if j<u.length then at0 u j else at0 v (j-u.length):=by grind
theorem zHG{v:List Int}:at0 (v.drop c) j=at0 v (c+j):=by simp
theorem zU3{v:List Int}(h:j<c):at0 (v.take c) j=at0 v j:=by grind
theorem zG3{f:Nat->Int}(t:Nat):∀d:Nat,S (t+d) f=S t f+S d (fun i=>f (t+i))
 |0=>by simp[S]
 |d+1=>by rw[<-Ha];simp only[S];rw[zG3 t d];omega
theorem yBd{t n:Nat}(ht:t<=n)(h:∀i,i<t->f i=0):S n f=S (n-t) (fun i=>f (t+i)):=by
 have e:n=t+(n-t):=by omega
 conv=>lhs;rw[e,zG3,xT (g:=fun _=>0) h,sW]
 omega
theorem xI{F:Nat->List Int}(h:i<m:=by omega):(gl m F).getD i []=F i:=by grind
def ur(N i:Nat):List Int:=mkv N fun j=>if j=i then 1 else 0
def wd(N:Nat)(A:Mx):Mx:=gl N fun i=>A.getD i []++ur N i
def Gr(p:Int)(c N:Nat)(A:Mx)(u:List Int):Prop:=∀j,j<c->at0 u j%p=(S N fun k=>at0 u (c+k)*ent A k j)%p
section
variable {p:Int} (hp:1<p) {c N:Nat}{A:Mx} (hA:∀i,i<N->Row p c (A.getD i []))
 include hA
theorem zC0:(wd N A).length=N:=by have _:=hA;exact wK
theorem zKF(hi:i<N)(hj:j<c):ent (wd N A) i j=ent A i j:=by rw[ent,wd,xI hi,zCU,(hA i hi).1,if_pos hj]
theorem zBm{l:Nat}(hi:i<N)(hl:l<N):ent (wd N A) i (c+l)=if l=i then 1 else 0:=by
 rw[ent,wd,xI hi,zCU,(hA i hi).1,if_neg (by omega),H4,ur,zW hl]
 include hp
theorem zU4(hi:i<N):Row p (c+N) ((wd N A).getD i []):=by
 refine⟨by rw[wd,xI hi,J5,(hA i hi).1,ur,zU],fun j hj=>?_⟩;rcases Jo j c with g|g
 ·have:=(hA i hi).2 j g
  have e:=zKF hA hi g
  grind
 ·have e:=zBm hA (l:=j-c) hi (by omega)
  grind
theorem yDG:Sp p (c+N) (wd N A) u↔Gr p c N A u:=by
 have _:=hp;constructor
 ·rintro⟨cf,c7⟩ j hj
  rw[zC0 hA]at c7;rw[<-c7 j (by omega)];refine kE fun k hk=>?_
  have h1:=c7 (c+k) (by omega);rw[kF (k:=k) hk (fun i hi gc=>by rw[zBm hA hi hk,if_neg (Ne.symm gc),Ln]),zBm hA hk hk,if_pos rfl,L6]at h1;rw[zKF hA hk hj,Jy,h1,<-Jy]
 ·intro h
  refine⟨fun k=>at0 u (c+k),fun j hj=>?_⟩;rw[zC0 hA];rcases Jo j c with g|g
  ·rw[h j g]
   refine congrArg (· %p) (xT fun k hk=>?_);rw[zKF hA hk g]
  ·obtain⟨l,rfl⟩:∃l,j=c+l:=⟨j-c,by omega⟩
   rw[kF (k:=l) (by omega) (fun i hi gc=>by rw[zBm hA hi (by omega),if_neg (Ne.symm gc),Ln]),zBm hA (by omega) (by omega),if_pos rfl,L6]
variable {W:Mx}{pv:Nat->Nat} (hW:Red p (c+N) W pv) (hs:qQ p (c+N) W (wd N A))
 include hW
theorem yBe:∃t,t<=W.length/\(∀i,i<t->pv i<c)/\ ∀i,t<=i->i<W.length->c<=pv i:=by
 have _:=hA;have _:=hp;obtain⟨t,ht,fc⟩:=zDk (p:=fun t=>W.length<=t\/c<=pv t) ⟨W.length,.inl (Je _)⟩;have gC:∀i,i<t->i<W.length/\pv i<c:=fun i hi=>by have:=fc i hi;exact⟨Jac fun h=>this (.inl h),Jac fun h=>this (.inr h)⟩
 refine⟨t,Nat.le_of_not_lt fun h=>?_,fun i hi=>(gC i hi).2,fun i hi eR=>?_⟩
 ·have:=(gC W.length h).1;omega
 ·rcases ht with h|h
  ·omega
  ·rcases Jo t i with g|g
   ·have:=hW.mono t i g eR;omega
   ·rw[show i=t from by omega];exact h
def nul(c t:Nat)(W:Mx):Mx:=gl (W.length-t) fun i=>(W.getD (t+i) []).drop c
 omit hp hA hW in
theorem zE6{t:Nat}(hi:t+i<W.length:=by omega):ent (nul c t W) i j=ent W (t+i) (c+j):=by rw[ent,nul,xI,zHG]
variable {t:Nat} (ht:t<=W.length) (h1:∀i,i<t->pv i<c) (h2:∀i,t<=i->i<W.length->c<=pv i)
 include ht h1 h2
theorem zXW:Red p N (nul c t W) (fun i=>pv (t+i)-c):=by
 have _:=hp;have _:=hA;have _:=h1;have _:=ht;have hl:(nul c t W).length=W.length-t:=wK;have ib:∀i,i<W.length-t->c<=pv (t+i):=by grind
 refine⟨fun i hi=>?_,fun i hi=>?_,fun i hi=>?_,fun i hi j hj=>?_,fun i k hi hk gc=>?_,fun i j gI hj=>?_⟩
 ·rw[hl]at hi
  have hr:=hW.row (t+i) (by omega);refine⟨by rw[nul,xI hi,Kk,hr.1];omega,fun j hj=>?_⟩;have:=hr.2 (c+j) (by omega)
  grind[nul]
 ·rw[hl]at hi
  have:=hW.lt (t+i) (by omega)
  grind
 ·rw[hl]at hi
  rw[zE6,show c+(pv (t+i)-c)=pv (t+i)from by grind];exact hW.one _ (by omega)
 ·rw[hl]at hi
  rw[zE6];exact hW.low _ (by omega) _ (by omega)
 ·rw[hl]at hi hk
  rw[zE6,show c+(pv (t+i)-c)=pv (t+i)from by grind];exact hW.off _ _ (by omega) (by omega) (by omega)
 ·rw[hl]at hj
  have:=hW.mono (t+i) (t+j) (by omega) (by omega)
  grind
 include hs
theorem yDH:Sp p (c+N) W u↔Gr p c N A u:=by have _:=hW;have _:=ht;have _:=h1;have _:=h2;exact hs.iff.trans (yDG hp hA)
theorem yBf{x:List Int}:Sp p N (nul c t W) x↔ ∀j,j<c->(S N fun k=>at0 x k*ent A k j)%p=0:=by
 have hl:(nul c t W).length=W.length-t:=wK;constructor
 ·rintro⟨cf,c7⟩ j hj
  rw[hl]at c7;have e1:(S N fun k=>at0 x k*ent A k j)%p=(S N fun k=>(S (W.length-t) fun i=>cf i*ent (nul c t W) i k)*ent A k j)%p:=by grind[kE,Jy]
  have e2:(S N fun k=>(S (W.length-t) fun i=>cf i*ent (nul c t W) i k)*ent A k j)=S (W.length-t) fun i=>cf i*S N fun k=>ent W (t+i) (c+k)*ent A k j:=by
   rw[xT (g:=fun k=>S (W.length-t) fun i=>cf i*(ent W (t+i) (c+k)*ent A k j)) (fun k hk=>by rw[<-zMx];exact xT (by grind[zE6])),zH6]
   grind[zCx]
  have e3:(S (W.length-t) fun i=>cf i*S N fun k=>ent W (t+i) (c+k)*ent A k j)%p=(S (W.length-t) fun _=>0)%p:=kE fun i hi=>by have h:=(yDH hp hA hW hs ht h1 h2).1 (uO (p:=p) (n:=c+N) (R:=W) (i:=t+i)) j hj;have hz:=hW.low (t+i) (by omega) j (by grind);simp only[ent]at hz;rw[hz]at h;rw[Jy,show(S N fun k=>ent W (t+i) (c+k)*ent A k j)%p=0 from h.symm,Ln]
  rw[e1,e2,e3,sW];rfl
 ·intro h0
  let u:List Int:=mkv (c+N) fun j=>if j<c then 0 else at0 x (j-c)
  have cu:∀j,j<c->at0 u j=0:=fun j hj=>by rw[zW,if_pos hj]
  have p6:∀k,k<N->at0 u (c+k)=at0 x k:=fun k hk=>by rw[zW,if_neg (by omega),H4]
  have hg:Gr p c N A u:=fun j hj=>by rw[cu j hj,xT (g:=fun k=>at0 x k*ent A k j) (by grind),h0 j hj];rfl
  have hx:=hW.expand ((yDH hp hA hW hs ht h1 h2).2 hg);refine⟨fun i=>at0 u (pv (t+i)),fun j hj=>?_⟩;have h3:=hx (c+j) (by omega);rw[p6 j hj,yBd ht (by grind)]at h3;rw[hl,h3];exact congrArg (· %p) (xT (by grind[zE6]))
end
theorem zKG{v:List Int}(hl:v.length<=1000000:=by omega):IsB (zVT v) (∀i,i<v.length->at0 v i=0):=by
 refine zDF v.length (fun i=>at0 v i=0) rfl (fun i hi _=>?_) ?_
 ·refine zB0 (o:=jd (at0 v i==0)) (IsB.of_bool (by simp)) (by omega) ?_
  unfold zJL;rw[yS hi,zH,yK hi,bs,bs];rfl
 ·unfold zJL
  simp
structure Nul (p:Int) (c N:Nat) (A W:Mx) (pv:Nat->Nat) (t:Nat):Prop where
 row:∀i,i<N->Row p c (A.getD i [])
 len:A.length=N
 red:Red p (c+N) W pv
 sp:qQ p (c+N) W (wd N A)
 le:t<=W.length
 lo:∀i,i<t->pv i<c
 hi:∀i,t<=i->i<W.length->c<=pv i
section
variable {p:Int} (hp:Prime p) {c N:Nat} (fA:c+N<=100000) {A W:Mx}{pv:Nat->Nat}{t:Nat}
 include hp fA
theorem Nul.get(hr:∀i,i<N->Row p c (A.getD i []))(hl:A.length=N):∃W pv t,Nul p c N A W pv t/\f_q p (wd N A)=jd W/\f_i p (wd N A)=jd W:=by have h7:=hp.pos;obtain⟨W,pv,r1,r2,r3,r4⟩:=sK hp (n:=c+N) fA (rows:=wd N A) (by rw[zC0 hr];omega) (fun i hi=>zU4 (by omega) hr (by rwa [zC0 hr]at hi));obtain⟨t,t1,t2,t3⟩:=yBe (by omega) hr r3;exact⟨W,pv,t,⟨hr,hl,r3,r4,t1,t2,t3⟩,r1,r2⟩
variable (h:Nul p c N A W pv t)
 include h
theorem Nul.nred:Red p N (nul c t W) (fun i=>pv (t+i)-c):=by have _:=fA;have h7:=hp.pos;exact zXW (by omega) h.row h.red h.le h.lo h.hi
theorem Nul.nsp{x:List Int}:Sp p N (nul c t W) x↔ ∀j,j<c->(S N fun k=>at0 x k*ent A k j)%p=0:=by have _:=fA;have h7:=hp.pos;exact yBf (by omega) h.row h.red h.sp h.le h.lo h.hi
theorem Nul.full:W.length=N:=by
 have h7:=hp.pos;have g1:W.length<=(wd N A).length:=zHC hp (n:=c+N) fA (by rw[zC0 h.row];omega) (fun i hi=>zU4 (by omega) h.row (by rwa [zC0 h.row]at hi)) h.red h.sp;rw[zC0 h.row]at g1;have hl:(gl W.length fun i=>(W.getD i []).drop c).length=W.length:=wK;have hR:∀i,i<W.length->Row p N ((gl W.length fun i=>(W.getD i []).drop c).getD i []):=fun i hi=>by have hr:=h.red.row i hi;rw[xI hi];refine⟨by rw[Kk,hr.1];omega,fun j hj=>?_⟩;rw[zHG];exact hr.2 (c+j) (by omega)
 obtain⟨R3,pv3,_,_,g3,g4⟩:=sK hp (n:=N) (by omega) (rows:=gl W.length fun i=>(W.getD i []).drop c) (by omega) (by grind);have g5:=zHC hp (n:=N) (by omega) (by omega) (by grind) g3 g4;have gT:(gl N (ur N)).length=N:=wK;have iL:∀i j,i<N->j<N->ent (gl N (ur N)) i j=if j=i then 1 else 0:=fun i j hi hj=>by rw[ent,xI hi,ur,zW hj]
 have eF:Red p N (gl N (ur N)) (fun i=>i):=by
  refine⟨fun i hi=>?_,fun i hi=>by omega,fun i hi=>?_,fun i hi j hj=>?_,by grind,fun i j gI hj=>gI⟩
  ·rw[gT]at hi
   rw[xI hi];refine⟨zU _ _,fun j hj=>?_⟩
   grind
  all_goals grind
 have g6:=eF.le_of (by omega) g3 (fun i hi=>by rw[gT]at hi;refine g4.iff.2 ?_;obtain⟨cf,c7⟩:=h.sp.2 i (by rw[zC0 h.row];exact hi);refine⟨cf,fun j hj=>?_⟩;have h1:=c7 (c+j) (by omega);have h2:=zBm h.row hi hj;simp only[ent]at h2;rw[h2]at h1;have h3:=iL i j hi hj;simp only[ent]at h3;rw[h3,hl,<-h1];exact congrArg (· %p) (xT (by grind)))
 omega
 omit h in
theorem zOH{N:Nat}(hN:N<=100000):f_v (N:Int)=jd (gl N (ur N)):=by
  have _:=hp;have _:=fA;unfold f_v;rw[wG (body:=zEX (N:Int)) N (ur N) (fun i acc hi ha=>by
    unfold zEX;simp only
    rw[yS hi,zH,yH,bs,vD,K4,if_pos hi,bs,J8,uB,sO,zV (by simp;omega),bs,zB,bs,cs];rfl) (fun acc=>by
    unfold zEX;simp),bs]
 omit h in
theorem zRM(hr:∀i,i<N->Row p c (A.getD i []))(hl:A.length=N):zYB p A=f_q p (wd N A):=by
  unfold zYB;rw[hl,zOH hp fA (by omega),bs,wG (body:=zN4 A (gl N (ur N))) N (fun i=>A.getD i []++ur N i) (fun i acc hi ha=>by
    unfold zN4;simp only
    rw[hl,yS hi,zH,yA [],bs,tE (by rw[(hr i hi).1];omega),bs,zA6 hi,bs,zV (by rw[(hr i hi).1,ur,zU];omega),bs,zV (by simp;omega),bs,zB,bs,cs]) (fun acc=>by
    unfold zN4
    grind),bs]
  grind[wd]
theorem zRN:zG (zJN (c:Int) W) ([],0)=jd (nul c t W):=by
 have hf:=h.full hp fA;have fd:=h.le;have:=zN (body:=zJN (c:Int) W) (r:=nul c t W) (fun i=>(gl (i-t) (fun k=>(W.getD (t+k) []).drop c),(i:Int))) W.length (fun i hi=>by
  have hr:=h.red.row i hi;have h1:=h.red.one i hi;have gC:=h.red.lt i hi;have aO:=zKD (n:=c+N) hr.1 (by omega) gC (h.red.low i hi) (by grind);unfold zJN;simp only
  rw[yS hi,zH,yA [] hi,bs,aO,bs];rcases Jo i t with g|g
  ·have:=h.lo i g
   rw[jh (by omega),zJ,zB,bs,cs,show i-t=0 from by omega,show i+1-t=0 from by omega]
  ·have:=h.hi i g hi
   have e:zR (W.getD i []) (c:Int) ((W.getD i []).length:Int)=jd ((W.getD i []).drop c):=by unfold zR;rw[if_pos (by grind),J8,J8,Jx (by rw[Kk];omega)]
   rw[ji,zH,bs,e,bs,tE (by rw[Kk,hr.1];omega),bs,zV (by rw[wK];simp;omega),bs,zB,bs,cs,show i+1-t=(i-t)+1 from by omega,<-zA7,show t+(i-t)=i from by omega]) (by
  unfold zJN;simp only
  rw[tQ,zJ];rfl)
 grind
end
theorem zQG{β:Type}{n:Nat}{F:Nat->β}:gl (n+1) F=gl n F++[F n]:=zA7.symm
theorem zQH{β:Type}{L:Nat}{F:Nat->List β}:∀{n:Nat},(∀i,i<n->(F i).length=L)->(gl n F).flatten.length=n*L
 |0,_=>by simp[gl]
 |n+1,h=>by
  rw[zQG,Uk,J5,zQH fun i hi=>h i (by omega),K8]
  grind
theorem zU5{body:List β×Int->Option ((List β×Int)⊕List β)}(n L:Nat)(F:Nat->List β)(a0:List β)(hF:∀i,i<n->(F i).length=L)
  (h:∀i acc,i<n->acc.length=a0.length+i*L->body (acc,(i:Int))=jd (.inl (acc++F i,((i+1:Nat):Int))))(he:∀acc,body (acc,(n:Int))=jd (.inr acc)):
  zG body (a0,0)=jd (a0++(gl n F).flatten):=by
 have:=zN (body:=body) (r:=a0++(gl n F).flatten) (fun i=>(a0++(gl i F).flatten,(i:Int))) n (fun i hi=>by rw[h i _ hi (by grind[zQH]),zQG,Uk,Jg];simp) (he _)
 grind
theorem zE7{α:Type}{f:α->α}{a:α}(h:f a=a):∀k,iter k f a=a
 |0=>rfl
 |k+1=>by show iter k f (f a)=a;rw[h];exact zE7 h k
theorem zF4{x:SPr}(h:Pres x):∀(d k:Nat),k+d=x.zA.length->xC (suf x k)-> ∀m,d+1<=m-> ∀v,V (suf x k) v-> ∃w,V (suf x k) w/\mul (suf x k) v w=zeros (suf x k).length/\zP1 m x k (fv k v)=jd (fv k w)
 |0,k,hk,_,m,hm,v,hv=>by
  have h6:=h.os.1;obtain⟨m,rfl⟩:∃m',m=m'+1:=⟨m-1,by omega⟩;rw[vL]at hv ⊢
  obtain rfl:v=[]:=hv;refine⟨[],rfl,rfl,?_⟩;show b_j _ x k _=_;unfold b_j;rw[ji,zH,yH,bs]
  simp_all[zeros]
 |d+1,k,mI,hc,m,hm,v,hv=>by
  have h6:=h.os.1;obtain⟨m,rfl⟩:∃m',m=m'+1:=⟨m-1,by omega⟩;have hk:k<x.zA.length:=by omega
  have eI:=(h.os.2 k hk).pos;have hcQ:xC (suf x (k+1)):=zCs hc 1;have ih:=zF4 h d (k+1) (by omega) hcQ m (by omega);have G:=zCt h (by omega) hc;have GQ:=zCt h (by omega) hcQ;have okP:=h.okAt (k:=k) (by omega);have okQ:=h.okAt (k:=k+1) (by omega);have fT:=zAK h (by omega) hv;have cx:=yB x (k+1);obtain⟨w1,w2⟩:=zXQ h hk;rw[zY hk]at hv G okP;obtain⟨a,r,rfl⟩:∃a r,v=a::r:=by
   cases v with
   |nil=>exact hv.elim
   |cons a r=>simp
  have fQ:(lvl x k).o=at0 x.zA k:=rfl;obtain⟨⟨a0,a1⟩,hr⟩:=hv;rw[fQ]at a1;obtain⟨r',bY,hmr,mf⟩:=ih r hr;have hz:V (suf x (k+1)) (zeros (suf x (k+1)).length):=wC okQ;have hzc:zeros (lvl x k::suf x (k+1)).length=0::zeros (suf x (k+1)).length:=rfl;have tp:∀(c:Int)(u:Vec),0<=c->c<at0 x.zA k->V (suf x (k+1)) u->V (lvl x k::suf x (k+1)) (c::u):=fun c u h0 h1 hu=>⟨⟨h0,h1⟩,hu⟩
  have e2:mul (lvl x k::suf x (k+1)) (0::r) (0::r')=zeros (lvl x k::suf x (k+1)).length:=by
   rw[yJ,fQ,if_neg (by omega),hzc]
   grind[iter]
  show∃w,_/\_/\b_j (zP1 m) x k (fv k (a::r))=jd (fv k w);unfold b_j;rw[jh (by omega),zJ,tE,bs,zBO,bs,zB,bs,cs,J8,zBN,jF,show zeros (k+1)++r=fv (k+1) r from rfl,mf,bs,bs];rw[zY hk]
  by_cases ha:a=0
  ·subst ha
   rw[show((0:Int)==0)=jf from rfl,zH];exact⟨0::r',by grind,e2,by rw[fv,<-jF]⟩
  ·rw[show(a==0)=jg from by grind,zJ,yH,bs,yK hk,bs,bs,zB,bs,vD,K4,if_pos hk,bs]
   have pY:(J1 x.zA.length (0:Int)).set k (at0 x.zA k-a)=zeros k++(at0 x.zA k-a)::zeros (suf x (k+1)).length:=by
    have e:J1 x.zA.length (0:Int)=zeros k++0::zeros (x.zA.length-(k+1)):=by simp only[zeros];rw[<-Jv,Jn];congr 1;omega
    grind[zBN]
   obtain⟨w',ej,hmw,hfw⟩:=ih (lvl x k).w w2;have hA:=tp a _ a0 a1 hz;have hR:=tp 0 r (by omega) (by omega) hr;have dB:=tp 0 r' (by omega) (by omega) bY;have hT:=tp (at0 x.zA k-a) _ (by omega) (by omega) hz;have hW:=tp 0 (lvl x k).w (by omega) (by omega) w2;have bF:=tp 0 w' (by omega) (by omega) ej;have gr:sig (suf x (k+1)) (lvl x k) (zeros (suf x (k+1)).length)=zeros (suf x (k+1)).length:=by grind[sig,tL]
   have e1:mul (lvl x k::suf x (k+1)) (a::zeros (suf x (k+1)).length) (0::r)=a::r:=by rw[yJ,fQ,if_neg (by omega),show iter (0:Int).toNat (sig (suf x (k+1)) (lvl x k)) (zeros (suf x (k+1)).length)=zeros (suf x (k+1)).length from rfl,GQ.onel hr,L7]
   have e3:mul (lvl x k::suf x (k+1)) (a::zeros (suf x (k+1)).length) ((at0 x.zA k-a)::zeros (suf x (k+1)).length)=0::(lvl x k).w:=by
    rw[yJ,fQ,if_pos (by omega),zE7 gr,GQ.oner hz,GQ.oner w2]
    grind
   have e4:mul (lvl x k::suf x (k+1)) (0::(lvl x k).w) (0::w')=zeros (lvl x k::suf x (k+1)).length:=by
    rw[yJ,fQ,if_neg (by omega),hzc]
    grind[iter]
   have j7:=G.cl dB hT;have de:=G.cl j7 bF;have spA:=zEy h (k:=k) (by omega);rw[pY,show fv (k+1) r'=zeros k++0::r' from by rw[jF],spA _ _ (by grind[zY]) (by grind[zY]),bs,bs,w1,bs,hfw,bs,show fv (k+1) w'=zeros k++0::w' from by rw[jF],zY hk];have:=spA _ _ (by rw[zY hk];exact j7) (by rw[zY hk];exact bF);rw[zY hk]at this;rw[this,bs];refine⟨_,de,?_,rfl⟩;rw[<-e1,G.assoc hA hR de,<-G.assoc hR j7 bF,<-G.assoc hR dB hT,e2,G.onel hT,<-G.assoc hA hT bF,e3,e4]
theorem zHH(h:Pres x)(hc:xC (suf x 0)){v:Vec}(hv:V (suf x 0) v):∃w,V (suf x 0) w/\mul (suf x 0) v w=zeros (suf x 0).length/\zSs x v=jd w:=by obtain⟨w,h1,h2,_⟩:=zF4 h x.zA.length 0 (by omega) hc (x.zA.length+1) (by omega) v hv;refine⟨w,h1,h2,?_⟩;unfold zSs f_j;rw[zAn (r:=w) (x.zA.length+1) fun m hm=>?_,bs];obtain⟨w',g1,g2,g3⟩:=zF4 h x.zA.length 0 (by omega) hc m hm v hv;have G:=zCt h (by omega) hc;have e:w=w':=G.cancel_l hv h1 g1 (by rw[h2,g2]);rw[e];exact g3
theorem zU6{p:Int}{D:Nat}{A:List Mx}:∀(v:Vec)(o:Nat)(B:Mx),o+v.length<=A.length->wM p D A (nw o v) B=img (PM p D) (A.drop o) v B
 | [],o,B,_=>by simp[nw,wM,img]
 |a::v,o,B,h=>by
  simp only[J7]at h;have e:A.drop o=A.getD o []::A.drop (o+1):=by grind[Hq]
  rw[e];simp only[nw,img];rw[zFz,zO4,zU6 v (o+1) _ (by omega)]
theorem zC1:∀(k o:Nat),nw o (zeros k)=[]
 |0,_=>rfl
 |k+1,o=>by rw[show zeros (k+1)=0::zeros k from rfl];simp only[nw];rw[zC1 k];rfl
section
variable {x:SPr}{m:zE}{D:Nat} (h:Pres x) (hm:zUv x.zA.length m D) (hr:zF0 x m D)
 include hm
 include h hr
theorem zQI:∀(d k:Nat),k+d=x.zA.length->Rel (PM m.Prime D) (idM D) (suf x k) (m.zL.drop k)
 |0,k,hk=>by rw[vL,Uo (by rw[hm.len];omega)];exact rfl
 |d+1,k,mI=>by
  have h6:=h.os.1;have hk:k<x.zA.length:=by omega
  have gf:=hm.len;have e:m.zL.drop k=m.zL.getD k []::m.zL.drop (k+1):=by simp_all
  obtain⟨t1,t2,t3⟩:=h.tl k hk;obtain⟨r1,r2⟩:=hr k hk;have aa:∀v,Exp x.zA v k->wM m.Prime D m.zL (nw 0 v) (idM D)=img (PM m.Prime D) (m.zL.drop (k+1)) (v.drop (k+1)) (idM D):=fun v hv=>by
   have hl:=hv.1.1
   conv=>lhs;rw[zAd hv hk]
   rw[zCR,zC1,Jz,zT,zU6 _ _ _ (by grind),Ji]
  rw[zY hk,e];refine⟨?_,fun q c dd hc hd=>?_,zQI d (k+1) (by omega)⟩
  ·grind[pw,lvl,zO4]
  ·rw[Lx]at hc
   have hq:k+1+q<m.zL.length:=by grind
   have bw:c=m.zL.getD (k+1+q) []:=by grind
   have pJ:dd=((x.zF.getD k []).getD q []).drop (k+1):=by grind[lvl]
   have:=r2 (k+1+q) (by omega) (by omega);rw[show k+1+q-(k+1)=q from by omega]at this;rw[bw,pJ,this,aa _ (t3 q (by omega))]
end
theorem zE8{p:Int}(fA:c+N<=100000)(hr:∀i,i<N->Row p c (A.getD i []))(hl:A.length=N):zY8 A=jd (wd N A):=by
 unfold zY8;rw[wG (body:=zNy A) N (fun i=>A.getD i []++ur N i) (fun i acc hi ha=>by
  have h1:=(hr i hi).1;have e:wP (J1 (c+N) (0:Int)) 0 ((A.getD i []).take (((J1 (c+N) (0:Int)).length)-0))=A.getD i []++J1 N 0:=by unfold wP;rw[Jk,Jx (l:=A.getD i []) (by omega),Kc,Jz,h1,Lj];simp
  have e2:ixO (A.getD i []++J1 N (0:Int)) ((c+i:Nat):Int)=jd 0:=by rw[vD,Jm (by omega),h1,K4,if_pos (by omega)]
  unfold zNy;simp only
  rw[hl,yS hi,zH,yA [],bs,h1,<-Hn,zB,bs,yH,bs,<-Hn,zB,bs,e,e2,bs,J8,U6 _ _ (by omega),h1,H4,uB,sO,zV (by simp;omega),bs,zB,bs,cs];rfl) (fun acc=>by
  unfold zNy
  grind),bs]
 rfl
theorem zMF{p:Int}(hp:Prime p){n:Nat}(hn:n<=100000){R:Mx}(h:Red p n R pv):f_q p R=jd R/\f_i p R=jd R:=by
 have h7:=hp.pos;have hl:R.length<=n:=h.len_le;obtain⟨R2,pv2,r1,r2,r3,r4⟩:=sK hp hn (rows:=R) (by omega) h.row;have e:=r3.unique (by omega) h r4
 grind
section
variable {p:Int} (hp:Prime p) {c N:Nat} (fA:c+N<=100000) {A W:Mx}{pv:Nat->Nat}{t:Nat}
 include hp fA
theorem zMG(h:Nul p c N A W pv t):zG (zS5 (c:Int) W) ([],0)=jd (nul c t W):=by
 have h7:=hp.pos;have hf:=h.full hp fA;have fd:=h.le;have:=zN (body:=zS5 (c:Int) W) (r:=nul c t W) (fun i=>(gl (i-t) (fun k=>(W.getD (t+k) []).drop c),(i:Int))) W.length (fun i hi=>by
  have hr:=h.red.row i hi;have h1:=h.red.one i hi;have e0:zR (W.getD i []) 0 (c:Int)=jd ((W.getD i []).take c):=by unfold zR;rw[if_pos ⟨by omega,by omega,by rw[hr.1];omega⟩,J8,show(0:Int).toNat=0 from rfl,Uf,Nat.sub_zero]
  have eM:((W.getD i []).take c).length=c:=by rw[Kd,hr.1];omega
  have hz:=zKG (v:=(W.getD i []).take c);unfold zS5;simp only
  rw[yS hi,zH,yA [] hi,bs,e0,bs];rcases Jo i t with g|g
  ·have eK:=h.lo i g
   rcases hz with⟨_,z⟩|⟨z,_⟩
   ·grind
   ·rw[z,bs,zJ,zB,bs,cs,show i-t=0 from by omega,show i+1-t=0 from by omega]
  ·have fy:=h.hi i g hi
   have e:zR (W.getD i []) (c:Int) ((W.getD i []).length:Int)=jd ((W.getD i []).drop c):=by unfold zR;rw[if_pos (by grind),J8,J8,Jx (by rw[Kk];omega)]
   rcases hz with⟨z,_⟩|⟨_,z⟩
   ·rw[z,bs,zH,e,bs,zV (by grind),bs,zB,bs,cs,show i+1-t=(i-t)+1 from by omega,<-zA7,show t+(i-t)=i from by omega]
   ·refine absurd (fun j hj=>?_) z
    rw[eM]at hj;rw[zU3 hj];have:=h.red.low i hi j (by omega);omega) (by
  unfold zS5;simp only
  rw[tQ,zJ];rfl)
 grind
theorem zF5(hr:∀i,i<N->Row p c (A.getD i []))(hl:A.length=N):∃K pk,zYC p A (c:Int)=jd K/\f_Z p A (c:Int)=jd K/\Red p N K pk/\ ∀x,Sp p N K x↔ ∀j,j<c->(S N fun k=>at0 x k*ent A k j)%p=0:=by
 obtain⟨W,pv,t,h1,h2,h3⟩:=Nul.get hp fA hr hl;refine⟨nul c t W,_,?_,?_,h1.nred hp fA,fun x=>h1.nsp hp fA⟩
 ·grind[zYC,zRM,zRN]
 ·unfold f_Z
  rw[zE8 fA hr hl,bs,h3,bs,zMG hp fA h1,bs,(zMF hp (by omega) (h1.nred hp fA)).2,bs]
end
section
variable {x:SPr} (h:Pres x)
 include h
theorem zU7:∀k,k<=x.zA.length->2*((Jd k).flatMap (R2 x)).length+k*k+k=2*(x.zA.length*k)
 |0,_=>by simp
 |k+1,hk=>by
  have ih:=zU7 k (by omega);have t2:=(h.tl k (by omega)).2.1;have e:((Jd (k+1)).flatMap (R2 x)).length=((Jd k).flatMap (R2 x)).length+(x.zF.getD k []).length:=by grind[Kz,R2]
  grind
theorem zRO:2*(wL x).length=x.zA.length*(x.zA.length+1):=by
 have:=zU7 h x.zA.length (Je _)
 grind[wL]
end
theorem zMH{α:Type}{F:α->List Int}{D c:Nat}(hc:c<D):∀(L:List α)(a:Nat)(q:α),(∀q∈L,(F q).length=D)->L[a]? =jd q->at0 ((L.map F).flatten) (a*D+c)=at0 (F q) c
 | [],a,q,_,h=>by simp at h
 |y::L,0,q,hF,h=>by grind
 |y::L,a+1,q,hF,h=>by have h1:=hF y (by simp);simp only[Jbb]at h;rw[Ju,Hr,zCU,K8,if_neg (by omega),show a*D+D+c-(F y).length=a*D+c from by omega];exact zMH hc L a q (by grind) h
theorem zF6{α:Type}{F:α->List Int}{D:Nat}:∀(L:List α),(∀q∈L,(F q).length=D)->((L.map F).flatten).length=L.length*D
 | [],_=>by simp
 |y::L,h=>by
  have:=zF6 L fun q hq=>h q (by simp[hq])
  grind
def zJ7{α:Type}(N:Nat)(F:Nat->α->List Int)(L:List α):Mx:=gl N fun k=>(L.map (F k)).flatten
section
variable {α:Type}{p:Int}{N D:Nat}{F:Nat->α->List Int} (hF:∀k,k<N-> ∀q,Row p D (F k q))
 include hF
theorem zF7(L:List α):∀k,k<N->Row p (L.length*D) ((zJ7 N F L).getD k []):=by
 intro k hk;rw[zJ7,xI hk];refine zQD.2 ⟨zF6 L fun q _=>(hF k hk q).1,fun v hv=>?_⟩;obtain⟨r,h1,h2⟩:=Jaz.1 hv;obtain⟨q,_,rfl⟩:=Jc.1 h1
 grind[zQD]
end
def zGo(n D:Nat)(v:List Int):Mx:=gl n fun i=>mkv D fun j=>at0 v (i*D+j)
theorem zU8{v:List Int}(h:a+D<=v.length):(v.drop a).take D=mkv D fun j=>at0 v (a+j):=by
 have hl:((v.drop a).take D).length=D:=by grind
 rw[vE hl]
 grind[zX]
theorem zF8{v:List Int}(h:a+D<=v.length:=by omega):zR v (a:Int) ((a+D:Nat):Int)=jd (mkv D fun j=>at0 v (a+j)):=by unfold zR;rw[if_pos (by omega),J8,J8,H4,zU8 h]
theorem yBg{p:Int}{n:Nat}{v:List Int}(hv:Row p (n*D) v):VOk n p D (zGo n D v):=by
 refine⟨wK,fun i hi=>?_⟩;rw[zGo,xI hi];refine⟨zU _ _,fun j hj=>?_⟩;rw[zW hj];have:i*D+D<=n*D:=by
  have:=Kb D (show i+1<=n by omega)
  grind
 exact hv.2 _ (by omega)
theorem zQJ{n:Nat}(hi:i<n):i*D+D<=n*D:=by
 have:=Kb D (show i+1<=n by omega)
 grind
theorem zHI{n:Nat}(hD:1<=D){v:List Int}(hl:v.length=n*D)(hs:n*D<=100000:=by omega):zSv v (D:Int)=jd (zGo n D v):=by
 have hn:n<=n*D:=Jav n hD;have:=zN (body:=zN5 v (D:Int)) (r:=zGo n D v) (fun i=>(gl i fun i=>mkv D fun j=>at0 v (i*D+j),((i*D:Nat):Int))) n (fun i hi=>by
  have h1:=zQJ (D:=D) hi;unfold zN5;simp only
  rw[ji,zH,<-Hn,zB,bs,zF8,bs,jJ (by grind[zU]),bs,zV (by rw[wK];simp;omega),bs,bs,zA7,<-K8]) (by
  unfold zN5;simp only
  rw[jh (by omega),zJ];rfl)
 grind[zSv]
theorem zU9{n:Nat}(hD:1<=D)(hD3:D<=1000){v:List Int}(hl:v.length=n*D)(hs:n*D<=100000:=by omega):zWE v (D:Int)=jd (zGo n D v):=by
 have hn:n<=n*D:=Jav n hD;have:=zN (body:=zNB v (D:Int)) (r:=zGo n D v) (fun i=>(gl i fun i=>mkv D fun j=>at0 v (i*D+j),((i*D:Nat):Int))) n (fun i hi=>by
  have h1:=zQJ (D:=D) hi;unfold zNB;simp only
  rw[<-Hn,zB,bs,ji,zH,bs,zF8,bs,tE (by grind[zU]),bs,zV (by rw[wK];simp;omega),bs,bs,zA7,<-K8]) (by
  unfold zNB;simp only
  rw[<-Hn,zB,bs,jh (by omega),zJ];rfl)
 grind[zWE]
section
variable {x:SPr} (h:Pres x) {m:zE}{D:Nat} (hm:MOk x.zA.length m D)
 include h hm
section
variable {vals:Mx} (hv:VOk x.zA.length m.Prime D vals)
 include hv
theorem zOI:f_s x m vals=jd ((wL x).map (dfc m D vals)):=by
 have h6:=h.os.1;have h7:=hm.p.pos;have h3:=hm.d3;have p9:=h.pl;have gy:=h.cl;have hz:=zF2 (p:=m.Prime) (D:=D);unfold f_s;rw[hm.d,yH,bs];have e1:=wG (body:=zWG x m vals D) x.zA.length (fun i=>dfc m D vals (r1 x i)) (fun i acc hi ha=>by
  obtain⟨p1,p2⟩:=zAf h.os (h.tl i hi).1;have ho:=(h.os.2 i hi).pos;unfold zWG;simp only
  rw[yS hi,zH];rw[uV (S:=Row m.Prime D) (body:=zWF x m vals (acc,(i:Int))) (fun v=>v) (fun v=>stp m D vals v i) (at0 x.zA i) (by omega) (by grind[zB4]) (fun u q hu hq=>by
   unfold zWF;simp only
   rw[yK hi,bs,ji hq,zH,zBl hm h6 hv hu hi,bs,zB,bs,cs]) (fun u hu=>by
   unfold zWF;simp only
   rw[yK hi,bs,jh (by omega),zJ]) hz,bs,zB,bs,yA [],bs,zFZ hm h6 hv hz p1 p2,bs,<-zO5]
  have e1:f_x m.Prime (ev m D vals (z0 D) (J1 (at0 x.zA i).toNat i)) (m.Prime-1) (ev m D vals (z0 D) (nw 0 (x.zP.getD i [])))=jd (dfc m D vals (r1 x i)):=by rw[uR hm.p (zDJ hm h6 hv hz _) (zDJ hm h6 hv hz _) (by omega) (by omega),zB3];rfl
  grind[zV,zB]) (fun acc=>by
  unfold zWG;simp)
 rw[e1,bs];have iI:=zK8 h;have e2:=zN (body:=zWI x m vals D) (r:=(wL x).map (dfc m D vals)) (fun i=>(((Jd x.zA.length).map (fun i=>dfc m D vals (r1 x i)))++((Jd i).flatMap (R2 x)).map (dfc m D vals),(i:Int))) x.zA.length (fun i hi=>by
  have t2:=(h.tl i hi).2.1;have hfi:=iI i (by omega);unfold zWI;simp only
  rw[yS hi,zH,zB,bs,cs];have gK:=zN (body:=zWH x m vals D (((Jd x.zA.length).map (fun i=>dfc m D vals (r1 x i)))++((Jd i).flatMap (R2 x)).map (dfc m D vals),(i:Int)))
   (r:=((Jd x.zA.length).map (fun i=>dfc m D vals (r1 x i)))++((Jd (i+1)).flatMap (R2 x)).map (dfc m D vals))
   (fun j=>(((Jd x.zA.length).map (fun i=>dfc m D vals (r1 x i)))++((Jd i).flatMap (R2 x)).map (dfc m D vals)++(Jd j).map (fun j=>dfc m D vals (r2 x i j)),((i+1+j:Nat):Int))) (x.zF.getD i []).length (fun j hj=>by
   obtain⟨c1,c2⟩:=zAf h.os ((h.tl i hi).2.2 j hj);have fL:i+1+j<x.zA.length:=by omega
   have s1:=zBl hm h6 hv hz fL;have s2:=zBl hm h6 hv (zB4 hm h6 hv (v:=z0 D) (w:=i+1+j)) hi;have s3:=zBl hm h6 hv hz hi;have s4:=zFZ hm h6 hv (zB4 hm h6 hv (v:=z0 D) (w:=i)) c1 c2;unfold zWH;simp only
   rw[yS fL,zH,s1,bs,s2,bs,s3,bs,yA [],bs,zB,bs,zB,bs,show(((i+1+j:Nat):Int)-(i:Int)-1)=(j:Int)from by omega,yA [] hj,bs,s4,bs,zB,bs];have e2:f_x m.Prime (stp m D vals (stp m D vals (z0 D) (i+1+j)) i) (m.Prime-1) (ev m D vals (stp m D vals (z0 D) i) (nw 0 ((x.zF.getD i []).getD j [])))=jd (dfc m D vals (r2 x i j)):=by
    rw[uR hm.p (zB4 hm h6 hv) (by grind[zDJ,zB4]) (by omega) (by omega),zB3];simp only[dfc,r2,ev,Ga,List.foldl_nil]
    grind
   rw[e2,bs,zV (by grind[Jf]),bs,zB,bs,cs,Kz,K6,Jg];rfl) (by
   unfold zWH;simp only
   rw[show i+1+(x.zF.getD i []).length=x.zA.length from by omega,tQ,zJ,Kz (n:=i),U5,K6,<-Jg];simp[R2])
  simp_all) (by
  unfold zWI;simp only
  rw[tQ,zJ];simp only[wL,K6,Jb1];rfl)
 simp_all
end
def uv(n D k:Nat):Mx:=zGo n D (wZ (n*D) k)
theorem zQK:VOk x.zA.length m.Prime D (uv x.zA.length D k):=by have _:=h;have h7:=hm.p.pos;exact yBg (zRK h7.1)
theorem zOJ:∀k,k<x.zA.length*D-> ∀q,Row m.Prime D (dfc m D (uv x.zA.length D k) q):=fun k _ q=>by have _:=h;exact qT hm.p
theorem zUA:zSv (wZ (x.zA.length*D) k) (D:Int)=jd (uv x.zA.length D k):=by have h6:=h.os.1;have h3:=hm.d3;have fW:x.zA.length*D<=14*3:=Jq h6 h3;exact zHI hm.d1 (zU _ _)
theorem yBh:zWE (wZ (x.zA.length*D) k) (D:Int)=jd (uv x.zA.length D k):=by have h6:=h.os.1;have h3:=hm.d3;have fW:x.zA.length*D<=14*3:=Jq h6 h3;exact zU9 hm.d1 (by omega) (zU _ _)
theorem zHJ{vals:Mx}{L:List Rl}:((L.map (dfc m D vals)).flatten).length=L.length*D:=by have _:=h;have _:=hm;grind[zF6,zM6]
theorem zGp:zWJ x m=jd (zJ7 (x.zA.length*D) (fun k=>dfc m D (uv x.zA.length D k)) (wL x)):=by
 have h6:=h.os.1;have h3:=hm.d3;have fW:x.zA.length*D<=14*3:=Jq h6 h3;have cz:=zKA h hm (zQK h hm (k:=0));have aA:(wL x).length*D<=300*3:=Jq cz h3;unfold zWJ;rw[hm.d,<-Up,zB,bs];rw[wG (body:=zND x m ((x.zA.length*D:Nat):Int)) (x.zA.length*D) (fun k=>((wL x).map (dfc m D (uv x.zA.length D k))).flatten) (fun k acc hk ha=>by
  unfold zND;simp only
  rw[yS hk,zH,qE hk,bs,hm.d,zUA h hm,bs,zKB h hm (zQK h hm (k:=k)),bs,qO (by simp;omega) (by rw[zHJ h hm];omega),bs,zV (by simp;omega),bs,zB,bs,cs]) (fun acc=>by
  unfold zND;simp),bs]
 rfl
theorem zRP:(J1 N (0:Int)).set k 1=wZ N k:=by have _:=h;have _:=hm;rw[uB,sO,wZ]
theorem zGb:zYH x m=jd (zJ7 (x.zA.length*D) (fun k=>dfc m D (uv x.zA.length D k)) (wL x)):=by
 have h6:=h.os.1;have h3:=hm.d3;have fW:x.zA.length*D<=14*3:=Jq h6 h3;have cz:=zKA h hm (zQK h hm (k:=0));have aA:(wL x).length*D<=300*3:=Jq cz h3;unfold zYH;rw[hm.d,<-Up,zB,bs];rw[wG (body:=zNC x m ((x.zA.length*D:Nat):Int)) (x.zA.length*D) (fun k=>((wL x).map (dfc m D (uv x.zA.length D k))).flatten) (fun k acc hk ha=>by
  unfold zNC;simp only
  rw[yS hk,zH,yH,bs,vD,K4,if_pos hk,bs,J8,zRP h hm,hm.d,yBh h hm,bs,zOI h hm (zQK h hm (k:=k)),bs,zRJ (by simp;omega) (by rw[zHJ h hm];omega),bs,zV (by simp;omega),bs,zB,bs,cs]) (fun acc=>by
  unfold zNC;simp),bs]
 rfl
end
theorem zHK:(mkv N f).drop c=mkv (N-c) fun i=>f (c+i):=by
 have hl:((mkv N f).drop c).length=N-c:=by rw[Kk,zU]
 grind[vE,zX,zHG,zW]
theorem kH{n:Nat}:xG n j=mkv n fun i=>if i=j then 1 else 0:=by rw[xG,show zeros n=J1 n (0:Int)from rfl,uB,sO]
theorem wH{n:Nat}:at0 (zeros n) i=0:=by
 rcases Jo i n with g|g
 ·simp[zeros,at0,J2,g]
 ·simp[zeros,at0,J2,g]
theorem zDp.p(h:zDp x)(hl:x.zA.length<=14):Pres x:=⟨⟨hl,h.os.2⟩,h.pl,h.cl,h.tl⟩
structure ExB (n D:Nat) (x:SPr) (m:zE) (T:Mx):Prop where
 hn:n<=6
 o:x.zA.length=n
 p:x.zP.length=n
 c:x.zF.length=n
 cl:∀i,i<n->(x.zF.getD i []).length=n-1-i
 t:T.length=base n n
 m:zUv n m D
section
variable {D:Nat}{x:SPr}{m:zE}{T:Mx} (h:Pres x) (hE:ExB x.zA.length D x m T) (hT:∀i,i<T.length->Row m.Prime D (T.getD i []))
 include h hE hT
abbrev exx(D:Nat)(x:SPr)(m:zE)(T:Mx):SPr:=ext x.zA.length D x m T
theorem xV:(exx D x m T).zA.length=x.zA.length+D:=by have _:=h;have _:=hE;have _:=hT;simp[exx,ext]
theorem tB(hi:i<x.zA.length):at0 (exx D x m T).zA i=at0 x.zA i:=by
 have _:=h;have _:=hE;have _:=hT;show at0 (x.zA++J1 D m.Prime) i=_
 grind
theorem zB8(hi:x.zA.length<=i)(h2:i<x.zA.length+D):at0 (exx D x m T).zA i=m.Prime:=by
 have _:=h;have _:=hE;have _:=hT;show at0 (x.zA++J1 D m.Prime) i=_
 grind
theorem zOK{v t:List Int}(hv:v.length=x.zA.length)(hr:∀j,j<x.zA.length->0<=at0 v j/\at0 v j<=at0 x.zA j-1)(hz:∀j,j<=i->j<x.zA.length->at0 v j=0)(ht:Row m.Prime D t)(hi:i<x.zA.length):Exp (exx D x m T).zA (v++t) i:=by
 have hl:=xV h hE hT;refine⟨⟨by rw[J5,hv,ht.1,hl],fun j hj=>?_⟩,fun j hj=>?_⟩
 ·rw[J5,hv,ht.1]at hj
  rw[zCU,hv];split
  ·grind[tB]
  ·next g=>rw[zB8 h hE hT (by omega) hj];exact ht.2 _ (by omega)
 grind
theorem zMI(i:Nat)(hi:i<base x.zA.length x.zA.length):Row m.Prime D (T.getD i []):=by have _:=h;exact hT i (by rw[hE.t];exact hi)
theorem zE9:zDp (exx D x m T):=by
 have hn:=hE.hn;have h3:=hE.m.d3;have h7:=hE.m.p.pos;have hl:=xV h hE hT;have hb:=xY x.zA.length (by omega);refine⟨⟨trivial,fun i hi=>?_⟩,by rw[hl];exact wK,by rw[hl];exact wK,fun i hi=>?_⟩
 ·rw[hl]at hi
  rcases Jo i x.zA.length with g|g
  ·rw[tB h hE hT g];exact h.os.2 i g
  ·rw[zB8 h hE hT g hi];exact hE.m.p
 ·rw[hl]at hi
  have hP:(exx D x m T).zP.getD i []=exP x.zA.length D x T i:=xI hi;have hC:(exx D x m T).zF.getD i []=exC x.zA.length D x m T i:=by
   show(gl (x.zA.length+D) (exC x.zA.length D x m T)).getD i []=_
   grind
  refine⟨?_,?_,?_⟩
  ·rw[hP,exP]
   rcases Jo i x.zA.length with g|g
   ·rw[if_pos g]
    obtain⟨t1,_,_⟩:=h.tl i g;exact zOK h hE hT t1.1.1 (fun j hj=>t1.1.2 j (by rw[t1.1.1];exact hj)) (fun j hj _=>t1.2 j hj) (by grind[zMI]) g
   ·rw[if_neg (by omega)]
    have hz:∀j,at0 (J1 (x.zA.length+D) (0:Int)) j=0:=fun j=>wH
    refine⟨⟨by grind,fun j hj=>?_⟩,fun j _=>hz j⟩;rw[Jk]at hj;rw[hz];rcases Jo j x.zA.length with g2|g2
    ·rw[tB h hE hT g2];have:=(h.os.2 j g2).pos;omega
    grind[zB8]
  ·grind[exC,unC]
  ·rw[hC,exC]
   split
   ·next g=>
    intro j hj;rw[wK]at hj;rw[xI hj,exF];split
    ·next g2=>
     have gy:=hE.cl i g;have fw:=zAa x.zA.length (by omega) i g;obtain⟨_,_,t3⟩:=h.tl i g;have t:=t3 j (by omega);exact zOK h hE hT t.1.1 (fun q hq=>t.1.2 q (by rw[t.1.1];exact hq)) (fun q hq _=>t.2 q hq) (by grind[zMI]) g
    ·next g2=>
     have hz:∀j,at0 (J1 x.zA.length (0:Int)) j=0:=fun j=>wH
     refine zOK h hE hT (by simp) (fun q hq=>?_) (fun q _ _=>hz q) ((hE.m.mat i g).2 _ (by omega)) g;rw[hz];have:=(h.os.2 q hq).pos;omega
   ·next g=>
    intro j hj;rw[unC,wK]at hj;rw[unC,xI hj];refine⟨⟨by rw[hl];exact zU _ _,fun q hq=>?_⟩,fun q hq=>?_⟩
    ·rw[wZ,zU]at hq
     rw[wZ,zW hq];rcases Jo q x.zA.length with g2|g2
     ·rw[tB h hE hT g2];have:=(h.os.2 q g2).pos;omega
     grind[zB8]
    ·rw[wZ,zW,if_neg (by omega)]
theorem zBn(hk:k<x.zA.length):(lvl (exx D x m T) k).o=at0 x.zA k:=tB h hE hT hk
theorem zHL(hk:k<x.zA.length):(lvl (exx D x m T) k).w=(lvl x k).w++T.getD k []:=by have t1:=(h.tl k hk).1.1.1;have _:=hE;have _:=hT;show((exx D x m T).zP.getD k []).drop (k+1)=_;have hP:(exx D x m T).zP.getD k []=exP x.zA.length D x T k:=xI;rw[hP,exP,if_pos hk,Ks (by omega)];rfl
def eC1(x:SPr)(T:Mx)(k:Nat):List Vec:=gl (x.zA.length-1-k) fun j=>(lvl x k).cs.getD j []++T.getD (base x.zA.length k+j) []
def eC2(x:SPr)(m:zE)(D k:Nat):List Vec:=((gl D fun j=>(m.zL.getD k []).getD j []).map fun r=>zeros (x.zA.length-1-k)++r)
theorem zB9(hk:k<x.zA.length):(lvl (exx D x m T) k).cs=eC1 x T k++eC2 x m D k:=by
 have gy:=hE.cl k hk;have _:=hT;show((exx D x m T).zF.getD k []).map (·.drop (k+1))=_;have hC:(exx D x m T).zF.getD k []=exC x.zA.length D x m T k:=by
  show(gl (x.zA.length+D) (exC x.zA.length D x m T)).getD k []=_
  grind
 rw[hC,exC,if_pos hk];apply Kx;intro j
 by_cases hj:j<x.zA.length+D-1-k
 ·have e1:((gl (x.zA.length+D-1-k) (exF x.zA.length x m T k)).map (·.drop (k+1)))[j]? =jd ((exF x.zA.length x m T k j).drop (k+1)):=by grind
  rw[e1,exF]
  by_cases g:j<x.zA.length-1-k
  ·rw[if_pos g,K1 (by grind[eC1])]
   have t:=(h.tl k hk).2.2 j (by omega);rw[Ks (by have:=t.1.1;omega)];have e2:(eC1 x T k)[j]? =jd ((lvl x k).cs.getD j []++T.getD (base x.zA.length k+j) []):=by simp[eC1,gl,g]
   rw[e2]
   congr 2
   simp only[lvl,J2,Jw]
   grind
  ·rw[if_neg g,Jm (by grind[eC1]),eC1,wK]
   have e2:(eC2 x m D k)[j-(x.zA.length-1-k)]? =jd (zeros (x.zA.length-1-k)++(m.zL.getD k []).getD (j-(x.zA.length-1-k)) []):=by simp[eC2,gl,show j-(x.zA.length-1-k)<D by omega]
   rw[e2,Ks (by simp;omega),Lj,show x.zA.length-(k+1)=x.zA.length-1-k from by omega];rfl
 ·rw[Lf (by grind),Lf (by simp[eC1,eC2,gl];omega)]
end
def tlv(p:Int):Nat->Pcp
 |0=>[]
 |d+1=>⟨p,zeros d,wA d⟩::tlv p d
theorem zG4{p:Int}:∀d,(tlv p d).length=d
 |0=>rfl
 |d+1=>by simp[tlv,zG4 d]
theorem zDs{p:Int}:∀(d:Nat)(v:Vec),V (tlv p d) v↔Row p d v
 |0,v=>by
  constructor
  ·intro h
   obtain rfl:v=[]:=h;exact⟨rfl,fun i hi=>by omega⟩
  ·intro h
   have:=Ke h.1;subst this;exact rfl
 |d+1,v=>by
  cases v with
  |nil=>exact⟨fun h=>h.elim,fun h=>by have:=h.1;grind⟩
  |cons a v=>
   show((0<=a/\a<p)/\V (tlv p d) v)↔_;rw[zDs d v];constructor
   ·rintro⟨⟨h0,h1⟩,h2⟩
    refine⟨by simp[h2.1],fun i hi=>?_⟩;cases i with
    |zero=>grind
    |succ i=>have:=h2.2 i (by omega);grind
   ·intro h
    have h0:=h.2 0 (by omega);simp only[at0,Gp]at h0;refine⟨⟨h0.1,by omega⟩,by have:=h.1;grind,fun i hi=>?_⟩;have:=h.2 (i+1) (by omega)
    grind
abbrev adv(p:Int)(D:Nat)(u v:List Int):List Int:=mkv D fun j=>(at0 u j+at0 v j)%p
theorem sP{p:Int}{v:List Int}(hp:0<p:=by omega):Row p D (adv p D u v):=by refine⟨zU _ _,fun j hj=>?_⟩;rw[zW hj];have e1:=Kj (at0 u j+at0 v j) (show p≠0 by omega);have e2:=Kg (at0 u j+at0 v j) hp;omega
theorem zEA{p:Int}{D:Nat}{c:List Int}(hp:0<p):∀(k:Nat)(acc:List Int),Row p D acc->iter k (fun w=>adv p D w c) acc=mkv D fun j=>(at0 acc j+(k:Int)*at0 c j)%p
 |0,acc,ha=>by
  show acc=_
  conv=>lhs;rw[vE ha.1]
  refine zX fun j hj=>?_
  have:=ha.2 j hj;rw[Int.natCast_zero,qb9,L7,Jp this.1 (by omega)]
 |k+1,acc,ha=>by
  show iter k (fun w=>adv p D w c) (adv p D acc c)=_;rw[zEA hp k _ (sP hp)];refine zX fun j hj=>?_
  grind[zW,Ka,K3]
theorem yBi{n:Nat}:S (n+1) f=f 0+S n fun i=>f (i+1):=by
 rw[Nat.add_comm,zG3 1 n];simp only[S]
 grind
theorem zG5{p:Int}{D:Nat}(hp:0<p):∀(cs:List Vec)(v acc:Vec),v.length=cs.length->(∀i,i<v.length->0<=at0 v i)->Row p D acc->img (adv p D) cs v acc=mkv D fun j=>(at0 acc j+S cs.length fun k=>at0 v k*ent cs k j)%p
 | [],v,acc,hl,_,ha=>by
  show acc=_
  conv=>lhs;rw[vE ha.1]
  refine zX fun j hj=>?_
  have:=ha.2 j hj;simp only[Jt,S];rw[L7,Jp this.1 (by omega)]
 |c::cs,[],acc,hl,_,_=>by simp at hl
 |c::cs,a::v,acc,hl,hv,ha=>by
  have h0:=hv 0 (by simp);simp only[at0,Gp]at h0;have gG:Row p D (iter a.toNat (fun w=>adv p D w c) acc):=vV (S:=Row p D) (fun _ _=>sP hp) _ ha;show img (adv p D) cs v (iter a.toNat (fun w=>adv p D w c) acc)=_;rw[zG5 hp cs v _ (by grind) (fun i hi=>by have:=hv (i+1) (by grind);grind) gG,zEA hp _ _ ha];refine zX fun j hj=>?_
  rw[zW hj,J7,yBi,Ka,K3,<-Ka,Ja1 h0,Int.add_assoc];rfl
theorem zCV{α:Type}{S:α->Prop}{m m':α->α->α}(hm:∀a b,S a->S b->m a b=m' a b)(hc:∀a b,S a->S b->S (m' a b)):∀(cs:List α)(v:Vec)(acc:α),(∀c∈cs,S c)->S acc->img m cs v acc=img m' cs v acc
 | [],_,_,_,_=>by simp[img]
 |c::cs,[],_,_,_=>by simp[img]
 |c::cs,a::v,acc,h1,h2=>by
  have ml:=h1 c (by simp);have e:∀k acc,S acc->iter k (fun w=>m w c) acc=iter k (fun w=>m' w c) acc/\S (iter k (fun w=>m' w c) acc):=by
   intro k
   induction k with
   |zero=>intro acc ha;exact⟨rfl,ha⟩
   |succ k ih=>
    intro acc ha;show iter k (fun w=>m w c) (m acc c)=iter k (fun w=>m' w c) (m' acc c)/\_;rw[hm acc c ha ml];exact ih _ (hc _ _ ha ml)
  show img m cs v (iter a.toNat (fun w=>m w c) acc)=img m' cs v (iter a.toNat (fun w=>m' w c) acc);rw[(e _ _ h2).1];exact zCV hm hc cs v _ (by grind) (e _ _ h2).2
theorem zCW{d:Nat}(hk:k<d)(hj:j<d):ent (wA d) k j=if j=k then 1 else 0:=by
 have e:(wA d).getD k []=xG d k:=by grind[wA]
 rw[ent,e,kH,zW hj]
theorem yX{p:Int}(hp:0<p:=by omega):Row p D (zeros D):=zF2 hp
theorem qF{p:Int}(hp:2<=p):∀(d:Nat)(u v:Vec),Row p d u->Row p d v->mul (tlv p d) u v=adv p d u v
 |0,u,v,hu,_=>by rfl
 |d+1,u,v,hu,hv=>by
  have ih:=qF hp d;have fq:=(zDs (d+1) u).2 hu;have mp:=(zDs (d+1) v).2 hv;cases u with
  |nil=>exact fq.elim
  |cons a u=>
   cases v with
   |nil=>exact mp.elim
   |cons b v=>
    obtain⟨⟨a0,a1⟩,p6⟩:=fq;obtain⟨⟨b0,b1⟩,cr⟩:=mp;have hu3:=(zDs d u).1 p6;have cY:=(zDs d v).1 cr;change a<p at a1;change b<p at b1;have ey:∀w,Row p d w->sig (tlv p d) ⟨p,zeros d,wA d⟩ w=w:=fun w hw=>by
     have dS:∀c∈wA d,Row p d c:=fun c hc=>by obtain⟨k,hk,rfl⟩:=Jc.1 hc;rw[kH];exact⟨zU _ _,by grind[zW]⟩
     unfold sig;rw[zG4,zCV (S:=Row p d) (m':=adv p d) (by omega) (fun _ _ _ _=>sP) (wA d) w _ dS (yX),zG5 (by omega) (wA d) w _ (by rw[hw.1];simp[wA]) (fun i hi=>(hw.2 i (by rw[<-hw.1];exact hi)).1) (yX)]
     conv=>rhs;rw[vE hw.1]
     refine zX fun j hj=>?_
     have gT:(wA d).length=d:=by simp[wA]
     have:=hw.2 j hj;rw[gT,wH,Ko,kF (k:=j) hj (fun k hk gc=>by rw[zCW hk hj,if_neg (Ne.symm gc),Ln]),zCW hj hj,if_pos rfl,L6,Jp this.1 (by omega)]
    have eh:∀k,iter k (sig (tlv p d) ⟨p,zeros d,wA d⟩) u=u:=by grind[zE7]
    show mul (⟨p,zeros d,wA d⟩::tlv p d) (a::u) (b::v)=_;rw[yJ,eh,ih u v hu3 cY];have hz:adv p d (zeros d) (adv p d u v)=adv p d u v:=by
     refine zX fun j hj=>?_
     rw[zW hj,wH,Ko,K3]
    rw[ih _ _ (yX) (sP),hz];have aY:adv p (d+1) (a::u) (b::v)=(a+b)%p::adv p d u v:=by
     simp only[adv,mkv,Qy,Ju,Jb1]
     congr 1
    rw[aY];split
    ·next g=>
     have g:a+b>=p:=g;have e:(a+b)%p=a+b-p:=by rw[show a+b=(a+b-p)+p from by omega,Uv,Jp (by omega) (by omega)];omega
     grind
    ·next g=>
     have g:¬a+b>=p:=g
     congr 1
     exact(Jp (by omega) (by omega)).symm
theorem zQL{α:Type}{m:α->α->α}:∀(c1:List α)(y:Vec)(c2:List α)(u:Vec)(acc:α),c1.length=y.length->img m (c1++c2) (y++u) acc=img m c2 u (img m c1 y acc)
 | [],[],_,_,_,_=>by rfl
 | [],_::_,_,_,_,h=>by simp at h
 |_::_,[],_,_,_,h=>by simp at h
 |c::c1,a::y,c2,u,acc,h=>zQL c1 y c2 u _ (by grind)
theorem zEB{α β:Type}{S:α->Prop}{m:α->α->α}{n:β->β->β}(φ:α->β)(hS:∀a b,S a->S b->S (m a b))(hm:∀a b,S a->S b->φ (m a b)=n (φ a) (φ b)):∀(cs:List α)(v:Vec)(a:α),(∀c∈cs,S c)->S a->φ (img m cs v a)=img n (cs.map φ) v (φ a)
 | [],v,a,_,_=>by rfl
 |_::_,[],_,_,_=>rfl
 |c::cs,t::v,a,hc,ha=>by
  have ml:=hc c (by simp);have e:∀k a,S a->φ (iter k (fun w=>m w c) a)=iter k (fun w=>n w (φ c)) (φ a)/\S (iter k (fun w=>m w c) a):=by
   intro k
   induction k with
   |zero=>intro a ha;exact⟨rfl,ha⟩
   |succ k ih=>
    intro a ha;have:=ih (m a c) (hS _ _ ha ml);rw[hm a c ha ml]at this;exact this
  show φ (img m cs v (iter t.toNat (fun w=>m w c) a))=img n (cs.map φ) v (iter t.toNat (fun w=>n w (φ c)) (φ a));rw[<-(e _ a ha).1];exact zEB φ hS hm cs v _ (by grind) (e _ a ha).2
theorem sY{p:Int}(hr:Row p D r):xK p D r (idM D)=r:=by
 conv=>rhs;rw[vE hr.1]
 refine zX fun j hj=>?_
 have:=hr.2 j hj;have e:∀l,l<D->ent (idM D) l j=if j=l then 1 else 0:=fun l hl=>by rw[ent,zA4 hl,zW hj]
 rw[kF (k:=j) hj (by grind),e j hj,if_pos rfl,L6,tO this]
theorem zEC{p:Int}{B:Mx}(hA:A.length=D):xK p D (xK p D r A) B=xK p D r (PM p D A B):=by
 refine zX fun j hj=>?_
 have e1:S D (fun l=>at0 (xK p D r A) l*ent B l j)%p=S D (fun l=>S D (fun i=>at0 r i*ent A i l)*ent B l j)%p:=kE (by grind[xK,zW,Jy,K3]);have e2:S D (fun l=>at0 r l*ent (PM p D A B) l j)%p=S D (fun i=>at0 r i*S D (fun l=>ent A i l*ent B l j))%p:=kE (by grind[zO2,Jy,K3]);rw[e1,e2]
 congr 1
 have e3:S D (fun l=>S D (fun i=>at0 r i*ent A i l)*ent B l j)=S D (fun l=>S D (fun i=>at0 r i*ent A i l*ent B l j)):=xT (by grind[zMx]);rw[e3,zH6];refine xT fun i _=>?_
 rw[<-zCx];exact xT (by grind)
theorem vY{p:Int}{v:List Int}(hv:Row p D v):adv p D (zeros D) v=v:=by
 conv=>rhs;rw[vE hv.1]
 refine zX fun j hj=>?_
 rw[wH,Ko,tO (hv.2 j hj)]
theorem zAp{p:Int}{v:List Int}(hv:Row p D v):adv p D v (zeros D)=v:=by
 conv=>rhs;rw[vE hv.1]
 refine zX fun j hj=>?_
 rw[wH,L7,tO (hv.2 j hj)]
theorem zUB{p:Int}{acc v:List Int}(hl:A.length=D):(mkv D fun j=>(at0 acc j+S A.length fun k=>at0 v k*ent A k j)%p)=adv p D acc (xK p D v A):=by grind[zX,xK,zW,Int.add_emod_emod]
theorem uS{p:Int}{v:List Int}:adv p D u v=adv p D v u:=by grind
theorem zXX{p:Int}{v w:List Int}(hv:Row p D v)(hw:Row p D w):adv p D u v=adv p D u w↔v=w:=by
 constructor
 ·intro h
  rw[vE hv.1,vE hw.1];refine zX fun j hj=>?_
  have e:at0 (adv p D u v) j=at0 (adv p D u w) j:=by rw[h]
  rw[adv,adv,zW hj,zW hj]at e;have h1:=hv.2 j hj;have h2:=hw.2 j hj;have h3:=Int.emod_emod_of_dvd (at0 u j+at0 v j) (Int.dvd_refl p);have e4:(at0 u j+at0 v j-at0 u j)%p=(at0 u j+at0 w j-at0 u j)%p:=by rw[Qe,e,<-Qe]
  rw[show at0 u j+at0 v j-at0 u j=at0 v j from by omega,show at0 u j+at0 w j-at0 u j=at0 w j from by omega,tO h1,tO h2]at e4;exact e4
 grind
section
variable {D:Nat}{x:SPr}{m:zE}{T:Mx} (h:Pres x) (hE:ExB x.zA.length D x m T) (hT:∀i,i<T.length->Row m.Prime D (T.getD i []))
 include h hE hT
theorem zAb:∀(d k:Nat),x.zA.length<=k->k+d=x.zA.length+D->suf (exx D x m T) k=tlv m.Prime d
 |0,k,hk,hd=>by rw[vL (by grind[xV])];rfl
 |d+1,k,hk,hd=>by
  have hl:=xV h hE hT;rw[zY,zAb d (k+1) (by omega) (by omega),tlv]
  congr 1
  have hP:(exx D x m T).zP.getD k []=exP x.zA.length D x T k:=xI;have hC:(exx D x m T).zF.getD k []=exC x.zA.length D x m T k:=by
   show(gl (x.zA.length+D) (exC x.zA.length D x m T)).getD k []=_
   grind
  unfold lvl;rw[hP,hC,exP,exC,if_neg (by omega),if_neg (by omega),zB8 h hE hT hk (by omega),Lj,show x.zA.length+D-(k+1)=d from by omega]
  congr 1
  rw[unC,wA,gl,Jb1,show x.zA.length+D-1-k=d from by omega];refine Uu fun j hj=>?_
  have hj:=Lh.1 hj;show(wZ (x.zA.length+D) (k+1+j)).drop (k+1)=xG d j;rw[wZ,zHK,kH,show x.zA.length+D-(k+1)=d from by omega];simp
theorem tK:∀(d k:Nat),k+d=x.zA.length-> ∀v,V (suf (exx D x m T) k) v↔ ∃y u,v=y++u/\V (suf x k) y/\Row m.Prime D u
 |0,k,hk,v=>by
  rw[zAb h hE hT D k (by omega) (by omega),zDs,vL (x:=x) (k:=k)];constructor
  ·intro g;exact⟨[],v,rfl,rfl,g⟩
  ·rintro⟨y,u,rfl,hy,hu⟩
   obtain rfl:y=[]:=hy;exact hu
 |d+1,k,hk,v=>by
  have hl:=xV h hE hT;have ih:=tK d (k+1) (by omega);rw[zY (x:=exx D x m T),zY (x:=x)];cases v with
  |nil=>
   refine⟨fun g=>g.elim,?_⟩
   rintro⟨y,u,e,hy,hu⟩
   cases y with
   |nil=>exact hy.elim
   |cons a y=>simp at e
  |cons a v=>
   show((0<=a/\a<(lvl (exx D x m T) k).o)/\V (suf (exx D x m T) (k+1)) v)↔_;rw[zBn h hE hT (by omega),ih v];constructor
   ·rintro⟨g,y,u,rfl,hy,hu⟩
    exact⟨a::y,u,rfl,⟨g,hy⟩,hu⟩
   ·rintro⟨y,u,e,hy,hu⟩
    cases y with
    |nil=>exact hy.elim
    |cons b y=>
     simp only[K9,Jae.injEq]at e;obtain⟨rfl,rfl⟩:=e;exact⟨hy.1,y,u,rfl,hy.2,hu⟩
theorem zDt:∀(d k:Nat),k+d=x.zA.length-> ∀y u r,V (suf x k) y->Row m.Prime D u->Row m.Prime D r->mul (suf (exx D x m T) k) (y++u) (zeros d++r)=y++adv m.Prime D u r
 |0,k,hk,y,u,r,hy,hu,hr=>by have hp:=hE.m.p.pos;rw[vL (x:=x) (k:=k)]at hy;obtain rfl:y=[]:=hy;rw[zAb h hE hT D k (by omega) (by omega)];exact qF (by omega) D u r hu hr
 |d+1,k,hk,y,u,r,hy,hu,hr=>by
  have hl:=xV h hE hT;rw[zY (x:=x)]at hy;cases y with
  |nil=>exact hy.elim
  |cons a y=>
   obtain⟨⟨a0,a1⟩,hy⟩:=hy;change a<at0 x.zA k at a1;rw[zY (x:=exx D x m T)];show mul _ (a::(y++u)) (0::(zeros d++r))=_;rw[yJ,zBn h hE hT (by omega),if_neg (by omega)];show(a+0)::mul _ (y++u) (zeros d++r)=_;rw[zDt d (k+1) (by omega) y u r hy hu hr,L7];rfl
theorem uF(hk:k<=x.zA.length+D):Pc.Ok (suf (exx D x m T) k):=(zE9 h hE hT).okAt (by grind[xV])
theorem zOL{d k:Nat}(hk:k+d=x.zA.length):∀(rs:List Vec)(v:Vec)(y u:Vec),(∀r∈rs,Row m.Prime D r)->V (suf x k) y->Row m.Prime D u->img (mul (suf (exx D x m T) k)) (rs.map fun r=>zeros d++r) v (y++u)=y++img (adv m.Prime D) rs v u
 | [],v,y,u,_,_,_=>by rfl
 |_::_,[],_,_,_,_,_=>rfl
 |c::rs,t::v,y,u,hr,hy,hu=>by
  have hp:=hE.m.p.pos;have hc:=hr c (by simp);have e:∀q u,Row m.Prime D u->iter q (fun w=>mul (suf (exx D x m T) k) w (zeros d++c)) (y++u)=y++iter q (fun w=>adv m.Prime D w c) u:=by
   intro q
   induction q with
   |zero=>intro u _;rfl
   |succ q ih=>
    intro u hu;show iter q _ (mul _ (y++u) (zeros d++c))=_;rw[zDt h hE hT d k hk y u c hy hu hc,ih _ (sP)];rfl
  show img _ (rs.map fun r=>zeros d++r) v (iter t.toNat (fun w=>mul (suf (exx D x m T) k) w (zeros d++c)) (y++u))=_;rw[e _ _ hu,zOL hk rs v y _ (by grind) hy (vV (S:=Row m.Prime D) (fun _ _=>sP) _ hu)];rfl
theorem yBj(hk:k<x.zA.length):(gl D fun j=>(m.zL.getD k []).getD j [])=m.zL.getD k []:=by
 have _:=h;have _:=hT;have hl:=(hE.m.mat k hk).1;apply Kx
 grind
def sgG(D:Nat)(x:SPr)(m:zE)(T:Mx)(k:Nat)(y:Vec):Vec:=img (mul (suf (exx D x m T) (k+1))) (eC1 x T k) y (zeros (suf (exx D x m T) (k+1)).length)
theorem qG:(eC1 x T k).length=x.zA.length-1-k:=by have _:=h;have _:=hE;have _:=hT;grind[eC1]
theorem zQM(hk:k<x.zA.length):∀c∈eC1 x T k,V (suf (exx D x m T) (k+1)) c:=by intro c hc;have ok:=uF h hE hT (k:=k) (by omega);rw[zY (by grind[xV])]at ok;exact ok.2.2.2.1 c (by grind[zB9])
theorem zAM(hk:k<=x.zA.length):zeros (suf (exx D x m T) k).length=zeros (x.zA.length-k)++zeros D:=by grind[yB,xV,zeros,Jn]
theorem zHM(hk:k<x.zA.length):V (suf (exx D x m T) (k+1)) (sgG D x m T k y):=by have ok:=uF h hE hT (k:=k+1) (by omega);exact qD (yO ok) _ _ (zQM h hE hT hk) (wC ok)
theorem zBA(hk:k<x.zA.length){u:Vec}(hy:V (suf x (k+1)) y)(hu:Row m.Prime D u):
  sig (suf (exx D x m T) (k+1)) (lvl (exx D x m T) k) (y++u)=(sgG D x m T k y).take (x.zA.length-(k+1))++adv m.Prime D ((sgG D x m T k y).drop (x.zA.length-(k+1))) (xK m.Prime D u (m.zL.getD k [])):=by
 have hp:=hE.m.p.pos;have hA:=hE.m.mat k hk;have eC:=wY h (by omega) hy;unfold sig;rw[zB9 h hE hT hk,zQL _ _ _ _ _ (by grind[qG])];show img _ (eC2 x m D k) u (sgG D x m T k y)=_;obtain⟨y1,u1,e,eD,cu⟩:=(tK h hE hT (x.zA.length-(k+1)) (k+1) (by omega) _).1 (zHM h hE hT hk (y:=y));have gL:=wY h (by omega) eD;rw[e,eC2,yBj h hE hT hk,show x.zA.length-1-k=x.zA.length-(k+1)from by omega,zOL h hE hT (by omega) _ _ _ _ (fun r hr=>?_) eD cu,zG5 (by omega) _ _ _ (by rw[hA.1,hu.1]) (fun i hi=>(hu.2 i (by rw[<-hu.1];exact hi)).1) cu,zUB hA.1,Jr gL,K0 gL];obtain⟨j,hj,rfl⟩:=H3.1 hr;have bI:=hA.1;have:=hA.2 j (by omega)
 grind
theorem zG6(hk:k<x.zA.length){u:Vec}(hu:Row m.Prime D u):
  sig (suf (exx D x m T) (k+1)) (lvl (exx D x m T) k) (zeros (x.zA.length-(k+1))++u)=zeros (x.zA.length-(k+1))++xK m.Prime D u (m.zL.getD k []):=by
 have hp:=hE.m.p.pos;have ok:=h.okAt (k:=k+1) (by omega);have hz:=wC ok;rw[yB]at hz;have e:sgG D x m T k (zeros (x.zA.length-(k+1)))=zeros (x.zA.length-(k+1))++zeros D:=by grind[sgG,tL,zAM]
 rw[zBA h hE hT hk hz hu,e,Jr (zT _),K0 (zT _),vY (wW)]
theorem zHN{k:Nat}(hk:k<x.zA.length):∀(q:Nat){u:Vec},Row m.Prime D u->
  iter q (sig (suf (exx D x m T) (k+1)) (lvl (exx D x m T) k)) (zeros (x.zA.length-(k+1))++u)=zeros (x.zA.length-(k+1))++iter q (fun u=>xK m.Prime D u (m.zL.getD k [])) u
 |0,u,_=>rfl
 |q+1,u,hu=>by have hp:=hE.m.p.pos;show iter q _ (sig _ _ _)=_;rw[zG6 h hE hT hk hu,zHN hk q (wW)];rfl
end
theorem zF9{p:Int}{D:Nat}{A:Mx}(hA:Mat p D A)(hp:2<=p){r:List Int}(hr:Row p D r):∀q,iter q (fun u=>xK p D u A) r=xK p D r (pw (PM p D) (idM D) A q)
 |0=>(sY hr).symm
 |q+1=>by
  have hm:Mat p D (pw (PM p D) (idM D) A q):=vV (S:=Mat p D) (fun _ hB=>zH7 (by omega) hB.1) q (tJ hp);unfold pw at*
  rw[xP,xP,zF9 hA hp hr q];exact zEC hm.1
theorem zOM{p:Int}(hp:0<p:=by omega):iter p.toNat (fun w=>adv p D w r) (zeros D)=zeros D:=by
 rw[zEA hp _ _ (yX hp)];rw[show zeros D=mkv D fun _=>0 from uB D];refine zX fun j hj=>?_
 rw[zW hj,Ja1 (by omega),Ko,Int.mul_emod_right]
theorem zAq{p:Int}:xK p D (zeros D) A=zeros D:=by
 rw[show zeros D=mkv D fun _=>0 from uB D];refine zX fun j hj=>?_
 rw[xT (g:=fun _=>0) fun l hl=>by rw[zW hl,qb9],sW,Int.zero_emod]
theorem zRQ{p:Int}(hq:q<D)(hA:Mat p D A):xK p D (xG D q) A=A.getD q []:=by
 have hr:=hA.2 q hq
 conv=>rhs;rw[vE hr.1]
 refine zX fun j hj=>?_
 rw[kH,kF (k:=q) hq (fun i hi gc=>by rw[zW hi,if_neg gc,qb9]),zW hq,if_pos rfl,Gs,tO (hr.2 j hj)]
theorem tP{p:Int}(hp:2<=p:=by omega):Row p D (xG D q):=by rw[kH];exact⟨zU _ _,by grind[zW]⟩
theorem zMJ(hq:q<D:=by omega):xG (N+D) (N+q)=zeros N++xG D q:=by
 rw[kY,kY hq,<-Jg]
 grind[zeros,Jn]
def aM(m:zE)(D k:Nat)(v:Vec):Mx:=img (PM m.Prime D) (m.zL.drop k) v (idM D)
theorem zUC{p:Int}(hp:2<=p):Mon (Mat p D) (PM p D) (idM D):=
 ⟨fun ha _=>zH7 (by omega) ha.1,tJ,fun ha hb _=>zMy ha.1 hb.1,fun ha=>zCQ ha,fun ha=>zCy ha⟩
section
variable {D:Nat}{x:SPr}{m:zE}{T:Mx} (h:Pres x) (hE:ExB x.zA.length D x m T) (hT:∀i,i<T.length->Row m.Prime D (T.getD i []))
 include h hE hT
theorem zUD(hk:k<x.zA.length):(eC1 x T k).map (·.take (x.zA.length-(k+1)))=(lvl x k).cs:=by
 have _:=hE;have _:=hT;have gy:=zAe h.w hk;apply Kx;intro j
 by_cases g:j<x.zA.length-(k+1)
 ·obtain⟨c,_,_,c3,c4⟩:=zEx h hk g
  have hl:=wY h (by omega) c3;have e1:((eC1 x T k).map (·.take (x.zA.length-(k+1))))[j]? =jd (((lvl x k).cs.getD j []++T.getD (base x.zA.length k+j) []).take (x.zA.length-(k+1))):=by simp[eC1,gl,show j<x.zA.length-1-k by omega]
  grind
 ·rw[Lf (by simp[eC1,gl];omega),Lf (by omega)]
theorem zMK(hk:k<x.zA.length):m.zL.drop k=m.zL.getD k []::m.zL.drop (k+1):=by
 have _:=h;have _:=hT;have hl:=hE.m.len
 grind[Hq]
theorem zXY(hk:k<x.zA.length){b:Int}:aM m D k (b::y)=PM m.Prime D (pw (PM m.Prime D) (idM D) (m.zL.getD k []) b.toNat) (aM m D (k+1) y):=by
 have M:=zUC hE.m.p.pos.1 (D:=D);unfold aM;rw[zMK h hE hT hk];refine sX M (hE.m.mat k hk) fun c hc=>?_
 obtain⟨i,hi,rfl⟩:=H3.1 (List.mem_of_mem_drop hc);have:=hE.m.mat i (by rw[<-hE.m.len];exact hi)
 grind
theorem pwM(hk:k<x.zA.length):Mat m.Prime D (pw (PM m.Prime D) (idM D) (m.zL.getD k []) q):=by have _:=h;have _:=hT;have _:=hk;have hp:=hE.m.p.pos;exact vV (S:=Mat m.Prime D) (fun _ hB=>zH7 (by omega) hB.1) q (tJ)
theorem zML:∀(d k:Nat),k+d=x.zA.length-> ∀r y v,Row m.Prime D r->V (suf x k) y->Row m.Prime D v->mul (suf (exx D x m T) k) (zeros d++r) (y++v)=y++adv m.Prime D (xK m.Prime D r (aM m D k y)) v
 |0,k,hk,r,y,v,hr,hy,hv=>by
  have hp:=hE.m.p.pos;rw[vL (x:=x) (k:=k)]at hy;obtain rfl:y=[]:=hy;rw[zAb h hE hT D k (by omega) (by omega)];have e:aM m D k []=idM D:=by unfold aM;cases m.zL.drop k<;>rfl
  rw[e,sY hr];exact qF (by omega) D r v hr hv
 |d+1,k,hk,r,y,v,hr,hy,hv=>by
  have hl:=xV h hE hT;have hp:=hE.m.p.pos;have hA:=hE.m.mat k (by omega);rw[zY (x:=x)]at hy;cases y with
  |nil=>exact hy.elim
  |cons b y=>
   obtain⟨⟨b0,b1⟩,hy⟩:=hy;change b<at0 x.zA k at b1;rw[zY (x:=exx D x m T)];show mul _ (0::(zeros d++r)) (b::(y++v))=_;have e:=zHN h hE hT (k:=k) (by omega) b.toNat hr;rw[show x.zA.length-(k+1)=d from by omega]at e;rw[yJ,zBn h hE hT (by omega),if_neg (by omega),e,zF9 hA (by omega) hr,zML d (k+1) (by omega) _ y v (wW) hy hv,Ko,zXY h hE hT (by omega),<-zEC (pwM h hE hT (by omega)).1];rfl
theorem zMM(hk:k<x.zA.length)(ih:∀a b,V (suf (exx D x m T) (k+1)) a->V (suf (exx D x m T) (k+1)) b->(mul (suf (exx D x m T) (k+1)) a b).take (x.zA.length-(k+1))=mul (suf x (k+1)) (a.take (x.zA.length-(k+1))) (b.take (x.zA.length-(k+1)))){v:Vec}(hv:V (suf (exx D x m T) (k+1)) v):
  (sig (suf (exx D x m T) (k+1)) (lvl (exx D x m T) k) v).take (x.zA.length-(k+1))=sig (suf x (k+1)) (lvl x k) (v.take (x.zA.length-(k+1))):=by
 have ok:=uF h hE hT (k:=k+1) (by omega);obtain⟨y,u,rfl,hy,hu⟩:=(tK h hE hT (x.zA.length-(k+1)) (k+1) (by omega) _).1 hv;have eC:=wY h (by omega) hy;obtain⟨y1,u1,e,eD,cu⟩:=(tK h hE hT (x.zA.length-(k+1)) (k+1) (by omega) _).1 (zHM h hE hT hk (y:=y));have gL:=wY h (by omega) eD;rw[zBA h hE hT hk hy hu,Jr (by grind),Jr eC];unfold sgG sig;rw[zEB (S:=V (suf (exx D x m T) (k+1))) (n:=mul (suf x (k+1))) (·.take (x.zA.length-(k+1))) (fun a b=>yO ok) ih _ _ _ (zQM h hE hT hk) (wC ok),zUD h hE hT hk,zAM h hE hT (by omega),Jr (zT _),yB]
theorem zG7:∀(d k:Nat),k+d=x.zA.length-> ∀a b,V (suf (exx D x m T) k) a->V (suf (exx D x m T) k) b->(mul (suf (exx D x m T) k) a b).take d=mul (suf x k) (a.take d) (b.take d)
 |0,k,hk,a,b,_,_=>by rw[vL (x:=x),Kc];rfl
 |d+1,k,hk,a,b,ha,hb=>by
  have hl:=xV h hE hT;have ih:=zG7 d (k+1) (by omega);have hd:d=x.zA.length-(k+1):=by omega
  have ok:=uF h hE hT (k:=k+1) (by omega);have ok0:=uF h hE hT (k:=k) (by omega);rw[hd]at ih;have hs:=fun v hv=>zMM h hE hT (k:=k) (by omega) ih (v:=v) hv
  rw[zY (x:=exx D x m T)]at ha hb ok0 ⊢
  rw[zY (x:=x)];cases a with
  |nil=>rfl
  |cons a u=>
  cases b with
  |nil=>rfl
  |cons b v=>
   have eh:∀q u,V (suf (exx D x m T) (k+1)) u->(iter q (sig (suf (exx D x m T) (k+1)) (lvl (exx D x m T) k)) u).take d=iter q (sig (suf x (k+1)) (lvl x k)) (u.take d)/\V (suf (exx D x m T) (k+1)) (iter q (sig (suf (exx D x m T) (k+1)) (lvl (exx D x m T) k)) u):=by
    intro q
    induction q with
    |zero=>intro u hu;exact⟨rfl,hu⟩
    |succ q ihq=>
     intro u hu;have:=ihq _ (zCo ok0 hu);rw[hd,hs u hu]at this;rw[hd];exact this
   obtain⟨aT,eR⟩:=eh b.toNat u ha.2;have hm:=yO ok eR hb.2;rw[yJ,Ky,Ky,yJ,zBn h hE hT (by omega),show(lvl x k).o=at0 x.zA k from rfl];have e1:=ih _ _ eR hb.2;rw[<-hd,aT]at e1;split
   ·rw[Ky]
    have e2:=ih _ _ ok0.2.1 hm;rw[<-hd,e1]at e2;rw[e2]
    congr 2
    have ht:=(h.tl k (by omega)).1;have hw:=qZ ht;have hwl:(lvl x k).w.length=x.zA.length-(k+1):=wY h (by omega) hw;rw[zHL h hE hT (by omega),Jr (by omega)]
   grind
end
theorem zRR{p:Int}{d:Nat}(hp:2<=p):∀c∈wA d,Row p d c:=fun c hc=>by obtain⟨k,_,rfl⟩:=Jc.1 hc;exact tP hp
theorem zXZ{p:Int}(hp:2<=p){d:Nat}{w:Vec}(hw:Row p d w):sig (tlv p d) ⟨p,zeros d,wA d⟩ w=w:=by
 unfold sig;rw[zG4,zCV (S:=Row p d) (m':=adv p d) (by grind[qF]) (fun _ _ _ _=>sP) (wA d) w _ (zRR hp) (yX),zG5 (by omega) (wA d) w _ (by rw[hw.1];simp[wA]) (fun i hi=>(hw.2 i (by rw[<-hw.1];exact hi)).1) (yX)]
 conv=>rhs;rw[vE hw.1]
 refine zX fun j hj=>?_
 have gT:(wA d).length=d:=by simp[wA]
 rw[gT,wH,Ko,kF (k:=j) hj (fun k hk gc=>by rw[zCW hk hj,if_neg (Ne.symm gc),Ln]),zCW hj hj,if_pos rfl,L6,tO (hw.2 j hj)]
structure LCn (x e:SPr) (k:Nat):Prop where
 c1:∀j,k+1<=j->j<x.zA.length->pw (mul (suf e (k+1))) (zeros (suf e (k+1)).length) ((lvl e k).cs.getD (j-(k+1)) []) (at0 e.zA j).toNat=sig (suf e (k+1)) (lvl e k) ((e.zP.getD j []).drop (k+1))
 c2:∀i,k+1<=i->i<x.zA.length-> ∀j,i+1<=j->j<x.zA.length->
  mul (suf e (k+1)) ((lvl e k).cs.getD (j-(k+1)) []) ((lvl e k).cs.getD (i-(k+1)) [])=mul (suf e (k+1)) ((lvl e k).cs.getD (i-(k+1)) []) (sig (suf e (k+1)) (lvl e k) (((e.zF.getD i []).getD (j-(i+1)) []).drop (k+1)))
 c3:sig (suf e (k+1)) (lvl e k) (lvl e k).w=(lvl e k).w
 c4:∀j,k+1<=j->j<x.zA.length->mul (suf e (k+1)) (lvl e k).w (iter (lvl e k).o.toNat (sig (suf e (k+1)) (lvl e k)) (xG (e.zA.length-(k+1)) (j-(k+1))))=mul (suf e (k+1)) (xG (e.zA.length-(k+1)) (j-(k+1))) (lvl e k).w
section
variable {D:Nat}{x:SPr}{m:zE}{T:Mx} (h:Pres x) (hE:ExB x.zA.length D x m T) (hT:∀i,i<T.length->Row m.Prime D (T.getD i []))
 include h hE hT
theorem zUE(hk:k<x.zA.length)(hj:x.zA.length<=j)(h2:j<x.zA.length+D):(lvl (exx D x m T) k).cs.getD (j-(k+1)) []=zeros (x.zA.length-(k+1))++(m.zL.getD k []).getD (j-x.zA.length) []:=by
 rw[zB9 h hE hT hk,J2,Jm (by grind[qG]),qG h hE hT,eC2]
 grind
theorem zHO(hk:k<x.zA.length)(hj:k+1<=j)(h2:j<x.zA.length):(lvl (exx D x m T) k).cs.getD (j-(k+1)) []=(lvl x k).cs.getD (j-(k+1)) []++T.getD (base x.zA.length k+(j-(k+1))) []:=by
 rw[zB9 h hE hT hk,J2,K1 (by grind[qG]),eC1]
 grind
theorem zDu(hi:i<j)(hj:j<x.zA.length):Row m.Prime D (T.getD (base x.zA.length i+(j-(i+1))) []):=by have _:=h;have hn:=hE.hn;have hb:=zAa x.zA.length (by omega) i (by omega);exact hT _ (by rw[hE.t];omega)
theorem zBB(hi:i<x.zA.length):Row m.Prime D (T.getD i []):=by have _:=h;have hn:=hE.hn;have hb:=xY x.zA.length (by omega);exact hT _ (by rw[hE.t];omega)
theorem zDL(hj:k<=j)(h2:j<x.zA.length):((exx D x m T).zP.getD j []).drop (k+1)=(x.zP.getD j []).drop (k+1)++T.getD j []:=by have t1:=(h.tl j h2).1.1.1;have _:=hE;have _:=hT;have hP:(exx D x m T).zP.getD j []=exP x.zA.length D x T j:=xI;rw[hP,exP,if_pos h2,Ks (by omega)]
theorem yBk(hk:k<x.zA.length)(hj:x.zA.length<=j)(h2:j<x.zA.length+D):((exx D x m T).zP.getD j []).drop (k+1)=zeros (x.zA.length-(k+1))++zeros D:=by
 have _:=h;have _:=hE;have _:=hT;have hP:(exx D x m T).zP.getD j []=exP x.zA.length D x T j:=xI;rw[hP,exP,if_neg (by omega),Lj]
 grind[zeros,Jn]
theorem zHP(hi:i<x.zA.length+D):(exx D x m T).zF.getD i []=exC x.zA.length D x m T i:=by
 have _:=h;have _:=hE;have _:=hT;show(gl (x.zA.length+D) (exC x.zA.length D x m T)).getD i []=_
 grind
theorem zFA(hk:k<=i)(hi:i<j)(hj:j<x.zA.length):(((exx D x m T).zF.getD i []).getD (j-(i+1)) []).drop (k+1)=((x.zF.getD i []).getD (j-(i+1)) []).drop (k+1)++T.getD (base x.zA.length i+(j-(i+1))) []:=by obtain⟨_,t2,t3⟩:=h.tl i (by omega);have t:=(t3 (j-(i+1)) (by omega)).1.1;rw[zHP h hE hT (by omega),exC,if_pos (by omega),xI,exF,if_pos (by omega),Ks (by omega)]
theorem yBl(hk:k<x.zA.length)(hi:i<x.zA.length)(hj:x.zA.length<=j)(h2:j<x.zA.length+D):(((exx D x m T).zF.getD i []).getD (j-(i+1)) []).drop (k+1)=zeros (x.zA.length-(k+1))++(m.zL.getD i []).getD (j-x.zA.length) []:=by rw[zHP h hE hT (by omega),exC,if_pos (by omega),xI,exF,if_neg (by omega),Ks (by simp;omega),Lj,show j-(i+1)-(x.zA.length-1-i)=j-x.zA.length from by omega];rfl
theorem yBm(hk:k<x.zA.length)(hi:x.zA.length<=i)(hj:i<j)(h2:j<x.zA.length+D):(((exx D x m T).zF.getD i []).getD (j-(i+1)) []).drop (k+1)=zeros (x.zA.length-(k+1))++xG D (j-x.zA.length):=by
 rw[zHP h hE hT (by omega),exC,if_neg (by omega),unC,xI,wZ,zHK,<-zMJ,kH]
 grind
theorem zYa(hr:zF0 x m D)(hk:k<x.zA.length):pw (PM m.Prime D) (idM D) (m.zL.getD k []) (at0 x.zA k).toNat=aM m D (k+1) (lvl x k).w/\
  ∀i,k<i->i<x.zA.length->PM m.Prime D (m.zL.getD i []) (m.zL.getD k [])=PM m.Prime D (m.zL.getD k []) (aM m D (k+1) ((lvl x k).cs.getD (i-(k+1)) [])):=by
 have R:=zQI h hE.m hr (x.zA.length-k) k (by omega);rw[zY hk,zMK h hE hT hk]at R;obtain⟨r1,r2,_⟩:=R;refine⟨r1,fun i h1 h2=>?_⟩;have gy:=zAe h.w hk;have hl:=hE.m.len;refine r2 (i-(k+1)) _ _ ?_ ?_
 all_goals grind
theorem zv(hk:k<=x.zA.length):V (suf x k) (zeros (x.zA.length-k)):=by
 have _:=hE;have _:=hT;have:=wC (h.okAt hk)
 grind[yB]
theorem zUF(hr:zF0 x m D)(hk:k<x.zA.length)(hc:LCn x (exx D x m T) k):LC (exx D x m T) k:=by
 have hp:=hE.m.p.pos;have hl:=xV h hE hT;have hA:=hE.m.mat k hk;obtain⟨r1,r2⟩:=zYa h hE hT hr hk;have hz:=zv h hE hT (k:=k+1) (by omega);have df:Row m.Prime D (zeros D):=yX;have hw:=(zXQ h hk).2;refine⟨fun j h1 h2=>?_,fun i h1 h2 j h3 h4=>?_,hc.c3,fun j h1 h2=>?_⟩
 ·rw[hl]at h2
  rcases Jo j x.zA.length with g|g
  ·exact hc.c1 j h1 g
  ·have hq:=hA.2 (j-x.zA.length) (by omega)
   rw[zUE h hE hT hk g h2,yBk h hE hT hk g h2,zG6 h hE hT hk df,zAq,zB8 h hE hT g h2,zAM h hE hT (by omega)];have e:=zOL h hE hT (d:=x.zA.length-(k+1)) (k:=k+1) (by omega) [(m.zL.getD k []).getD (j-x.zA.length) []] [m.Prime] _ _ (by grind) hz df;have e2:iter m.Prime.toNat (fun w=>adv m.Prime D w ((m.zL.getD k []).getD (j-x.zA.length) [])) (zeros D)=zeros D:=zOM;unfold pw;refine e.trans ?_;show zeros _++iter m.Prime.toNat (fun w=>adv m.Prime D w ((m.zL.getD k []).getD (j-x.zA.length) [])) (zeros D)=_;rw[e2]
 ·rw[hl]at h4
  rcases Jo j x.zA.length with g|g
  ·exact hc.c2 i h1 (by omega) j h3 g
  ·have hq:=hA.2 (j-x.zA.length) (by omega)
   rw[zUE h hE hT hk g h4];rcases Jo i x.zA.length with gi|gi
   ·have hAi:=hE.m.mat i gi
    have dr:=hAi.2 (j-x.zA.length) (by omega);have eL:=(kA h hk h1 gi).2.2;have ht:=zDu h hE hT (i:=k) (j:=i) (by omega) gi;rw[zHO h hE hT hk h1 gi,yBl h hE hT hk gi g h4,zG6 h hE hT hk dr,zML h hE hT _ (k+1) (by omega) _ _ _ hq eL ht,zDt h hE hT _ (k+1) (by omega) _ _ _ eL ht (wW),uS]
    congr 2
    rw[<-zB1 (by rw[hA.1];omega),<-zB1 (by rw[hAi.1];omega),r2 i (by omega) gi]
   ·have dr:=hA.2 (i-x.zA.length) (by omega)
    rw[zUE h hE hT hk gi (by omega),yBm h hE hT hk gi (by omega) h4,zG6 h hE hT hk (tP),zRQ (by omega) hA,zDt h hE hT _ (k+1) (by omega) _ _ _ hz hq dr,zDt h hE hT _ (k+1) (by omega) _ _ _ hz dr hq,uS]
 ·rw[hl]at h2 ⊢
  rcases Jo j x.zA.length with g|g
  ·have:=hc.c4 j h1 g
   grind
  ·have ht:=zBB h hE hT hk
   have hu:Row m.Prime D (xG D (j-x.zA.length)):=tP;rw[show x.zA.length+D-(k+1)=x.zA.length-(k+1)+D from by omega,show j-(k+1)=x.zA.length-(k+1)+(j-x.zA.length)from by omega,zMJ,zBn h hE hT hk,zHN h hE hT hk _ hu,zHL h hE hT hk,zF9 hA (by omega) hu,r1,zML h hE hT _ (k+1) (by omega) _ _ _ hu hw ht,zDt h hE hT _ (k+1) (by omega) _ _ _ hw ht (wW),uS]
theorem yBn(hk:x.zA.length<=k)(h2:k<x.zA.length+D):LC (exx D x m T) k:=by
 have hp:=hE.m.p.pos;have hl:=xV h hE hT;have hs:=zAb h hE hT (x.zA.length+D-(k+1)) (k+1) (by omega) (by omega);have hL:=zAb h hE hT (x.zA.length+D-(k+1)+1) k (by omega) (by omega);rw[zY,hs,tlv]at hL;have be:lvl (exx D x m T) k=⟨m.Prime,zeros (x.zA.length+D-(k+1)),wA (x.zA.length+D-(k+1))⟩:=(Jae.inj hL).1
 generalize hd:x.zA.length+D-(k+1)=d at*
 have ey:∀w,Row m.Prime d w->sig (tlv m.Prime d) ⟨m.Prime,zeros d,wA d⟩ w=w:=by grind[zXZ]
 have bN:Row m.Prime d (zeros d):=yX;have dU:∀j,(wA d).getD j []=if j<d then xG d j else[]:=fun j=>by
  by_cases g:j<d
  ·rw[if_pos g,zH0 g]
  ·rw[if_neg g,J2,Lf (by grind[wA])];rfl
 refine⟨fun j h1 h3=>?_,fun i h1 h3 j h4 h5=>?_,?_,fun j h1 h3=>?_⟩
 ·rw[hl]at h3
  have hP:(exx D x m T).zP.getD j []=exP x.zA.length D x T j:=xI;rw[hs,be,zB8 h hE hT (by omega) h3,hP,exP,if_neg (by omega),Lj,hd];show pw (mul (tlv m.Prime d)) (zeros (tlv m.Prime d).length) ((wA d).getD (j-(k+1)) []) m.Prime.toNat=sig (tlv m.Prime d) ⟨m.Prime,zeros d,wA d⟩ (zeros d);rw[ey _ bN,dU,if_pos (by omega),zG4];have e:=zCV (S:=Row m.Prime d) (m':=adv m.Prime d) (fun a b ha hb=>qF (by omega) d a b ha hb) (fun _ _ _ _=>sP) [xG d (j-(k+1))] [m.Prime] (zeros d) (by grind[tP]) bN;exact e.trans (zOM)
 ·rw[hl]at h3 h5
  rw[hs,be,zHP h hE hT h3,exC,if_neg (by omega),unC,xI,wZ,zHK,hd];have e:(mkv d fun q=>if k+1+q=i+1+(j-(i+1))then(1:Int)else 0)=xG d (j-(k+1)):=by
   rw[kH]
   grind
  rw[e,ey _ (tP)];show mul (tlv m.Prime d) ((wA d).getD (j-(k+1)) []) ((wA d).getD (i-(k+1)) [])=mul (tlv m.Prime d) ((wA d).getD (i-(k+1)) []) (xG d (j-(k+1)));rw[dU,dU,if_pos (by omega),if_pos (by omega),qF (by omega) d _ _ (tP) (tP),qF (by omega) d _ _ (tP) (tP),uS]
 ·grind
 ·rw[hl]at h3 ⊢
  have hu:Row m.Prime d (xG d (j-(k+1))):=tP;rw[hs,be,hd,zE7 (ey _ hu),qF (by omega) d _ _ bN hu,qF (by omega) d _ _ hu bN,uS]
theorem zHQ:∀(d k:Nat),x.zA.length<=k->k+d=x.zA.length+D->xC (suf (exx D x m T) k)
 |0,k,hk,hd=>by rw[vL (by grind[xV])];simp only[xC]
 |d+1,k,hk,hd=>(kD (zE9 h hE hT) (by rw[xV h hE hT];omega)).2 ⟨zHQ d (k+1) (by omega) (by omega),by grind[yBn]⟩
theorem zQN(hr:zF0 x m D):xC (suf (exx D x m T) 0)↔ ∀k,k<x.zA.length->LCn x (exx D x m T) k:=by
 have hl:=xV h hE hT;have key:∀(d k:Nat),k+d=x.zA.length->(xC (suf (exx D x m T) k)↔ ∀i,k<=i->i<x.zA.length->LCn x (exx D x m T) i):=by
  intro d
  induction d with
  |zero=>grind[zHQ]
  |succ d ih=>
   intro k hk;rw[kD (zE9 h hE hT) (by omega),ih (k+1) (by omega)];constructor
   ·rintro⟨g1,g2⟩ i h1 h2
    rcases Jo k i with g|g
    ·grind
    ·obtain rfl:i=k:=by omega
     exact⟨fun j a b=>g2.c1 j a (by omega),fun i a b j c d=>g2.c2 i a (by omega) j c (by omega),g2.c3,fun j a b=>g2.c4 j a (by omega)⟩
   grind[zUF]
 simp_all
end
def prE(x:SPr)(k:Nat)(w:Vec):zC:=⟨fv k (w.take (x.zA.length-k)),w.drop (x.zA.length-k)⟩
theorem qH{u:Vec}(hy:y.length=x.zA.length-k):prE x k (y++u)=⟨fv k y,u⟩:=by grind[prE]
theorem zBC{α α':Type}{body:α×α'×Int->Option ((α×α'×Int)⊕(α×α'))}{S:β->Prop}(e1:β->α)(e2:β->α')(g:β->β)(n:Int)(hn:0<=n)(hS:∀a,S a->S (g a))
  (h:∀a(i:Nat),S a->(i:Int)<n->body (e1 a,e2 a,(i:Int))=jd (.inl (e1 (g a),e2 (g a),((i+1:Nat):Int))))(he:∀a,S a->body (e1 a,e2 a,n)=jd (.inr (e1 a,e2 a))){a:β}(ha:S a):
  zG body (e1 a,e2 a,0)=jd (e1 (iter n.toNat g a),e2 (iter n.toNat g a)):=by
 have eh:∀k,S (iter k g a):=fun k=>vV (S:=S) hS k ha
 exact zN (body:=body) (r:=(e1 (iter n.toNat g a),e2 (iter n.toNat g a))) (fun i=>(e1 (iter i g a),e2 (iter i g a),(i:Int))) n.toNat (by grind[xP]) (by grind)
structure Mv (D n:Nat) (m0 m:zE):Prop where
 pr:m0.Prime=m.Prime
 mv:∀k,k<n-> ∀u,Row m.Prime D u->zWA m0 u (k:Int)=jd (xK m.Prime D u (m.zL.getD k []))
section
variable {D:Nat}{x:SPr}{m0 m:zE}{T:Mx} (h:Pres x) (hE:ExB x.zA.length D x m T) (hT:∀i,i<T.length->Row m.Prime D (T.getD i []))
def zUG(D:Nat)(x:SPr)(m0 m:zE)(T:Mx)(k:Nat)(g:zO->Int->zC->zC->Option zC):Prop:=
 ∀a b,V (suf (exx D x m T) k) a->V (suf (exx D x m T) k) b->g ⟨x,m0,T⟩ k (prE x k a) (prE x k b)=jd (prE x k (mul (suf (exx D x m T) k) a b))
def zUH(D:Nat)(x:SPr)(m0 m:zE)(T:Mx)(k:Nat)(g:zO->Int->zC->Option zC):Prop:=
 ∀v,V (suf (exx D x m T) (k+1)) v->g ⟨x,m0,T⟩ k (prE x (k+1) v)=jd (prE x (k+1) (sig (suf (exx D x m T) (k+1)) (lvl (exx D x m T) k) v))
 include h hE hT
theorem zQO(hk:k<=i)(hi:i<j)(hj:j<x.zA.length):zLq ⟨x,m0,T⟩ (i:Int) (j:Int)=jd (prE x (k+1) ((((exx D x m T).zF.getD i []).getD (j-(i+1)) []).drop (k+1)))/\V (suf (exx D x m T) (k+1)) ((((exx D x m T).zF.getD i []).getD (j-(i+1)) []).drop (k+1)):=by
 have hn:=hE.hn;have hb:=zAa x.zA.length (by omega) i (by omega);have ht:=hE.t;obtain⟨_,t2,t3⟩:=h.tl i (by omega);have tt:=t3 (j-(i+1)) (by omega);obtain⟨e1,e2⟩:=zCu (k:=k+1) tt;have hl:=wY h (by omega) e2;have gy:=h.cl;have hr:=zDu h hE hT hi hj;refine⟨?_,?_⟩
 ·rw[zFA h hE hT hk hi hj,qH hl,<-e1]
  unfold zLq;dsimp only
  rw[yA [],bs,zB,bs,zB,bs,show(j:Int)-(i:Int)-1=((j-(i+1):Nat):Int)from by omega,yA [],bs,zOC x.zA.length (by omega) j hj i hi,bs,yA [],bs,show j-i-1=j-(i+1)from by omega]
 ·rw[zFA h hE hT hk hi hj]
  exact(tK h hE hT (x.zA.length-(k+1)) (k+1) (by omega) _).2 ⟨_,_,rfl,e2,hr⟩
theorem zED(hk:k<j)(hj:j<x.zA.length):zLq ⟨x,m0,T⟩ (k:Int) (j:Int)=jd (prE x (k+1) ((lvl (exx D x m T) k).cs.getD (j-(k+1)) []))/\V (suf (exx D x m T) (k+1)) ((lvl (exx D x m T) k).cs.getD (j-(k+1)) []):=by
 have e:(lvl (exx D x m T) k).cs.getD (j-(k+1)) []=(((exx D x m T).zF.getD k []).getD (j-(k+1)) []).drop (k+1):=by
  have hC:((exx D x m T).zF.getD k []).length=x.zA.length+D-1-k:=by rw[zHP h hE hT (by omega),exC,if_pos (by omega),wK]
  simp only[lvl];rw[J2,Jw,J3 (by omega),J2 (l:=(exx D x m T).zF.getD k []),J3 (by omega)];rfl
 rw[e];exact zQO h hE hT (Je k) hk hj
theorem zKH(hk:k<=j)(hj:j<x.zA.length):zP8 ⟨x,m0,T⟩ (j:Int)=jd (prE x (k+1) (((exx D x m T).zP.getD j []).drop (k+1)))/\V (suf (exx D x m T) (k+1)) (((exx D x m T).zP.getD j []).drop (k+1)):=by
 have hn:=hE.hn;have hb:=xY x.zA.length (by omega);have ht:=hE.t;have p9:=h.pl;have t1:=(h.tl j hj).1;obtain⟨e1,e2⟩:=zCu (k:=k+1) t1;have hl:=wY h (by omega) e2;have hr:=zBB h hE hT hj;refine⟨?_,?_⟩
 ·rw[zDL h hE hT hk hj,qH hl,<-e1]
  grind[zP8,yA]
 ·rw[zDL h hE hT hk hj]
  exact(tK h hE hT (x.zA.length-(k+1)) (k+1) (by omega) _).2 ⟨_,_,rfl,e2,hr⟩
theorem zKI(hk:k<=x.zA.length)(h0:0<x.zA.length):zIu ⟨x,m0,T⟩=jd (prE x k (zeros (suf (exx D x m T) k).length)):=by
 have hn:=hE.hn;have h3:=hE.m.d3;have hb:=xY x.zA.length (by omega);have ht:=hE.t;have hr:=zBB h hE hT h0;have cz:=hr.1;unfold zIu;dsimp only
 have e0:ixO T 0=jd (T.getD 0 []):=by grind[yA]
 rw[ji,zH,e0,bs,yH,bs,yH,bs,zAM h hE hT hk,qH (zT _),cz,fv]
 grind[zeros,Jn]
theorem zUI{u v:Vec}(hu:Row m.Prime D u)(hv:Row m.Prime D v):f_x m.Prime u 1 v=jd (adv m.Prime D u v):=by
 have _:=h;have _:=hT;have h3:=hE.m.d3;rw[uR hE.m.p hu hv (by omega) (by omega)]
 congr 1
 exact zX (by simp)
theorem prV(hk:k<=x.zA.length){w:Vec}(hw:V (suf (exx D x m T) k) w):∃y u,w=y++u/\V (suf x k) y/\Row m.Prime D u/\prE x k w=⟨fv k y,u⟩/\y.length=x.zA.length-k:=by obtain⟨y,u,rfl,hy,hu⟩:=(tK h hE hT (x.zA.length-k) k (by omega) _).1 hw;have eC:=wY h hk hy;exact⟨y,u,rfl,hy,hu,qH eC,eC⟩
variable (hM:Mv D x.zA.length m0 m)
 include hM
theorem zMN(hk:k<x.zA.length){g:zO->Int->zC->zC->Option zC}(hg:zUG D x m0 m T (k+1) g):zUH D x m0 m T k (b_h g):=by
 intro v hv;have hn:=hE.hn;have hp:=hE.m.p.pos;have ok:=uF h hE hT (k:=k+1) (by omega);have hA:=hE.m.mat k hk;obtain⟨y,u,rfl,hy,hu,eI,eC⟩:=prV h hE hT (k:=k+1) (by omega) hv;obtain⟨_,hyr⟩:=zDG h.os (x.zA.length-(k+1)) (k+1) y (by omega) hy;have gy:=qG h hE hT (k:=k);have gY:=zQM h hE hT hk;have pL:∀i,i<x.zA.length-(k+1)->(eC1 x T k).getD i []=(lvl (exx D x m T) k).cs.getD i []:=fun i hi=>by rw[zB9 h hE hT hk,J2,J2,K1 (by omega)]
 obtain⟨A,dF⟩:∃A:Nat->Vec,∀i,A i=img (mul (suf (exx D x m T) (k+1))) ((eC1 x T k).take i) (y.take i) (zeros (suf (exx D x m T) (k+1)).length):=⟨_,fun _=>rfl⟩;have hI:∀i,V (suf (exx D x m T) (k+1)) (A i):=fun i=>by rw[dF];exact qD (yO ok) _ _ (by grind) (wC ok)
 have hA0:A 0=zeros (suf (exx D x m T) (k+1)).length:=by grind[img]
 have hAn:A (x.zA.length-(k+1))=sgG D x m T k y:=by rw[dF,Jx (by omega),Jx (by omega)];rfl
 rw[eI];unfold b_h;dsimp only
 rw[zKI h hE hT (k:=k+1) (by omega) (by omega),bs,zB,bs,cs];have:=zN (body:=zWB g ⟨x,m0,T⟩ k ⟨fv (k+1) y,u⟩) (r:=((prE x (k+1) (sgG D x m T k y)).x,(prE x (k+1) (sgG D x m T k y)).v))
  (fun i=>((prE x (k+1) (A i)).x,(prE x (k+1) (A i)).v,((k+1+i:Nat):Int))) (x.zA.length-(k+1)) (fun i hi=>by
  have hr:=hyr i hi;obtain⟨c1,c2⟩:=zED h hE hT (k:=k) (j:=k+1+i) (by omega) (by omega);rw[show k+1+i-(k+1)=i from by omega]at c1 c2;unfold zWB;dsimp only
  rw[ji (by grind[zAK]),zH];rw[zBC (S:=V (suf (exx D x m T) (k+1))) (fun w=>(prE x (k+1) w).x) (fun w=>(prE x (k+1) w).v) (fun w=>mul (suf (exx D x m T) (k+1)) w ((lvl (exx D x m T) k).cs.getD i [])) (at0 y i) hr.1 (by grind[yO]) (fun w q hw hq=>by
   unfold zYE;dsimp only
   rw[fv,zMr,bs,ji hq,zH,zB,bs,c1,bs,cs,show(zC.mk (prE x (k+1) w).x (prE x (k+1) w).v)=prE x (k+1) w from rfl,hg w _ hw c2,bs,zB,bs,cs]) (fun w hw=>by
   unfold zYE;dsimp only
   rw[fv,zMr,bs,jh (by omega),zJ]) (hI i),bs,zB,bs,cs]
  rw[dF (i+1),zBh _ _ _ _ (by omega) (by omega),pL i hi,<-dF];rfl) (by
  unfold zWB;dsimp only
  rw[jh (by grind[zAK]),zJ,hAn])
 rw[hA0,Um]at this;rw[this,bs,hM.mv k hk _ hu,bs];obtain⟨y1,u1,e,eD,cu,i6,mP⟩:=prV h hE hT (k:=k+1) (by omega) (zHM h hE hT hk (y:=y));rw[zBA h hE hT hk hy hu,i6,e,Jr mP,K0 mP,qH mP];dsimp only
 rw[hM.pr,zUI h hE hT cu (wW),bs]
theorem zUJ(hk:k<x.zA.length){g:zO->Int->zC->zC->Option zC}{gi:zO->Int->zC->Option zC}(hg:zUG D x m0 m T (k+1) g)(hi:zUH D x m0 m T k gi):zUG D x m0 m T k (b_b gi g):=by
 have _:=hM;intro a b ha hb;have hn:=hE.hn;have hl:=xV h hE hT;have hp:=(h.os.2 k hk).pos;have ok:=uF h hE hT (k:=k+1) (by omega);have ok0:=uF h hE hT (k:=k) (by omega);obtain⟨al,au,rfl,bD,hau,fH,pO⟩:=prV h hE hT (k:=k) (by omega) ha;obtain⟨bl,bu,rfl,fw,hbu,t8,hbll⟩:=prV h hE hT (k:=k) (by omega) hb;rw[fH,t8];rw[zY (x:=x) hk]at bD fw;rw[zY (x:=exx D x m T)]at ok0 ⊢
 obtain⟨a0,a,rfl⟩:∃a0 a',al=a0::a':=by cases al with|nil=>grind|cons p q=>simp
 obtain⟨b0,b,rfl⟩:∃a0 a',bl=a0::a':=by cases bl with|nil=>grind|cons p q=>simp
 obtain⟨⟨a1,a2⟩,bD⟩:=bD;obtain⟨⟨b1,b2⟩,fw⟩:=fw;change a0<at0 x.zA k at a2;change b0<at0 x.zA k at b2;have iZ:=wY h (by omega) bD;have iV:=wY h (by omega) fw;have hA:=(tK h hE hT (x.zA.length-(k+1)) (k+1) (by omega) (a++au)).2 ⟨_,_,rfl,bD,hau⟩;have hB:=(tK h hE hT (x.zA.length-(k+1)) (k+1) (by omega) (b++bu)).2 ⟨_,_,rfl,fw,hbu⟩;have own:∀u,V (suf x (k+1)) u->f_y (fv (k+1) u)=jd (fv (k+1) u):=by grind[tE,zAK]
 have own':∀(c:Int) u,V (suf x (k+1)) u->f_y (fv k (c::u))=jd (fv k (c::u)):=fun c u hu=>tE (by have:=wY h (by omega) hu;rw[fv,J5,zT,J7];omega)
 have ey:∀u,V (suf (exx D x m T) (k+1)) u->V (suf (exx D x m T) (k+1)) (sig (suf (exx D x m T) (k+1)) (lvl (exx D x m T) k) u):=by grind[zCo]
 have eh:V (suf (exx D x m T) (k+1)) (iter b0.toNat (sig (suf (exx D x m T) (k+1)) (lvl (exx D x m T) k)) (a++au)):=vV ey _ hA;have ea:(⟨fv (k+1) a,au⟩:zC)=prE x (k+1) (a++au):=(qH iZ).symm;have eb:(⟨fv (k+1) b,bu⟩:zC)=prE x (k+1) (b++bu):=(qH iV).symm;unfold b_b;dsimp only
 rw[jh (by omega),zJ,own' _ _ bD,bs,own' _ _ fw,bs,zBO,bs,zBO,bs,J8,zBN,zBN,jF,jF];have e1:zG (zSy gi ⟨x,m0,T⟩ k ⟨fv k (b0::b),bu⟩) (zeros (k+1)++a,au,0)=jd ((prE x (k+1) (iter b0.toNat (sig (suf (exx D x m T) (k+1)) (lvl (exx D x m T) k)) (a++au))).x,(prE x (k+1) (iter b0.toNat (sig (suf (exx D x m T) (k+1)) (lvl (exx D x m T) k)) (a++au))).v):=by
  have:=zBC (body:=zSy gi ⟨x,m0,T⟩ k ⟨fv k (b0::b),bu⟩) (S:=V (suf (exx D x m T) (k+1))) (fun w=>(prE x (k+1) w).x) (fun w=>(prE x (k+1) w).v) (sig (suf (exx D x m T) (k+1)) (lvl (exx D x m T) k)) b0 b1 ey (fun w q hw hq=>by
   unfold zSy;dsimp only
   rw[zBO,bs,ji hq,zH,show(zC.mk (prE x (k+1) w).x (prE x (k+1) w).v)=prE x (k+1) w from rfl,hi w hw,bs,zB,bs,cs]) (fun w hw=>by
   unfold zSy;dsimp only
   rw[zBO,bs,jh (by omega),zJ]) hA
  grind
 rw[e1,bs,zB,bs,cs];dsimp only
 rw[show zeros (k+1)++b=fv (k+1) b from rfl,eb,show(zC.mk (prE x (k+1) (iter b0.toNat (sig (suf (exx D x m T) (k+1)) (lvl (exx D x m T) k)) (a++au))).x (prE x (k+1) (iter b0.toNat (sig (suf (exx D x m T) (k+1)) (lvl (exx D x m T) k)) (a++au))).v)=prE x (k+1) (iter b0.toNat (sig (suf (exx D x m T) (k+1)) (lvl (exx D x m T) k)) (a++au))from rfl,hg _ _ eh hB,bs,bs,bs,zB,bs,yK hk,bs];have hm:=yO ok eh hB;show _=jd (prE x k (mul _ (a0::(a++au)) (b0::(b++bu))));rw[yJ,zBn h hE hT hk]
 generalize mul (suf (exx D x m T) (k+1)) (iter b0.toNat (sig (suf (exx D x m T) (k+1)) (lvl (exx D x m T) k)) (a++au)) (b++bu)=r at hm ⊢
 have fin:∀(c:Int) w,V (suf (exx D x m T) (k+1)) w->((f_y (prE x (k+1) w).x).bind fun r22=>(ixO r22 (k:Int)).bind fun _=>jd (zC.mk (r22.set k c) (prE x (k+1) w).v))=jd (prE x k (c::w)):=fun c w hw=>by
  obtain⟨w1,w2,rfl,h1,h2,h3,h4⟩:=prV h hE hT (k:=k+1) (by omega) hw;have e3:prE x k (c::(w1++w2))=⟨fv k (c::w1),w2⟩:=by grind[qH]
  rw[h3,e3];dsimp only
  rw[own _ h1,bs,fv,<-jF,zBO,bs,zBN]
 by_cases hge:a0+b0>=at0 x.zA k
 ·obtain⟨p1,p2⟩:=zKH h hE hT (k:=k) (j:=k) (Je k) hk
  change V (suf (exx D x m T) (k+1)) (lvl (exx D x m T) k).w at p2;rw[ji hge,zH,if_pos hge,bs,zB,bs,bs,p1,bs];have e4:=hg _ _ p2 hm;rw[show(((exx D x m T).zP.getD k []).drop (k+1))=(lvl (exx D x m T) k).w from rfl,e4,bs]
  grind[yO]
 ·rw[jh hge,zJ,if_neg hge]
  grind
theorem zDM:∀(d k:Nat),k+d=x.zA.length->(∀q,2*d+1<=q->zUG D x m0 m T k (zPA q))/\(1<=d-> ∀q,2*d<=q->zUH D x m0 m T k (zP9 q))
 |0,k,hk=>by
  refine⟨fun q hq a b ha hb=>?_,fun h=>by omega⟩;have hn:=hE.hn;have hp:=hE.m.p.pos;obtain⟨q,rfl⟩:∃m',q=m'+1:=⟨q-1,by omega⟩;rw[zAb h hE hT D k (by omega) (by omega)]at ha hb ⊢
  have pP:=(zDs _ _).1 ha;have gZ:=(zDs _ _).1 hb;show b_b _ _ ⟨x,m0,T⟩ k _ _=_;unfold b_b;have e:∀w:Vec,prE x k w=⟨zeros k,w⟩:=fun w=>by rw[prE,show x.zA.length-k=0 from by omega,Kc,Uf,fv,Jh]
  rw[e,e,e];dsimp only
  rw[ji,zH,yH,bs,hM.pr,zUI h hE hT pP gZ,bs,qF (by omega) D _ _ pP gZ,show x.zA.length=k from by omega];rfl
 |d+1,k,hk=>by
  obtain⟨h1,h2⟩:=zDM d (k+1) (by omega);have hI:∀q,2*(d+1)<=q->zUH D x m0 m T k (zP9 q):=fun q hq=>by obtain⟨q,rfl⟩:∃m',q=m'+1:=⟨q-1,by omega⟩;exact zMN h hE hT hM (by omega) (h1 q (by omega))
  refine⟨fun q hq=>?_,fun _=>hI⟩;obtain⟨q,rfl⟩:∃m',q=m'+1:=⟨q-1,by omega⟩;exact zUJ h hE hT hM (by omega) (h1 q (by omega)) (hI q (by omega))
theorem zEE(hk:k<=x.zA.length):zUG D x m0 m T k f_b:=fun a b ha hb=>
 zAn (2*(x.zA.length-k)+1) fun q hq=>(zDM h hE hT hM (x.zA.length-k) k (by omega)).1 q hq a b ha hb
theorem zA8(hk:k<x.zA.length):zUH D x m0 m T k f_h:=fun v hv=>
 zAn (2*(x.zA.length-k)) fun q hq=>(zDM h hE hT hM (x.zA.length-k) k (by omega)).2 (by omega) q hq v hv
end
structure GR (p:Int) (D:Nat) (Z:Vec->Prop) (L:Mx) (N:Nat) (C:Prop):Prop where
 len:L.length<=N
 row:∀r∈L,Row p D r
 iff:(∀r∈L,Z r)↔C
theorem GR.nil{p:Int}:GR p D Z [] N True:=⟨by simp,by simp,by simp⟩
theorem GR.app{p:Int}{M:Nat}{L L':Mx}{C':Prop}(h:GR p D Z L N C)(h':GR p D Z L' M C'):GR p D Z (L++L') (N+M) (C/\C'):=by
 refine⟨by have:=h.len;have:=h'.len;grind,fun r hr=>?_,?_⟩
 ·rcases Ja.1 hr with g|g
  ·exact h.row r g
  ·exact h'.row r g
 ·rw[<-h.iff,<-h'.iff]
  grind
theorem GR.one{p:Int}(hr:Row p D r)(h:Z r↔C):GR p D Z [r] 1 C:=
 ⟨by simp,by grind,by grind⟩
theorem GR.to{p:Int}{M:Nat}{L:Mx}{C':Prop}(h:GR p D Z L N C)(hN:N<=M)(hc:C↔C'):GR p D Z L M C':=⟨by have:=h.len;omega,h.row,h.iff.trans hc⟩
def c1E(e:SPr)(k j:Nat):Prop:=pw (mul (suf e (k+1))) (zeros (suf e (k+1)).length) ((lvl e k).cs.getD (j-(k+1)) []) (at0 e.zA j).toNat=sig (suf e (k+1)) (lvl e k) ((e.zP.getD j []).drop (k+1))
def c2E(e:SPr)(k i j:Nat):Prop:=mul (suf e (k+1)) ((lvl e k).cs.getD (j-(k+1)) []) ((lvl e k).cs.getD (i-(k+1)) [])=mul (suf e (k+1)) ((lvl e k).cs.getD (i-(k+1)) []) (sig (suf e (k+1)) (lvl e k) (((e.zF.getD i []).getD (j-(i+1)) []).drop (k+1)))
def c4E(e:SPr)(k j:Nat):Prop:=mul (suf e (k+1)) (lvl e k).w (iter (lvl e k).o.toNat (sig (suf e (k+1)) (lvl e k)) (xG (e.zA.length-(k+1)) (j-(k+1))))=mul (suf e (k+1)) (xG (e.zA.length-(k+1)) (j-(k+1))) (lvl e k).w
def c1Q(Q:Nat->Vec->Vec->Prop)(e:SPr)(k j:Nat):Prop:=Q (k+1) (pw (mul (suf e (k+1))) (zeros (suf e (k+1)).length) ((lvl e k).cs.getD (j-(k+1)) []) (at0 e.zA j).toNat) (sig (suf e (k+1)) (lvl e k) ((e.zP.getD j []).drop (k+1)))
def c2Q(Q:Nat->Vec->Vec->Prop)(e:SPr)(k i j:Nat):Prop:=Q (k+1) (mul (suf e (k+1)) ((lvl e k).cs.getD (j-(k+1)) []) ((lvl e k).cs.getD (i-(k+1)) [])) (mul (suf e (k+1)) ((lvl e k).cs.getD (i-(k+1)) []) (sig (suf e (k+1)) (lvl e k) (((e.zF.getD i []).getD (j-(i+1)) []).drop (k+1))))
def c4Q(Q:Nat->Vec->Vec->Prop)(e:SPr)(k j:Nat):Prop:=Q (k+1) (mul (suf e (k+1)) (lvl e k).w (iter (lvl e k).o.toNat (sig (suf e (k+1)) (lvl e k)) (xG (e.zA.length-(k+1)) (j-(k+1))))) (mul (suf e (k+1)) (xG (e.zA.length-(k+1)) (j-(k+1))) (lvl e k).w)
structure LCQ (Q:Nat->Vec->Vec->Prop) (x e:SPr) (k:Nat):Prop where
 c1:∀j,k+1<=j->j<x.zA.length->c1Q Q e k j
 c2:∀i,k+1<=i->i<x.zA.length-> ∀j,i+1<=j->j<x.zA.length->c2Q Q e k i j
 c3:Q (k+1) (sig (suf e (k+1)) (lvl e k) (lvl e k).w) (lvl e k).w
 c4:∀j,k+1<=j->j<x.zA.length->c4Q Q e k j
section
variable {D:Nat}{x:SPr}{m0 m:zE}{T:Mx} (h:Pres x) (hE:ExB x.zA.length D x m T) (hT:∀i,i<T.length->Row m.Prime D (T.getD i []))
 include h hE hT
theorem zBD(hk:k<=x.zA.length){a b:Vec}(ha:V (suf (exx D x m T) k) a)(hb:V (suf (exx D x m T) k) b):(mul (suf (exx D x m T) k) a b).take (x.zA.length-k)=mul (suf x k) (a.take (x.zA.length-k)) (b.take (x.zA.length-k)):=by grind[zG7]
theorem zDN(hk:k<x.zA.length){v:Vec}(hv:V (suf (exx D x m T) (k+1)) v):(sig (suf (exx D x m T) (k+1)) (lvl (exx D x m T) k) v).take (x.zA.length-(k+1))=sig (suf x (k+1)) (lvl x k) (v.take (x.zA.length-(k+1))):=
 by grind[zMM,zG7]
theorem zFB(hk:k<x.zA.length){v:Vec}(hv:V (suf (exx D x m T) (k+1)) v):V (suf (exx D x m T) (k+1)) (sig (suf (exx D x m T) (k+1)) (lvl (exx D x m T) k) v):=by
 have gz:=uF h hE hT (k:=k) (by omega);rw[zY (x:=exx D x m T) (by grind[xV])]at gz
 grind[zCo]
theorem zKJ{k:Nat}(hk:k<x.zA.length):∀(q:Nat){v:Vec},V (suf (exx D x m T) (k+1)) v->(iter q (sig (suf (exx D x m T) (k+1)) (lvl (exx D x m T) k)) v).take (x.zA.length-(k+1))=iter q (sig (suf x (k+1)) (lvl x k)) (v.take (x.zA.length-(k+1)))
 |0,_,_=>rfl
 |q+1,v,hv=>by have:=zKJ hk q (zFB h hE hT hk hv);rw[zDN h hE hT hk hv]at this;exact this
theorem zYb(hk:k<=x.zA.length):(zeros (suf (exx D x m T) k).length).take (x.zA.length-k)=zeros (suf x k).length:=by grind[zAM,zT,yB]
theorem zZG(hk:k<=x.zA.length){c:Vec}(hc:V (suf (exx D x m T) k) c)(q:Nat):(pw (mul (suf (exx D x m T) k)) (zeros (suf (exx D x m T) k).length) c q).take (x.zA.length-k)=pw (mul (suf x k)) (zeros (suf x k).length) (c.take (x.zA.length-k)) q:=by have ok:=uF h hE hT (k:=k) (by omega);have:=zEB (S:=V (suf (exx D x m T) k)) (n:=mul (suf x k)) (·.take (x.zA.length-k)) (fun a b=>yO ok) (by grind[zBD]) [c] [(q:Int)] (zeros (suf (exx D x m T) k).length) (by grind) (wC ok);simp only[Ju,La,img,J8]at this;rw[zYb h hE hT hk]at this;exact this
section
variable {k:Nat} (hk:k<x.zA.length)
 include hk
theorem zJ8(h1:k+1<=j)(h2:j<x.zA.length):((lvl (exx D x m T) k).cs.getD (j-(k+1)) []).take (x.zA.length-(k+1))=(lvl x k).cs.getD (j-(k+1)) []:=by rw[zHO h hE hT hk h1 h2,Jr (wY h (by omega) (kA h hk h1 h2).2.2)]
theorem zHR(h1:k<=j)(h2:j<x.zA.length):(((exx D x m T).zP.getD j []).drop (k+1)).take (x.zA.length-(k+1))=(x.zP.getD j []).drop (k+1):=by
 have t1:=(h.tl j h2).1.1.1
 grind[zDL]
theorem zUK(h1:k+1<=i)(h2:i<j)(h3:j<x.zA.length):((((exx D x m T).zF.getD i []).getD (j-(i+1)) []).drop (k+1)).take (x.zA.length-(k+1))=((x.zF.getD i []).getD (j-(i+1)) []).drop (k+1):=by rw[zFA h hE hT (by omega) h2 h3,Jr (wY h (by omega) (zUt h hk h1 h2 h3).2.2)]
theorem zUL(h1:k+1<=j)(h2:j<x.zA.length):xG ((exx D x m T).zA.length-(k+1)) (j-(k+1))=xG (x.zA.length-(k+1)) (j-(k+1))++zeros D:=by
 rw[xV h hE hT,kY,kY,Jg,K9]
 grind[zeros,Jn]
end
variable (hM:Mv D x.zA.length m0 m) {Z:Vec->Prop}{Q:Nat->Vec->Vec->Prop} (hZ:∀k,k<=x.zA.length-> ∀a b,V (suf (exx D x m T) k) a->V (suf (exx D x m T) k) b->a.take (x.zA.length-k)=b.take (x.zA.length-k)->(Z (uN m.Prime D (a.drop (x.zA.length-k)) (-1) (b.drop (x.zA.length-k)))↔Q k a b))
 include hM hZ
theorem zKK(hk:k<=x.zA.length){a b:Vec}(ha:V (suf (exx D x m T) k) a)(hb:V (suf (exx D x m T) k) b)(e:a.take (x.zA.length-k)=b.take (x.zA.length-k)):∃r,zIv ⟨x,m0,T⟩ (prE x k a) (prE x k b)=jd r/\Row m.Prime D r/\(Z r↔Q k a b):=by
 have h7:=hE.m.p.pos;have h3:=hE.m.d3;obtain⟨y,u,rfl,hy,hu,eI,eC⟩:=prV h hE hT hk ha;obtain⟨z,v,rfl,hz,hv,i5,ch⟩:=prV h hE hT hk hb;have mn:=hZ k hk _ _ ha hb e;rw[K0 eC,K0 ch]at mn;unfold zIv;rw[eI,i5];dsimp only
 rw[hM.pr,zB,bs,uR hE.m.p hu hv (by omega) (by omega),bs,zB3];exact⟨_,rfl,qT hE.m.p,mn⟩
section
variable {k:Nat} (hk:k<x.zA.length) (hc:LC x k)
 include hk
 include hc
theorem yFh(h1:k+1<=j)(h2:j<x.zA.length){L0 L:Mx}(hL:GR m.Prime D Z L N C)(hN:N<=1000){f:Mx->Option (Mx×Int⊕Mx)}:∃L',((zIu ⟨x,m0,T⟩).bind fun r2=>
  (zG (zSz ⟨x,m0,T⟩ (k:Int) (L0,(j:Int))) (r2.x,r2.v,0)).bind fun r8=>
  (zP8 ⟨x,m0,T⟩ (j:Int)).bind fun r9=>
  (f_h ⟨x,m0,T⟩ (k:Int) r9).bind fun r10=>
  (zIv ⟨x,m0,T⟩ (zC.mk r8.1 r8.2) r10).bind fun r11=>
  (yI L [r11]).bind f)=f L'/\GR m.Prime D Z L' (N+1) (C/\c1Q Q (exx D x m T) k j):=by
 have ok:=uF h hE hT (k:=k+1) (by omega);have hn:=hE.hn;have hp:=(h.os.2 j h2).pos;have hz:=wC ok;obtain⟨c1,c2⟩:=zED h hE hT (k:=k) (j:=j) (by omega) h2;obtain⟨p1,p2⟩:=zKH h hE hT (k:=k) (j:=j) (by omega) h2;have hA:=zEE h hE hT hM (k:=k+1) (by omega);have hI:=zA8 h hE hT hM hk;have iw:zG (zSz ⟨x,m0,T⟩ (k:Int) (L0,(j:Int))) ((prE x (k+1) (zeros (suf (exx D x m T) (k+1)).length)).x,(prE x (k+1) (zeros (suf (exx D x m T) (k+1)).length)).v,0)=jd ((prE x (k+1) (pw (mul (suf (exx D x m T) (k+1))) (zeros (suf (exx D x m T) (k+1)).length) ((lvl (exx D x m T) k).cs.getD (j-(k+1)) []) (at0 x.zA j).toNat)).x,(prE x (k+1) (pw (mul (suf (exx D x m T) (k+1))) (zeros (suf (exx D x m T) (k+1)).length) ((lvl (exx D x m T) k).cs.getD (j-(k+1)) []) (at0 x.zA j).toNat)).v):=
  zBC (S:=V (suf (exx D x m T) (k+1))) (fun w=>(prE x (k+1) w).x) (fun w=>(prE x (k+1) w).v) (fun w=>mul (suf (exx D x m T) (k+1)) w ((lvl (exx D x m T) k).cs.getD (j-(k+1)) [])) (at0 x.zA j) (by omega) (by grind[yO]) (fun w q hw hq=>by
   unfold zSz;dsimp only
   rw[yK h2,bs,ji hq,zH,zB,bs,c1,bs,cs,show(zC.mk (prE x (k+1) w).x (prE x (k+1) w).v)=prE x (k+1) w from rfl,hA w _ hw c2,bs,zB,bs,cs]) (fun w hw=>by
   simp_all[zSz,yK]) hz
 have bZ:V (suf (exx D x m T) (k+1)) (pw (mul (suf (exx D x m T) (k+1))) (zeros (suf (exx D x m T) (k+1)).length) ((lvl (exx D x m T) k).cs.getD (j-(k+1)) []) (at0 x.zA j).toNat):=vV (by grind[yO]) _ hz;obtain⟨r,r1,r2,r3⟩:=zKK h hE hT hM hZ (k:=k+1) (by omega) bZ (zFB h hE hT hk p2) (by rw[zZG h hE hT (by omega) c2,zDN h hE hT hk p2,zJ8 h hE hT hk h1 h2,zHR h hE hT hk (by omega) h2];exact hc.c1 j h1 h2)
 have iy:=hL.len;refine⟨L++[r],?_,hL.app (GR.one r2 (r3.trans ?_))⟩
 ·rw[zKI h hE hT (k:=k+1) (by omega) (by omega),bs,iw,bs,p1,bs,hI _ p2,bs]
  dsimp only
  rw[r1,bs,zV (by simp;omega),bs]
 ·unfold c1Q;rw[tB h hE hT h2]
theorem yFi(h1:k+1<=j)(h2:j<x.zA.length){L0 L:Mx}(hL:GR m.Prime D Z L N C)(hN:N<=1000):∃L',zG (zS0 ⟨x,m0,T⟩ (k:Int) (L0,(j:Int))) (L,((j+1:Nat):Int))=jd L'/\GR m.Prime D Z L' (N+(x.zA.length-(j+1))) (C/\ ∀j2,j+1<=j2->j2<x.zA.length->c2Q Q (exx D x m T) k j j2):=by
 have ok:=uF h hE hT (k:=k+1) (by omega);have hn:=hE.hn;have hA:=zEE h hE hT hM (k:=k+1) (by omega);have hI:=zA8 h hE hT hM hk;refine wV (fun i(s:Mx×Int)=>s.2=((j+1+i:Nat):Int)/\GR m.Prime D Z s.1 (N+i) (C/\ ∀j2,j+1<=j2->j2<j+1+i->c2Q Q (exx D x m T) k j j2)) (x.zA.length-(j+1)) (fun i s hi ⟨hs,hg⟩=>?_) (fun s ⟨hs,hg⟩=>?_) ⟨rfl,hL.to (by omega) (by grind)⟩
 ·left
  obtain⟨L1,s2⟩:=s;dsimp only at hs hg;subst hs;have g2:j+1+i<x.zA.length:=by omega
  obtain⟨a1,a2⟩:=zED h hE hT (k:=k) (j:=j) (by omega) h2;obtain⟨b1,b2⟩:=zED h hE hT (k:=k) (j:=j+1+i) (by omega) g2;obtain⟨d1,d2⟩:=zQO h hE hT (k:=k) (i:=j) (j:=j+1+i) (by omega) (by omega) g2;have hs:=zFB h hE hT hk d2;obtain⟨r,r1,r2,r3⟩:=zKK h hE hT hM hZ (k:=k+1) (by omega) (yO ok b2 a2) (yO ok a2 hs) (by rw[zBD h hE hT (by omega) b2 a2,zBD h hE hT (by omega) a2 hs,zDN h hE hT hk d2,zJ8 h hE hT hk h1 h2,zJ8 h hE hT hk (by omega) g2,zUK h hE hT hk h1 (by omega) g2];exact hc.c2 j h1 h2 (j+1+i) (by omega) g2)
  have iy:=hg.len;refine⟨(L1++[r],((j+1+i+1:Nat):Int)),?_,rfl,(hg.app (GR.one r2 r3)).to (by omega) ?_⟩
  ·unfold zS0
   dsimp only
   rw[ji,zH,a1,bs,b1,bs,d1,bs,hI _ d2,bs,zB,bs,cs,hA _ _ b2 a2,bs,bs,hA _ _ a2 hs,bs,r1,bs,zV (by simp;omega),bs,zB,bs,cs]
  ·constructor
   ·rintro⟨⟨g1,g3⟩,g4⟩
    refine⟨g1,fun j2 e1 e2=>?_⟩;rcases Jo j2 (j+1+i)with e|e
    ·grind
    ·obtain rfl:j2=j+1+i:=by omega
     exact g4
   ·rintro⟨g1,g3⟩
    exact⟨by grind,g3 (j+1+i) (by omega) (by omega)⟩
 ·obtain⟨L1,s2⟩:=s
  dsimp only at hs hg;subst hs;refine⟨L1,?_,hg.to (Je _) ?_⟩
  ·unfold zS0
   grind
  grind
theorem yFj:∃L',zG (zWC ⟨x,m0,T⟩ (k:Int)) ([],((k+1:Nat):Int))=jd L'/\GR m.Prime D Z L' 100 (∀j,k+1<=j->j<x.zA.length->c1Q Q (exx D x m T) k j/\ ∀j2,j+1<=j2->j2<x.zA.length->c2Q Q (exx D x m T) k j j2):=by
 have hn:=hE.hn;refine wV (fun i(s:Mx×Int)=>s.2=((k+1+i:Nat):Int)/\GR m.Prime D Z s.1 (7*i) (∀j,k+1<=j->j<k+1+i->c1Q Q (exx D x m T) k j/\ ∀j2,j+1<=j2->j2<x.zA.length->c2Q Q (exx D x m T) k j j2)) (x.zA.length-(k+1)) (fun i s hi ⟨hs,hg⟩=>?_) (fun s ⟨hs,hg⟩=>?_) ⟨rfl,(GR.nil (N:=0)).to (by omega) (by grind)⟩
 ·left
  obtain⟨L1,s2⟩:=s;dsimp only at hs hg;subst hs;have g2:k+1+i<x.zA.length:=by omega
  obtain⟨L2,e2,hg2⟩:=yFh h hE hT hM hZ hk hc (j:=k+1+i) (by omega) g2 (L0:=L1) hg (by omega) (f:=fun v12=>(rng (((k+1+i:Nat):Int)+1)).bind fun v13=>
   (zG (zS0 ⟨x,m0,T⟩ (k:Int) (L1,((k+1+i:Nat):Int))) (v12,v13)).bind fun r25=>
   (rng (((k+1+i:Nat):Int)+1)).bind fun v26=>jd (.inl (r25,v26)))
  obtain⟨L3,e3,hg3⟩:=yFi h hE hT hM hZ hk hc (j:=k+1+i) (by omega) g2 (L0:=L1) hg2 (by omega);refine⟨(L3,((k+1+i+1:Nat):Int)),?_,rfl,hg3.to (by omega) ?_⟩
  ·unfold zWC
   dsimp only
   rw[ji,zH,e2,zB,bs,cs,e3,bs,bs]
  grind
 ·obtain⟨L1,s2⟩:=s
  dsimp only at hs hg;subst hs;refine⟨L1,?_,hg.to (by omega) ?_⟩
  ·unfold zWC
   grind
  grind
theorem zUM(h1:k+1<=j)(h2:j<x.zA.length):∃r,zIu ⟨x,m0,T⟩=jd r/\ixO r.x (j:Int)=jd 0/\r.x.set j 1=(prE x (k+1) (xG (x.zA.length-(k+1)) (j-(k+1))++zeros D)).x/\r.v=(prE x (k+1) (xG (x.zA.length-(k+1)) (j-(k+1))++zeros D)).v:=by
 have _:=hM;have _:=hZ;have _:=hc;have hn:=hE.hn;have gT:(xG (x.zA.length-(k+1)) (j-(k+1))).length=x.zA.length-(k+1):=by rw[kH,zU]
 refine⟨_,zKI h hE hT (k:=k+1) (by omega) (by omega),?_,?_,?_⟩
 ·rw[zAM h hE hT (by omega),qH (zT _)]
  dsimp only
  simp only[fv,zeros,Jn];rw[vD,K4,if_pos (by omega)]
 ·rw[zAM h hE hT (by omega),qH (zT _),qH gT]
  dsimp only
  have e1:fv (k+1) (zeros (x.zA.length-(k+1)))=zeros j++0::zeros (x.zA.length-(k+1)-(j-(k+1)+1)):=by
   simp only[fv,zeros];rw[<-Jv,Jn,Jn]
   grind
  rw[e1,zBN,fv,kY,<-Jg]
  grind[zeros,Jn]
 grind[zAM,qH,zT]
theorem yFk{L:Mx}(hL:GR m.Prime D Z L N C)(hN:N<=1000):∃L',zG (zS1 ⟨x,m0,T⟩ (k:Int) (prE x (k+1) (((exx D x m T).zP.getD k []).drop (k+1)))) (L,((k+1:Nat):Int))=jd L'/\GR m.Prime D Z L' (N+(x.zA.length-(k+1))) (C/\ ∀j,k+1<=j->j<x.zA.length->c4Q Q (exx D x m T) k j):=by
 have hn:=hE.hn;have hpk:=(h.os.2 k hk).pos;have h7:=hE.m.p.pos;have ok:=uF h hE hT (k:=k+1) (by omega);have hA:=zEE h hE hT hM (k:=k+1) (by omega);have hI:=zA8 h hE hT hM hk;obtain⟨p1,p2⟩:=zKH (m0:=m0) h hE hT (k:=k) (j:=k) (Je k) hk;change V (suf (exx D x m T) (k+1)) (lvl (exx D x m T) k).w at p2;change∃L',zG (zS1 ⟨x,m0,T⟩ (k:Int) (prE x (k+1) (lvl (exx D x m T) k).w)) (L,((k+1:Nat):Int))=jd L'/\_;have dV:(lvl (exx D x m T) k).w.take (x.zA.length-(k+1))=(lvl x k).w:=zHR h hE hT hk (Je k) hk;have ho:(lvl (exx D x m T) k).o=at0 x.zA k:=zBn h hE hT hk;refine wV (fun i(s:Mx×Int)=>s.2=((k+1+i:Nat):Int)/\GR m.Prime D Z s.1 (N+i) (C/\ ∀j,k+1<=j->j<k+1+i->c4Q Q (exx D x m T) k j)) (x.zA.length-(k+1)) (fun i s hi ⟨hs,hg⟩=>?_) (fun s ⟨hs,hg⟩=>?_) ⟨rfl,hL.to (by omega) (by grind)⟩
 ·left
  obtain⟨L1,s2⟩:=s;dsimp only at hs hg;subst hs;have g2:k+1+i<x.zA.length:=by omega
  obtain⟨r33,z1,z2,z3,z4⟩:=zUM h hE hT hM hZ hk hc (j:=k+1+i) (by omega) g2;have hue:=zUL h hE hT hk (j:=k+1+i) (by omega) g2;have hux:V (suf x (k+1)) (xG (x.zA.length-(k+1)) (k+1+i-(k+1))):=by
   have:=zCn (h.okAt (k:=k+1) (by omega)) (j:=k+1+i-(k+1)) (by grind[yB])
   grind[yB]
  have gT:=wY h (by omega) hux;have bS:V (suf (exx D x m T) (k+1)) (xG (x.zA.length-(k+1)) (k+1+i-(k+1))++zeros D):=(tK h hE hT (x.zA.length-(k+1)) (k+1) (by omega) _).2 ⟨_,_,rfl,hux,yX⟩;have eh:V (suf (exx D x m T) (k+1)) (iter (at0 x.zA k).toNat (sig (suf (exx D x m T) (k+1)) (lvl (exx D x m T) k)) (xG (x.zA.length-(k+1)) (k+1+i-(k+1))++zeros D)):=vV (fun w hw=>zFB h hE hT hk hw) _ bS;have iw:zG (zWD ⟨x,m0,T⟩ (k:Int)) ((prE x (k+1) (xG (x.zA.length-(k+1)) (k+1+i-(k+1))++zeros D)).x,(prE x (k+1) (xG (x.zA.length-(k+1)) (k+1+i-(k+1))++zeros D)).v,0)=jd ((prE x (k+1) (iter (at0 x.zA k).toNat (sig (suf (exx D x m T) (k+1)) (lvl (exx D x m T) k)) (xG (x.zA.length-(k+1)) (k+1+i-(k+1))++zeros D))).x,(prE x (k+1) (iter (at0 x.zA k).toNat (sig (suf (exx D x m T) (k+1)) (lvl (exx D x m T) k)) (xG (x.zA.length-(k+1)) (k+1+i-(k+1))++zeros D))).v):=
   zBC (S:=V (suf (exx D x m T) (k+1))) (fun w=>(prE x (k+1) w).x) (fun w=>(prE x (k+1) w).v) (sig (suf (exx D x m T) (k+1)) (lvl (exx D x m T) k)) (at0 x.zA k) (by omega) (fun w hw=>zFB h hE hT hk hw) (fun w q hw hq=>by
    unfold zWD;dsimp only
    rw[yK hk,bs,ji hq,zH,show(zC.mk (prE x (k+1) w).x (prE x (k+1) w).v)=prE x (k+1) w from rfl,hI w hw,bs,zB,bs,cs]) (fun w hw=>by
    simp_all[zWD,yK]) bS
  obtain⟨r,r1,r2,r3⟩:=zKK h hE hT hM hZ (k:=k+1) (by omega) (yO ok p2 eh) (yO ok bS p2) (by rw[zBD h hE hT (by omega) p2 eh,zBD h hE hT (by omega) bS p2,zKJ h hE hT hk _ bS,dV,Jr gT];exact hc.c4 (k+1+i) (by omega) g2)
  have iy:=hg.len;refine⟨(L1++[r],((k+1+i+1:Nat):Int)),?_,rfl,(hg.app (GR.one r2 r3)).to (by omega) ?_⟩
  ·unfold zS1
   dsimp only
   rw[ji,zH,z1,bs,z2,bs,J8,z3,z4,iw,bs,zB,bs,cs];dsimp only
   have e1:=hA _ _ p2 eh;have e2:=hA _ _ bS p2;rw[show∀w,(zC.mk (prE x (k+1) w).x (prE x (k+1) w).v)=prE x (k+1) w from fun _=>rfl,show∀w,(zC.mk (prE x (k+1) w).x (prE x (k+1) w).v)=prE x (k+1) w from fun _=>rfl,e1,bs,bs,e2,bs,r1,bs,zV (by simp;omega),bs,zB,bs,cs]
  ·have e4:c4Q Q (exx D x m T) k (k+1+i)↔Q (k+1) (mul (suf (exx D x m T) (k+1)) (lvl (exx D x m T) k).w (iter (at0 x.zA k).toNat (sig (suf (exx D x m T) (k+1)) (lvl (exx D x m T) k)) (xG (x.zA.length-(k+1)) (k+1+i-(k+1))++zeros D))) (mul (suf (exx D x m T) (k+1)) (xG (x.zA.length-(k+1)) (k+1+i-(k+1))++zeros D) (lvl (exx D x m T) k).w):=by
    grind[c4Q]
   rw[<-e4];constructor
   ·grind
   grind
 ·obtain⟨L1,s2⟩:=s
  dsimp only at hs hg;subst hs;refine⟨L1,?_,hg.to (Je _) ?_⟩
  ·unfold zS1
   grind
  grind
theorem yBo:∃L,f_l ⟨x,m0,T⟩ (k:Int)=jd L/\GR m.Prime D Z L 120 (LCQ Q x (exx D x m T) k):=by
 have hn:=hE.hn;have hI:=zA8 h hE hT hM hk;obtain⟨p1,p2⟩:=zKH h hE hT (k:=k) (j:=k) (Je k) hk;obtain⟨L1,e1,g1⟩:=yFj h hE hT hM hZ hk hc;have hs:=zFB h hE hT hk p2;obtain⟨r,r1,r2,r3⟩:=zKK h hE hT hM hZ (k:=k+1) (by omega) hs p2 (by rw[zDN h hE hT hk p2,zHR h hE hT hk (Je k) hk];exact hc.c3)
 obtain⟨L2,e2,g2⟩:=yFk h hE hT hM hZ hk hc (g1.app (GR.one r2 r3)) (by omega);have iy:=g1.len;refine⟨L2,?_,g2.to (by omega) ?_⟩
 ·unfold f_l
  rw[zB,bs,cs,e1,bs,p1,bs,hI _ p2,bs,r1,bs,zV (by simp;omega),bs,bs,e2,bs]
 ·constructor
  ·rintro⟨⟨a1,a2⟩,a3⟩
   exact⟨by grind,by grind,a2,a3⟩
  ·intro a
   exact⟨⟨fun j b1 b2=>⟨a.c1 j b1 b2,fun j2 b3 b4=>a.c2 j b1 b2 j2 b3 b4⟩,a.c3⟩,a.c4⟩
end
theorem yBp(hx:xC (suf x 0)):∃L,zLr ⟨x,m0,T⟩=jd L/\GR m.Prime D Z L 1000 (∀k,k<x.zA.length->LCQ Q x (exx D x m T) k):=by
 have hn:=hE.hn;have h3:=hE.m.d3;have pd:∀k,k<x.zA.length->LC x k:=fun k hk=>((kD h.w hk).1 (tM hx k)).2
 obtain⟨L,e,g⟩:=wV (body:=zJO ⟨x,m0,T⟩) (Q:=fun L=>GR m.Prime D Z L 1000 (∀k,k<x.zA.length->LCQ Q x (exx D x m T) k)) (fun i(s:Mx×Int)=>s.2=(i:Int)/\GR m.Prime D Z s.1 (120*i) (∀k,k<i->LCQ Q x (exx D x m T) k)) x.zA.length (fun i s hi ⟨hs,hg⟩=>by
  left;obtain⟨L1,s2⟩:=s;dsimp only at hs hg;subst hs;obtain⟨L2,e2,g2⟩:=yBo h hE hT hM hZ hi (pd i hi);have l1:=hg.len;have l2:=g2.len;refine⟨(L1++L2,((i+1:Nat):Int)),?_,rfl,(hg.app g2).to (by omega) ?_⟩
  ·unfold zJO
   dsimp only
   rw[yS hi,zH,e2,bs,zV,bs,zB,bs,cs]
  grind) (fun s ⟨hs,hg⟩=>by
  obtain⟨L1,s2⟩:=s;dsimp only at hs hg;subst hs;refine⟨L1,?_,hg.to (by omega) Iff.rfl⟩
  simp_all[zJO]) (s:=([],0)) ⟨rfl,(GR.nil (N:=0)).to (by omega) (by simp)⟩
 grind[zLr]
end
theorem zEF(h:Pres x)(_h6:x.zA.length<=6):(wL x).length=base x.zA.length x.zA.length:=by grind[zRO,base]
abbrev zC2(x:SPr)(m:zE)(D:Nat):Mx:=zJ7 (x.zA.length*D) (fun k=>dfc m D (uv x.zA.length D k)) (wL x)
section
variable {x:SPr}{m:zE}{D:Nat} (hx:zA2 x) (hD:MOk x.zA.length m D)
 include hx hD
theorem zON:∃R pv,zPB x m=jd R/\zWJ x m=jd (zC2 x m D)/\f_i m.Prime (zC2 x m D)=jd R/\Red m.Prime (base x.zA.length x.zA.length*D) R pv/\R.length<=63/\base x.zA.length x.zA.length*D<=63:=by have h6:=hx.n6;have h3:=hD.d3;have hb:=xY x.zA.length (by omega);have hl:=zEF hx.toPres h6;have fW:x.zA.length*D<=6*3:=Jq h6 h3;have aA:base x.zA.length x.zA.length*D<=21*3:=Jq hb.2.1 h3;have p9:(zC2 x m D).length=x.zA.length*D:=wK;obtain⟨R,pv,r1,r2,r3,_⟩:=sK hD.p (n:=(wL x).length*D) (by grind) (rows:=zC2 x m D) (by omega) (by rw[p9];exact zF7 (zOJ hx.toPres hD) (wL x));rw[hl]at r3;have hR:=r3.len_le;refine⟨R,pv,?_,zGp hx.toPres hD,r2,r3,by omega,aA⟩;unfold zPB;rw[zGb hx.toPres hD,bs,r1,bs]
end
section
variable {x:SPr}{m:zE}{D:Nat} (hx:zA2 x) (hD:MOk x.zA.length m D)
 include hx hD
theorem zRS(hi:i<x.zA.length*D):Row m.Prime (base x.zA.length x.zA.length*D) ((zC2 x m D).getD i []):=by have hl:=zEF hx.toPres hx.n6;rw[<-hl];exact zF7 (zOJ hx.toPres hD) (wL x) i hi
theorem zUN:∃R pv,zPB x m=jd R/\Red m.Prime (base x.zA.length x.zA.length*D) R pv/\(∀v,Sp m.Prime (base x.zA.length x.zA.length*D) R v↔Sp m.Prime (base x.zA.length x.zA.length*D) (zC2 x m D) v)/\R.length<=63:=by have h6:=hx.n6;have h3:=hD.d3;have hb:=xY x.zA.length (by omega);have hl:=zEF hx.toPres h6;have fW:x.zA.length*D<=6*3:=Jq h6 h3;have aA:base x.zA.length x.zA.length*D<=21*3:=Jq hb.2.1 h3;have p9:(zC2 x m D).length=x.zA.length*D:=wK;obtain⟨R,pv,r1,r2,r3,r4⟩:=sK hD.p (n:=(wL x).length*D) (by grind) (rows:=zC2 x m D) (by omega) (by rw[p9];exact zF7 (zOJ hx.toPres hD) (wL x));rw[hl]at r3 r4;have hR:=r3.len_le;refine⟨R,pv,?_,r3,fun v=>r4.iff,by omega⟩;unfold zPB;rw[zGb hx.toPres hD,bs,r1,bs]
end
abbrev zC3:=Nat×List Nat×List Nat
section
variable (x:SPr)
abbrev yC(a:Nat):Nat:=(at0 x.zA a).toNat
abbrev lcj(i j:Nat):List Int:=(x.zF.getD i []).getD (j-(i+1)) []
def swp:List Nat->Option zC3
 |a::b::s=>if b<a then jd (base x.zA.length b+(a-(b+1)),s,b::(nw 0 (lcj x b a)++s))else je
 |_=>je
def pws:List Nat->Option zC3
 |a::w=>if(a::w).take (yC x a)=J1 (yC x a) a then jd (a,(a::w).drop (yC x a),nw 0 (x.zP.getD a [])++(a::w).drop (yC x a))else je
 | []=>je
def hdS(w:List Nat):Option zC3:=match swp x w with
 |some r=>jd r
 |none=>pws x w
def stS:List Nat->Option zC3
 | []=>je
 |a::w=>match hdS x (a::w)with
  |some r=>jd r
  |none=>(stS w).map fun r=>(r.1,r.2.1,a::r.2.2)
end
section
variable {x:SPr}
theorem zYc{w s:List Nat}{r:zC3}(h:swp x w=jd r):swp x (w++s)=jd (r.1,r.2.1++s,r.2.2++s):=by
 match w,h with
 | [],h=>cases h
 | [_],h=>cases h
 |a::b::w,h=>
  simp only[swp]at h
  by_cases g:b<a
  ·rw[if_pos g]at h
   cases h;simp only[K9,swp,if_pos g,Jg]
  grind
theorem zBo{w:List Nat}{o:Nat}(h:w.take o=J1 o a):o<=w.length:=by
 have:=congrArg Qd h
 grind
theorem zYd{w s:List Nat}{r:zC3}(h:pws x w=jd r):pws x (w++s)=jd (r.1,r.2.1++s,r.2.2++s):=by
 match w,h with
 | [],h=>cases h
 |a::w,h=>
  simp only[pws]at h
  by_cases g:(a::w).take (yC x a)=J1 (yC x a) a
  ·rw[if_pos g]at h
   cases h;have hl:=zBo g;have e1:(a::(w++s)).take (yC x a)=(a::w).take (yC x a):=by grind
   have e2:(a::(w++s)).drop (yC x a)=(a::w).drop (yC x a)++s:=by grind
   simp only[K9,pws]
   grind
  grind
theorem zEG{b:Nat}{s s2:List Nat}(h:swp x (a::b::s)=je):swp x (a::b::s2)=je:=by
 simp only[swp]at h ⊢
 grind
theorem zQP{w:List Nat}(h:hdS x w=je):swp x w=je/\pws x w=je:=by
 unfold hdS at h
 grind
theorem zUO{w:List Nat}(h1:swp x w=je)(h2:pws x w=je):hdS x w=je:=by grind[hdS]
theorem yBq{w s:List Nat}(hw:∀a∈w,2<=yC x a){r:zC3}(h:hdS x w=jd r):hdS x (w++s)=jd (r.1,r.2.1++s,r.2.2++s):=by
 unfold hdS at h ⊢
 cases e:swp x w with
 |some q=>
  grind[zYc]
 |none=>
  rw[e]at h;have e2:swp x (w++s)=je:=by
   match w,h with
   | [],h=>cases h
   | [a],h=>
    have h2:=hw a (by simp);simp only[pws]at h
    by_cases g:[a].take (yC x a)=J1 (yC x a) a
    ·have h4:=zBo g;grind
    grind
   |a::b::w,h=>exact zEG e
  grind[zYd]
theorem zDO{k a:Nat}(hk:k<yC x a):∀j,j<=k-> ∀{w:List Nat},(∀b,w.head? =jd b->a<b)->stS x (J1 j a++w)=(stS x w).map fun r=>(r.1,r.2.1,J1 j a++r.2.2)
 |0,_,w,_=>by simp
 |j+1,hj,w,hw=>by
  have ih:=zDO hk j (by omega) hw;rw[Jv,K9];have h1:swp x (a::(J1 j a++w))=je:=by
   cases j with
   |succ j=>simp only[Jv,K9,swp,if_neg (Jam a)]
   |zero=>
    simp only[Lz,Jz];cases w with
    |nil=>rfl
    |cons b w=>
     have:=hw b rfl;simp only[swp,if_neg (show¬b<a by omega)]
  have h2:pws x (a::(J1 j a++w))=je:=by
   simp only[pws];refine if_neg fun g=>?_
   have hl:=zBo g;have:=congrArg (fun l=>l[j+1]?) g;rw[Gy (by omega),<-K9,<-Jv,Jm (by simp),Jk,Kn,Us (by omega)]at this
   grind[List.head?_eq_getElem?]
  simp only[stS];rw[zUO h1 h2,ih];cases stS x w with
  |none=>rfl
  |some r=>rfl
theorem yBr(hk:k<yC x a):stS x (J1 k a)=je:=by
 have:=zDO hk k (Je _) (w:=[]) (by simp)
 grind[stS]
theorem zKL:∀{u s:List Nat},(∀a∈u,2<=yC x a)-> ∀{r:zC3},stS x u=jd r->stS x (u++s)=jd (r.1,r.2.1++s,r.2.2++s)
 | [],_,_,_,h=>by cases h
 |a::w,s,hu,r,h=>by
  simp only[stS]at h;rw[K9];simp only[stS];cases e:hdS x (a::w)with
  |some q=>
   grind[yBq]
  |none=>
   rw[e]at h;cases e2:stS x w with
   |none=>grind
   |some q=>
    rw[e2]at h;cases h;obtain⟨n1,n2⟩:=zQP e;have m1:swp x (a::(w++s))=je:=by
     cases w with
     |nil=>cases e2
     |cons b w=>exact zEG n1
    have m2:pws x (a::(w++s))=je:=by
     simp only[pws]at n2 ⊢
     refine if_neg fun g=>?_
     by_cases hl:yC x a<=(a::w).length
     ·grind
     ·have:a::w=J1 (a::w).length a:=by
       have g':=congrArg (Ja9 (a::w).length) g
       grind
      grind[yBr]
    rw[zUO m1 m2,zKL (s:=s) (by grind) e2];rfl
theorem zGc{u s:List Nat}(hu:∀a∈u,2<=yC x a)(h:stS x (u++s)=je):stS x u=je:=by
 cases e:stS x u with
 |none=>rfl
 |some r=>grind[zKL]
theorem zUP:∀{u:List Nat}{l i:Nat}{z:List Nat},(∀a∈u,i<a)->i<l->stS x (u++[l])=je->stS x (u++l::i::z)=jd (base x.zA.length i+(l-(i+1)),z,u++i::(nw 0 (lcj x i l)++z))
 | [],l,i,z,_,hl,_=>by simp only[Jz,stS,hdS,swp,if_pos hl]
 |a::u,l,i,z,hu,hl,hn=>by
  rw[K9]at hn ⊢
  simp only[stS]at hn ⊢
  cases e:hdS x (a::(u++[l]))with
  |some q=>grind
  |none=>
   rw[e]at hn;have ba:stS x (u++[l])=je:=by simp_all
   obtain⟨n1,n2⟩:=zQP e;have m1:swp x (a::(u++l::i::z))=je:=by
    cases u with
    |nil=>exact zEG n1
    |cons b u=>exact zEG n1
   have m2:pws x (a::(u++l::i::z))=je:=by
    simp only[pws]at n2 ⊢
    refine if_neg fun g=>?_
    have ea:a::(u++l::i::z)=(a::(u++[l]))++i::z:=by simp
    by_cases ho:yC x a<=(a::(u++[l])).length
    ·grind
    ·have g':=congrArg (fun w=>w[(a::(u++[l])).length]?) g
     rw[Gy (by omega),ea,Jm (Je _),Kn,Us (by omega)]at g';have:i=a:=by grind
     simp_all
   rw[zUO m1 m2,zUP (by grind) hl ba];rfl
theorem zZH(ha:2<=yC x a)(w:List Nat):stS x (J1 (yC x a) a++w)=jd (a,w,nw 0 (x.zP.getD a [])++w):=by
 obtain⟨k,hk⟩:∃k,yC x a=k+2:=⟨yC x a-2,by omega⟩;have e:J1 (yC x a) a++w=a::a::(J1 k a++w):=by grind
 have h1:swp x (J1 (yC x a) a++w)=je:=by rw[e];simp only[swp,if_neg (Jam a)]
 have h2:pws x (J1 (yC x a) a++w)=jd (a,w,nw 0 (x.zP.getD a [])++w):=by
  have et:(J1 (yC x a) a++w).take (yC x a)=J1 (yC x a) a:=by simp
  have ed:(J1 (yC x a) a++w).drop (yC x a)=w:=by simp
  rw[e]at et ed ⊢
  simp only[pws]
  grind
 have h3:hdS x (J1 (yC x a) a++w)=jd (a,w,nw 0 (x.zP.getD a [])++w):=by grind[hdS]
 grind[stS]
end
theorem zCX{p:Int}{v w:List Int}:adv p D (adv p D u v) w=adv p D u (adv p D v w):=by
 refine zX fun j hj=>?_
 grind[zW,Int.add_emod_emod]
theorem zEH{p:Int}{v:List Int}:xK p D (adv p D u v) A=adv p D (xK p D u A) (xK p D v A):=by
 refine zX fun j hj=>?_
 rw[xK,xK,zW hj,zW hj,<-Ka,<-zCw];refine kE fun l hl=>?_
 rw[zW hl,<-Jbp,Jy,K3,<-Jy]
theorem zMO{α:Type}(m:α->α->α)(z:α):∀(cs:List α)(j n:Nat)(acc:α),j<cs.length->j<n->img m cs (xG n j) acc=m acc (cs.getD j z)
 | [],_,_,_,h,_=>by simp at h
 |c::cs,0,n+1,acc,_,_=>by grind[zCO,img,iter,tL]
 |c::cs,j+1,n+1,acc,h,h2=>by rw[zFq];show img m cs (xG n j) (iter (0:Int).toNat (fun v=>m v c) acc)=_;rw[show iter (0:Int).toNat (fun v=>m v c) acc=acc from rfl,zMO m z cs j n acc (by grind) (by omega),List.getD_cons_succ]
 |_::_,0,0,_,_,h=>by omega
 |_::_,_+1,0,_,_,h=>by omega
theorem zFC(n d:Nat):zeros (n+d)=zeros n++zeros d:=by grind[zeros,Jn]
theorem zUQ{n d:Nat}(hj:j<n:=by omega):xG (n+d) j=xG n j++zeros d:=by grind[xG,zFC,zT]
def fo(e:SPr)(k:Nat)(u:Vec)(w:List Nat):Vec:=w.foldl (fun u a=>mul (suf e k) u (xG (e.zA.length-k) (a-k))) u
theorem zC4{e:SPr}{u:Vec}{v w:List Nat}:fo e k u (v++w)=fo e k (fo e k u v) w:=by simp[fo,Gv]
theorem tX{e:SPr}{u:Vec}{w:List Nat}:fo e k u (a::w)=fo e k (mul (suf e k) u (xG (e.zA.length-k) (a-k))) w:=rfl
theorem yBs{e:SPr}(ha:k<a)(hn:a<e.zA.length){b:Int}(hb:b<at0 e.zA k):mul (suf e k) (b::y) (xG (e.zA.length-k) (a-k))=b::mul (suf e (k+1)) y (xG (e.zA.length-(k+1)) (a-(k+1))):=by obtain⟨t,ht⟩:∃t,a-k=t+1:=⟨a-(k+1),by omega⟩;obtain⟨s,hs⟩:∃s,e.zA.length-k=s+1:=⟨e.zA.length-(k+1),by omega⟩;rw[zY (x:=e),ht,hs,zFq,yJ,if_neg (by show¬(b+0>=at0 e.zA k);omega),show a-(k+1)=t from by omega,show e.zA.length-(k+1)=s from by omega,L7];rfl
theorem yBt{e:SPr}(hn:k<e.zA.length){b:Int}:mul (suf e k) (b::y) (xG (e.zA.length-k) (k-k))=if b+1>=at0 e.zA k then(b+1-at0 e.zA k)::mul (suf e (k+1)) (lvl e k).w (mul (suf e (k+1)) (sig (suf e (k+1)) (lvl e k) y) (zeros (e.zA.length-(k+1))))else(b+1)::mul (suf e (k+1)) (sig (suf e (k+1)) (lvl e k) y) (zeros (e.zA.length-(k+1))):=by obtain⟨s,hs⟩:∃s,e.zA.length-k=s+1:=⟨e.zA.length-(k+1),by omega⟩;rw[zY (x:=e) hn,hs,Kn,zCO,yJ,show e.zA.length-(k+1)=s from by omega];rfl
section
variable {D:Nat}{x:SPr}{m:zE}{T:Mx} (h:Pres x) (hE:ExB x.zA.length D x m T) (hT:∀i,i<T.length->Row m.Prime D (T.getD i []))
 include h hE hT
theorem yBu(hk:k<=x.zA.length)(he:V (suf (exx D x m T) k) e):mul (suf (exx D x m T) k) e (zeros ((exx D x m T).zA.length-k))=e:=by have hp:=hE.m.p.pos;obtain⟨y,u,rfl,hy,hu⟩:=(tK h hE hT (x.zA.length-k) k (by omega) _).1 he;have:=zDt h hE hT (x.zA.length-k) k (by omega) y u (zeros D) hy hu (yX);rw[zAp hu]at this;rw[xV h hE hT,show x.zA.length+D-k=(x.zA.length-k)+D from by omega,zFC];exact this
def adK(p:Int)(D N:Nat)(e d:Vec):Vec:=e.take N++adv p D (e.drop N) d
theorem zKM(hk:k<=x.zA.length)(he:V (suf (exx D x m T) k) e)(hd:Row m.Prime D d):adK m.Prime D (x.zA.length-k) e d=mul (suf (exx D x m T) k) e (zeros (x.zA.length-k)++d):=by
 obtain⟨y,u,rfl,hy,hu⟩:=(tK h hE hT (x.zA.length-k) k (by omega) _).1 he
 grind[wY,zDt,adK]
theorem yBv(hk:k<=x.zA.length)(he:V (suf (exx D x m T) k) e):V (suf (exx D x m T) k) (adK m.Prime D (x.zA.length-k) e d):=by have hp:=hE.m.p.pos;obtain⟨y,u,rfl,hy,hu⟩:=(tK h hE hT (x.zA.length-k) k (by omega) _).1 he;have eC:=wY h (by omega) hy;rw[adK,Jr eC,K0 eC];exact(tK h hE hT (x.zA.length-k) k (by omega) _).2 ⟨y,_,rfl,hy,sP⟩
theorem zZI(hk:k<=x.zA.length){d':Vec}(he:V (suf (exx D x m T) k) e):adK m.Prime D (x.zA.length-k) (adK m.Prime D (x.zA.length-k) e d) d'=adK m.Prime D (x.zA.length-k) e (adv m.Prime D d d'):=by obtain⟨y,u,rfl,hy,hu⟩:=(tK h hE hT (x.zA.length-k) k (by omega) _).1 he;have eC:=wY h (by omega) hy;simp only[adK,Jr eC,K0 eC,zCX]
theorem zA9(hk:k<x.zA.length){b:Int}:adK m.Prime D (x.zA.length-k) (b::e) d=b::adK m.Prime D (x.zA.length-(k+1)) e d:=by have _:=h;have _:=hE;have _:=hT;rw[show x.zA.length-k=x.zA.length-(k+1)+1 from by omega];rfl
theorem zD(hk:k<=x.zA.length)(hd:Row m.Prime D d):V (suf (exx D x m T) k) (zeros (x.zA.length-k)++d):=
 (tK h hE hT (x.zA.length-k) k (by omega) _).2 ⟨_,d,rfl,zv h hE hT hk,hd⟩
theorem zZJ(hk:k<=a)(ha:a<x.zA.length):V (suf x k) (xG (x.zA.length-k) (a-k)):=by
 have _:=hE;have _:=hT;have:=zCn (h.okAt (k:=k) (by omega)) (j:=a-k) (by grind[yB])
 grind[yB]
theorem zRT(hk:k<=a)(ha:a<x.zA.length):xG ((exx D x m T).zA.length-k) (a-k)=xG (x.zA.length-k) (a-k)++zeros D:=by rw[xV h hE hT,show x.zA.length+D-k=x.zA.length-k+D from by omega,zUQ]
theorem zC5(hk:k<=a)(ha:a<x.zA.length):V (suf (exx D x m T) k) (xG ((exx D x m T).zA.length-k) (a-k)):=by have hp:=hE.m.p.pos;rw[zRT h hE hT hk ha];exact(tK h hE hT (x.zA.length-k) k (by omega) _).2 ⟨_,_,rfl,zZJ h hE hT hk ha,yX⟩
theorem zYe(hk:k<=a)(ha:a<x.zA.length):aM m D k (xG (x.zA.length-k) (a-k))=m.zL.getD a []:=by have _:=h;have _:=hT;have hA:=hE.m.mat a ha;have hl:=hE.m.len;unfold aM;rw[zMO (PM m.Prime D) [] _ _ _ _ (by grind) (by omega),J2,Lx,show k+(a-k)=a from by omega,<-J2,zCQ hA]
variable {k:Nat} (hk:k<x.zA.length) (hc:xC (suf (exx D x m T) (k+1)))
 include hk hc
theorem zZK(h1:k+1<=a)(ha:a<x.zA.length)(he:V (suf (exx D x m T) (k+1)) e)(hd:Row m.Prime D d):
  mul (suf (exx D x m T) (k+1)) (adK m.Prime D (x.zA.length-(k+1)) e d) (xG ((exx D x m T).zA.length-(k+1)) (a-(k+1)))=adK m.Prime D (x.zA.length-(k+1)) (mul (suf (exx D x m T) (k+1)) e (xG ((exx D x m T).zA.length-(k+1)) (a-(k+1)))) (xK m.Prime D d (m.zL.getD a [])):=by
 have hp:=hE.m.p.pos;have gz:=uF h hE hT (k:=k+1) (by omega);have G:=(zBL _ gz hc).toMon;have hg:=zC5 h hE hT h1 ha;have hgv:=zZJ h hE hT h1 ha;have hz:=zD h hE hT (k:=k+1) (by omega) hd;have eW:=zD h hE hT (k:=k+1) (by omega) (wW (p:=m.Prime) (D:=D) (r:=d) (B:=m.zL.getD a []));rw[zKM h hE hT (by omega) he hd,G.assoc he hz hg,zRT h hE hT h1 ha,zML h hE hT _ (k+1) (by omega) _ _ _ hd hgv (yX),zAp (wW),zYe h hE hT h1 ha,<-zRT h hE hT h1 ha,zKM h hE hT (by omega) (G.cl he hg) (wW),G.assoc he hg eW,zRT h hE hT h1 ha,zDt h hE hT _ (k+1) (by omega) _ _ _ hgv (yX) (wW),vY (wW)]
 omit hc in
theorem zHS(he:V (suf (exx D x m T) (k+1)) e)(_hd:Row m.Prime D d):
    sig (suf (exx D x m T) (k+1)) (lvl (exx D x m T) k) (adK m.Prime D (x.zA.length-(k+1)) e d)=adK m.Prime D (x.zA.length-(k+1)) (sig (suf (exx D x m T) (k+1)) (lvl (exx D x m T) k) e) (xK m.Prime D d (m.zL.getD k [])):=by
  have hp:=hE.m.p.pos;obtain⟨y,u,rfl,hy,hu⟩:=(tK h hE hT (x.zA.length-(k+1)) (k+1) (by omega) _).1 he;have eC:=wY h (by omega) hy;obtain⟨y1,u1,e,eD,cu⟩:=(tK h hE hT (x.zA.length-(k+1)) (k+1) (by omega) _).1 (zHM h hE hT hk (y:=y));have gL:=wY h (by omega) eD;have e0:adK m.Prime D (x.zA.length-(k+1)) (y++u) d=y++adv m.Prime D u d:=by grind[adK]
  rw[e0,zBA h hE hT hk hy (sP),zBA h hE hT hk hy hu,e,Jr gL,K0 gL,adK,Jr gL,K0 gL,zEH,zCX]
theorem zMP{z:Vec}(hz:V (suf (exx D x m T) (k+1)) z)(hd:Row m.Prime D d){w:Vec}(hw:V (suf (exx D x m T) (k+1)) w):
  mul (suf (exx D x m T) (k+1)) w (adK m.Prime D (x.zA.length-(k+1)) z d)=adK m.Prime D (x.zA.length-(k+1)) (mul (suf (exx D x m T) (k+1)) w z) d:=by
 have gz:=uF h hE hT (k:=k+1) (by omega);have G:=(zBL _ gz hc).toMon;rw[zKM h hE hT (by omega) hz hd,zKM h hE hT (by omega) (G.cl hw hz) hd,G.assoc hw hz (by grind[zD])]
 omit hc in
theorem zRU:V (suf (exx D x m T) (k+1)) (lvl (exx D x m T) k).w:=by
  have gz:=uF h hE hT (k:=k) (by omega);rw[zY (x:=exx D x m T) (by grind[xV])]at gz;exact gz.2.1
 omit hc in
theorem zAr(he:V (suf (exx D x m T) (k+1)) e):V (suf (exx D x m T) (k+1)) (sig (suf (exx D x m T) (k+1)) (lvl (exx D x m T) k) e):=by
  have gz:=uF h hE hT (k:=k) (by omega);rw[zY (x:=exx D x m T) (by grind[xV])]at gz
  grind[zCo]
theorem zGd{b:Int}(he:V (suf (exx D x m T) (k+1)) e):mul (suf (exx D x m T) k) (b::e) (xG ((exx D x m T).zA.length-k) (k-k))=if b+1>=at0 x.zA k then(b+1-at0 x.zA k)::mul (suf (exx D x m T) (k+1)) (lvl (exx D x m T) k).w (sig (suf (exx D x m T) (k+1)) (lvl (exx D x m T) k) e)else(b+1)::sig (suf (exx D x m T) (k+1)) (lvl (exx D x m T) k) e:=by have _:=hc;rw[yBt (by grind[xV]),yBu h hE hT (by omega) (zAr h hE hT hk he),tB h hE hT hk]
theorem zMQ(h1:k<a)(ha:a<x.zA.length){b:Int}(hb:b<at0 x.zA k):mul (suf (exx D x m T) k) (b::e) (xG ((exx D x m T).zA.length-k) (a-k))=b::mul (suf (exx D x m T) (k+1)) e (xG ((exx D x m T).zA.length-(k+1)) (a-(k+1))):=by have _:=hc;grind[yBs,xV,tB]
theorem yFl(h1:k<=a)(ha:a<x.zA.length){b:Int}(hb:b<at0 x.zA k)(he:V (suf (exx D x m T) (k+1)) e)(hd:Row m.Prime D d):
  mul (suf (exx D x m T) k) (b::adK m.Prime D (x.zA.length-(k+1)) e d) (xG ((exx D x m T).zA.length-k) (a-k))=adK m.Prime D (x.zA.length-k) (mul (suf (exx D x m T) k) (b::e) (xG ((exx D x m T).zA.length-k) (a-k))) (xK m.Prime D d (m.zL.getD a [])):=by
 have hp:=hE.m.p.pos;rcases Jo k a with g|g
 ·rw[zMQ h hE hT hk hc g ha hb,zMQ h hE hT hk hc g ha hb,zZK h hE hT hk hc g ha he hd,zA9 h hE hT hk]
 ·obtain rfl:a=k:=by omega
  rw[zGd h hE hT hk hc (by grind[yBv]),zGd h hE hT hk hc he,zHS h hE hT hk he hd];split
  ·rw[zMP h hE hT hk hc (zAr h hE hT hk he) (wW) (zRU h hE hT hk),zA9 h hE hT hk]
  grind[zA9]
theorem yDI(h1:k<=a)(ha:a<x.zA.length)(he:V (suf (exx D x m T) k) e):V (suf (exx D x m T) k) (mul (suf (exx D x m T) k) e (xG ((exx D x m T).zA.length-k) (a-k))):=by have _:=hc;grind[yO,uF,zC5]
theorem yFm:∀{w:List Nat},(∀a∈w,k<=a/\a<x.zA.length)-> ∀{e:Vec},V (suf (exx D x m T) k) e->V (suf (exx D x m T) k) (fo (exx D x m T) k e w)
 | [],_,_,he=>he
 |a::w,hw,e,he=>by rw[tX];exact yFm (by grind) (by grind[yDI])
theorem zQQ:∀{w:List Nat},(∀a∈w,k<=a/\a<x.zA.length)-> ∀{e d:Vec},V (suf (exx D x m T) k) e->Row m.Prime D d->fo (exx D x m T) k (adK m.Prime D (x.zA.length-k) e d) w=adK m.Prime D (x.zA.length-k) (fo (exx D x m T) k e w) (xK m.Prime D d (wM m.Prime D m.zL w (idM D)))
 | [],_,e,d,_,hd=>by show adK _ _ _ e d=adK _ _ _ e (xK m.Prime D d (idM D));rw[sY hd]
 |a::w,hw,e,d,he,hd=>by
  have hp:=hE.m.p.pos;obtain⟨a1,a2⟩:=hw a (by simp);have hA:=hE.m.mat a a2;have iN:=he;rw[zY (x:=exx D x m T) (by grind[xV])]at iN;cases e with
  |nil=>exact iN.elim
  |cons b e=>
   obtain⟨⟨b0,b1⟩,he1⟩:=iN;have b2:b<at0 x.zA k:=by rw[<-tB h hE hT hk];exact b1
   rw[tX,tX,zA9 h hE hT hk,yFl h hE hT hk hc a1 a2 b2 he1 hd,zQQ (by grind) (by grind[yDI]) (wW),zEC hA.1]
   congr 2
   show PM _ _ _ (wM m.Prime D m.zL w (idM D))=wM m.Prime D m.zL w (PM m.Prime D (idM D) (m.zL.getD a []));rw[<-zK7 (by omega) hA.1 w (tJ),zCy hA,zCQ hA]
end
inductive Col (x:SPr) (k:Nat):List Nat->List (Nat×List Nat)->List Nat->Prop where
 |refl (w:List Nat):Col x k w [] w
 |step {w w1 w' s:List Nat}{r:Nat}{tr:List (Nat×List Nat)} (hw:∀a∈w,k<=a/\a<x.zA.length) (hs:stS x w=jd (r,s,w1)) (h:Col x k w1 tr w'):Col x k w ((r,s)::tr) w'
theorem Col.trans{w w1 w2:List Nat}(h:Col x k w t1 w1)(h2:Col x k w1 t2 w2):Col x k w (t1++t2) w2:=by
 induction h with
 |refl w=>exact h2
 |step hw hs _ ih=>exact .step hw hs (ih h2)
def tv(p:Int)(D:Nat)(m:zE)(T:Mx):List (Nat×List Nat)->Vec
 | []=>zeros D
 |(r,s)::t=>adv p D (xK p D (T.getD r []) (wM p D m.zL s (idM D))) (tv p D m T t)
section
variable {p:Int}{D:Nat}{m:zE}{T:Mx} (hp:2<=p)
 include hp
theorem zKN:∀t,Row p D (tv p D m T t)
 | []=>yX
 |(_,_)::_=>sP
theorem zHT:∀t u,tv p D m T (t++u)=adv p D (tv p D m T t) (tv p D m T u)
 | [],u=>(vY (zKN hp u)).symm
 |(r,s)::t,u=>by show adv p D _ (tv p D m T (t++u))=adv p D (adv p D _ _) _;rw[zHT t u,zCX]
theorem yBw{A:List Mx}{u v:List Nat}:wM p D A (u++v) (idM D)=PM p D (wM p D A u (idM D)) (wM p D A v (idM D)):=by have hu:=zHA (D:=D) (A:=A) (show 0<p by omega) u (tJ hp);rw[zFz,<-zK7 (by omega) hu.1 v (tJ hp),zCy hu]
theorem zEI{A:List Mx}{u v:List Nat}{r:Vec}:xK p D r (wM p D A (u++v) (idM D))=xK p D (xK p D r (wM p D A u (idM D))) (wM p D A v (idM D)):=by have hu:=zHA (D:=D) (A:=A) (show 0<p by omega) u (tJ hp);rw[yBw hp,zEC hu.1]
theorem zUR(z:List Nat):∀t,tv p D m T (t.map fun q=>(q.1,q.2++z))=xK p D (tv p D m T t) (wM p D m.zL z (idM D))
 | []=>zAq.symm
 |(r,s)::t=>by show adv p D (xK p D (T.getD r []) (wM p D m.zL (s++z) (idM D))) (tv p D m T (t.map fun q=>(q.1,q.2++z)))=xK p D (adv p D _ (tv p D m T t)) _;rw[zUR z t,zEH,zEI hp]
end
section
variable {x:SPr} (h:Pres x)
 include h
theorem zMR(ha:a<x.zA.length):2<=yC x a:=by
 have:=(h.os.2 a ha).pos
 grind
theorem uW{v:List Int}(hv:Exp x.zA v i)(hi:i<x.zA.length):nw 0 v=nw (i+1) (v.drop (i+1))/\ ∀a∈nw 0 v,i+1<=a/\a<x.zA.length:=by
 have _:=h;have e:=zAd hv hi;have e1:nw 0 v=nw (i+1) (v.drop (i+1)):=by rw[e,zCR,zC1,zT,Jz,Ji,K0 (by rw[zT])]
 refine⟨e1,fun a ha=>?_⟩;rw[e1]at ha;refine⟨?_,zM3 (n:=x.zA.length) (i+1) _ (by rw[Kk,hv.1.1];omega) a ha⟩
 clear e e1 hv
 generalize v.drop (i+1)=y at ha
 generalize i+1=o at ha ⊢
 clear hi
 induction y generalizing o with
 |nil=>grind[nw]
 |cons b y ih=>
  grind[nw]
theorem uC(hi:i<j)(hj:j<x.zA.length):Exp x.zA (lcj x i j) i:=by have g:=(h.tl i (by omega)).2.1;exact(h.tl i (by omega)).2.2 (j-(i+1)) (by omega)
theorem sQ(hi:i<x.zA.length):Exp x.zA (x.zP.getD i []) i:=(h.tl i hi).1
theorem zUS:∀(o:Nat)(y:Vec),∀a∈nw o y,o<=a
 |_,[],a,ha=>by grind[nw]
 |o,b::y,a,ha=>by
  have _:=h;simp only[nw,Ja]at ha;rcases ha with ha|ha
  ·grind
  ·have:=zUS (o+1) y a ha;omega
theorem zQR(hk:k<=x.zA.length)(hy:V (suf x k) y):∀a∈nw k y,k<=a/\a<x.zA.length:=fun a ha=>
 ⟨zUS h k y a ha,zM3 (n:=x.zA.length) k y (by grind[wY]) a ha⟩
theorem zFD:∀(d k:Nat),k+d=x.zA.length-> ∀y,V (suf x k) y->stS x (nw k y)=je
 |0,k,hk,y,hy=>by rw[vL (x:=x) (k:=k)]at hy;obtain rfl:y=[]:=hy;rfl
 |d+1,k,hk,y,hy=>by
  rw[zY (x:=x)]at hy;cases y with
  |nil=>rfl
  |cons b y=>
   obtain⟨⟨b0,b1⟩,hy⟩:=hy;change b<at0 x.zA k at b1;simp only[nw];have gC:b.toNat<yC x k:=by grind
   rw[zDO gC b.toNat (Je _) fun a ha=>?_,zFD d (k+1) (by omega) y hy]
   ·rfl
   ·have:=zUS h (k+1) y a (by grind[Ja4])
    omega
theorem Col.ctx(hi:i<x.zA.length)(ha:a<yC x i){s:List Nat}(hs:∀b∈s,i<=b/\b<x.zA.length){w w':List Nat}{tr:List (Nat×List Nat)}(hc:Col x (i+1) w tr w'):
  Col x i (J1 a i++(w++s)) (tr.map fun q=>(q.1,q.2++s)) (J1 a i++(w'++s)):=by
 induction hc with
 |refl w=>exact .refl _
 | @step w w1 w' s1 r tr hw gA _ ih=>
  refine .step (fun b hb=>?_) ?_ ih
  ·grind
  ·rw[zDO ha a (Je _) fun b hb=>?_,zKL (by grind[zMR]) gA]
   ·rfl
   ·cases w with
    |nil=>cases gA
    |cons c w=>
     simp only[K9,Jba,Hm.injEq]at hb;have:=hw c (by simp);omega
def cwd(x:SPr)(i:Nat):List Nat->List Nat
 | []=>[]
 |l::ur=>cwd x i ur++nw 0 (lcj x i l)
def mtr(x:SPr)(i:Nat):List Nat->List Nat->List (Nat×List Nat)
 | [],_=>[]
 |l::ur,z=>(base x.zA.length i+(l-(i+1)),z)::mtr x i ur (nw 0 (lcj x i l)++z)
theorem zKO{i:Nat}:∀{ur:List Nat},(∀b∈ur,i+1<=b/\b<x.zA.length)-> ∀b∈cwd x i ur,i+1<=b/\b<x.zA.length
 | [],_,b,hb=>by grind[cwd]
 |l::ur,hu,b,hb=>by
  simp only[cwd,Ja]at hb;obtain⟨l1,l2⟩:=hu l (by simp);rcases hb with hb|hb
  ·exact zKO (by grind) b hb
  ·exact(uW h (uC h (by omega) l2) (by omega)).2 b hb
theorem Col.move{i a:Nat}(hi:i<x.zA.length)(ha:a<yC x i):∀{ur:List Nat},(∀b∈ur,i+1<=b/\b<x.zA.length)->stS x ur.reverse=je-> ∀{z:List Nat},(∀b∈z,i<=b/\b<x.zA.length)->
  Col x i (J1 a i++(ur.reverse++i::z)) (mtr x i ur z) (J1 (a+1) i++(cwd x i ur++z))
 | [],_,_,z,_=>by
  have e:J1 a i++(([]:List Nat).reverse++i::z)=J1 (a+1) i++(cwd x i []++z):=by grind[Lv,cwd]
  rw[e];exact .refl _
 |l::ur,hu,hn,z,hz=>by
  obtain⟨l1,l2⟩:=hu l (by simp);have p6:∀b∈ur,i+1<=b/\b<x.zA.length:=by grind
  have cR:=uW h (uC h (show i<l by omega) l2) hi;rw[G8]at hn ⊢
  have ba:=zGc (by grind[zMR]) hn;have eW:∀b∈nw 0 (lcj x i l)++z,i<=b/\b<x.zA.length:=by grind
  have ih:=Col.move hi ha p6 ba eW;rw[show cwd x i (l::ur)++z=cwd x i ur++(nw 0 (lcj x i l)++z)from by simp[cwd]];have e1:ur.reverse++[l]++i::z=ur.reverse++l::i::z:=by simp
  rw[e1];refine .step (fun b hb=>?_) ?_ ih
  ·simp only[Ja,J9,List.mem_reverse]at hb
   rcases hb with hb|hb|hb|hb|hb
   ·grind
   ·grind
   ·omega
   all_goals grind
  ·rw[zDO ha a (Je _) fun b hb=>?_,zUP (by grind) (by omega) hn]
   ·rfl
   ·have:b∈ur.reverse++l::i::z:=by grind[Ja4]
    cases e:ur.reverse with
    |nil=>grind
    |cons c t=>
     grind
end
theorem zHU{α:Type}(m:α->α->α)(c:Nat->α)(z:α):∀(cs:List α)(v:Vec)(o:Nat)(acc:α),(∀j,j<cs.length->cs.getD j z=c (o+j))->v.length<=cs.length->img m cs v acc=(nw o v).foldl (fun acc j=>m acc (c j)) acc
 |cs,[],o,acc,_,_=>by cases cs<;>rfl
 | [],_::_,_,_,_,h=>by simp at h
 |a::cs,b::v,o,acc,hc,hl=>by
  have h0:=hc 0 (by simp);simp only[Gp,Um]at h0;have e:∀(k:Nat)(u:α),(J1 k o).foldl (fun acc j=>m acc (c j)) u=iter k (fun v=>m v a) u:=by
   intro k
   induction k with
   |zero=>intro u;rfl
   |succ k ih=>intro u;rw[Jv,Ga,ih,h0];rfl
  show img m cs v (iter b.toNat (fun v=>m v a) acc)=_;simp only[nw,Gv];rw[e,zHU m c z cs v (o+1) _ (fun j hj=>by have:=hc (j+1) (by grind);grind) (by grind)]
theorem map_drop{l:List (List Int)}{n:Nat}:(l.map (·.drop n)).getD i []=(l.getD i []).drop n:=by grind
section
variable {D:Nat}{x:SPr}{m:zE}{T:Mx} (h:Pres x) (hE:ExB x.zA.length D x m T) (hT:∀i,i<T.length->Row m.Prime D (T.getD i []))
 include h hE hT
theorem zYf(hk:k<x.zA.length)(hc:xC (suf (exx D x m T) k)):xC (suf (exx D x m T) (k+1)):=by rw[zY (x:=exx D x m T) (by grind[xV])]at hc;exact hc.1
theorem zOO(hk:k<=x.zA.length):V (suf (exx D x m T) k) (zeros ((exx D x m T).zA.length-k)):=by grind[wC,uF,yB]
theorem zHV(hk:k<=x.zA.length):zeros ((exx D x m T).zA.length-k)=zeros (x.zA.length-k)++zeros D:=by rw[xV h hE hT,show x.zA.length+D-k=x.zA.length-k+D from by omega,zFC]
theorem zDe(hk:k<=x.zA.length){u:Vec}(hy:V (suf x k) y)(hu:Row m.Prime D u):V (suf (exx D x m T) k) (y++u):=
 (tK h hE hT (x.zA.length-k) k (by omega) _).2 (by grind)
theorem jK(hk:k<=x.zA.length){u:Vec}(hy:V (suf x k) y):adK m.Prime D (x.zA.length-k) (y++u) d=y++adv m.Prime D u d:=by have _:=hE;have _:=hT;have eC:=wY h hk hy;rw[adK,Jr eC,K0 eC]
theorem zHW:∀(d k:Nat),k+d=x.zA.length->xC (suf (exx D x m T) k)-> ∀y,V (suf x k) y->fo (exx D x m T) k (zeros ((exx D x m T).zA.length-k)) (nw k y)=y++zeros D
 |0,k,hk,_,y,hy=>by rw[vL (x:=x) (k:=k)]at hy;obtain rfl:y=[]:=hy;rw[zHV h hE hT (by omega),show x.zA.length-k=0 from by omega];rfl
 |d+1,k,hk,hc,y,hy=>by
  have pM:=zYf h hE hT (by omega) hc;have ih:=zHW d (k+1) (by omega) pM;rw[zY (x:=x)]at hy;cases y with
  |nil=>exact hy.elim
  |cons b y=>
   obtain⟨⟨b0,b1⟩,hy⟩:=hy;change b<at0 x.zA k at b1;have eY:k<x.zA.length:=by omega
   have hz:=zOO h hE hT (k:=k+1) (by omega);simp only[nw];rw[zC4];have e1:∀c:Nat,(c:Int)<at0 x.zA k->fo (exx D x m T) k (zeros ((exx D x m T).zA.length-k)) (J1 c k)=(c:Int)::zeros ((exx D x m T).zA.length-(k+1)):=by
    intro c
    induction c with
    |zero=>
     intro _;have hl:=xV h hE hT;rw[show(exx D x m T).zA.length-k=(exx D x m T).zA.length-(k+1)+1 from by omega];rfl
    |succ c ihc=>
     intro gy;rw[Lv,zC4,ihc (by omega)];show mul _ _ _=_;rw[zGd h hE hT eY pM hz,if_neg (by omega)];have:sig (suf (exx D x m T) (k+1)) (lvl (exx D x m T) k) (zeros ((exx D x m T).zA.length-(k+1)))=zeros ((exx D x m T).zA.length-(k+1)):=by grind[sig,tL,yB]
     grind
   have e2:∀(w:List Nat)(e:Vec),(∀a∈w,k+1<=a/\a<x.zA.length)->fo (exx D x m T) k (b::e) w=b::fo (exx D x m T) (k+1) e w:=by
    intro w
    induction w with
    |nil=>intro e _;rfl
    |cons a w ihw=>
     intro e hw;rw[tX,zMQ h hE hT eY pM (hw a (by simp)).1 (hw a (by simp)).2 b1,ihw _ (by grind)];rfl
   have:=e1 b.toNat (by omega);rw[this,show((b.toNat:Nat):Int)=b from by omega,e2 _ _ fun a ha=>zQR h (by omega) hy a ha,ih y hy];rfl
variable {k:Nat} (hk:k<x.zA.length) (hc:xC (suf (exx D x m T) (k+1)))
 include hk hc
theorem zHX{b:Int}(hb:b<at0 x.zA k):∀(w:List Nat)(e:Vec),(∀a∈w,k+1<=a/\a<x.zA.length)->fo (exx D x m T) k (b::e) w=b::fo (exx D x m T) (k+1) e w
 | [],e,_=>rfl
 |a::w,e,hw=>by rw[tX,zMQ h hE hT hk hc (hw a (by simp)).1 (hw a (by simp)).2 hb,zHX hb w _ (by grind)];rfl
 omit hc in
theorem zRV:∀{w:List Nat},(∀a∈w,k+1<=a/\a<x.zA.length)-> ∀{e:Vec},V (suf (exx D x m T) (k+1)) e->V (suf (exx D x m T) (k+1)) (fo (exx D x m T) (k+1) e w)
  | [],_,_,he=>he
  |a::w,hw,e,he=>by rw[tX];exact zRV (fun b hb=>hw b (by simp[hb])) (yO (uF h hE hT (by omega)) he (zC5 h hE hT (hw a (by simp)).1 (hw a (by simp)).2))
theorem zUT:∀{w:List Nat},(∀a∈w,k+1<=a/\a<x.zA.length)-> ∀{e d:Vec},V (suf (exx D x m T) (k+1)) e->Row m.Prime D d->fo (exx D x m T) (k+1) (adK m.Prime D (x.zA.length-(k+1)) e d) w=adK m.Prime D (x.zA.length-(k+1)) (fo (exx D x m T) (k+1) e w) (xK m.Prime D d (wM m.Prime D m.zL w (idM D)))
 | [],_,e,d,_,hd=>by show adK _ _ _ e d=adK _ _ _ e (xK m.Prime D d (idM D));rw[sY hd]
 |a::w,hw,e,d,he,hd=>by
  have hp:=hE.m.p.pos;obtain⟨a1,a2⟩:=hw a (by simp);have hA:=hE.m.mat a a2;rw[tX,tX,zZK h hE hT hk hc a1 a2 he hd,zUT (by grind) (by grind[yO,uF,zC5]) (wW),zEC hA.1]
  congr 2
  show PM _ _ _ (wM m.Prime D m.zL w (idM D))=wM m.Prime D m.zL w (PM m.Prime D (idM D) (m.zL.getD a []));rw[<-zK7 (by omega) hA.1 w (tJ),zCy hA,zCQ hA]
theorem zUU:∀{w:List Nat},(∀a∈w,k+1<=a/\a<x.zA.length)-> ∀{e f:Vec},V (suf (exx D x m T) (k+1)) e->V (suf (exx D x m T) (k+1)) f->fo (exx D x m T) (k+1) (mul (suf (exx D x m T) (k+1)) e f) w=mul (suf (exx D x m T) (k+1)) e (fo (exx D x m T) (k+1) f w)
 | [],_,_,_,_,_=>rfl
 |a::w,hw,e,f,he,hf=>by have gz:=uF h hE hT (k:=k+1) (by omega);have G:=(zBL _ gz hc).toMon;have hg:=zC5 h hE hT (hw a (by simp)).1 (hw a (by simp)).2;rw[tX,tX,G.assoc he hf hg,zUU (by grind) he (G.cl hf hg)]
theorem zHY{w:List Nat}(hw:∀a∈w,k+1<=a/\a<x.zA.length)(he:V (suf (exx D x m T) (k+1)) e):fo (exx D x m T) (k+1) e w=mul (suf (exx D x m T) (k+1)) e (fo (exx D x m T) (k+1) (zeros ((exx D x m T).zA.length-(k+1))) w):=by rw[<-zUU h hE hT hk hc hw he (by grind[zOO]),yBu h hE hT (by omega) he]
def dm(p:Int)(D:Nat)(x:SPr)(m:zE)(T:Mx)(k:Nat):List Nat->Vec
 | []=>zeros D
 |l::ur=>adv p D (xK p D (dm p D x m T k ur) (wM p D m.zL (nw 0 (lcj x k l)) (idM D))) (T.getD (base x.zA.length k+(l-(k+1))) [])
 omit h hE hT hk hc in
theorem zOP(hp:2<=m.Prime):∀ur,Row m.Prime D (dm m.Prime D x m T k ur)
  | []=>yX
  |_::_=>sP
 omit h hE hT hk hc in
theorem zOQ(hp:2<=m.Prime):∀(ur:List Nat)(z:List Nat),tv m.Prime D m T (mtr x k ur z)=xK m.Prime D (dm m.Prime D x m T k ur) (wM m.Prime D m.zL z (idM D))
  | [],z=>zAq.symm
  |l::ur,z=>by show adv m.Prime D _ (tv m.Prime D m T (mtr x k ur (nw 0 (lcj x k l)++z)))=xK m.Prime D (adv m.Prime D _ _) _;rw[zOQ hp ur,zEH,zEI hp,uS]
theorem zUV:∀{ur:List Nat},(∀b∈ur,k+1<=b/\b<x.zA.length)->ur.reverse.foldl (fun acc j=>mul (suf (exx D x m T) (k+1)) acc ((lvl (exx D x m T) k).cs.getD (j-(k+1)) [])) (zeros ((exx D x m T).zA.length-(k+1)))=
  adK m.Prime D (x.zA.length-(k+1)) (fo (exx D x m T) (k+1) (zeros ((exx D x m T).zA.length-(k+1))) (cwd x k ur)) (dm m.Prime D x m T k ur)
 | [],_=>by have hp:=hE.m.p.pos;show zeros _=adK _ _ _ (zeros _) (zeros D);rw[zHV h hE hT (by omega),jK h hE hT (by omega) (by grind[zv]),vY (yX)]
 |l::ur,hu=>by
  have hp:=hE.m.p.pos;obtain⟨l1,l2⟩:=hu l (by simp);have p6:∀b∈ur,k+1<=b/\b<x.zA.length:=by grind
  have gz:=uF h hE hT (k:=k+1) (by omega);have G:=(zBL _ gz hc).toMon;have hz:=zOO h hE hT (k:=k+1) (by omega);have pX:=zKO h p6;have hF:=zRV h hE hT hk pX hz;have cR:=uW h (uC h (show k<l by omega) l2) hk;have gy:V (suf x (k+1)) ((lcj x k l).drop (k+1)):=by grind[qZ,uC]
  have pd:(lvl x k).cs.getD (l-(k+1)) []=(lcj x k l).drop (k+1):=map_drop;have ht:=zDu h hE hT (show k<l by omega) l2;have hd:=zOP (D:=D) (x:=x) (m:=m) (T:=T) (k:=k) (by omega) ur;have iH:=zHW h hE hT (x.zA.length-(k+1)) (k+1) (by omega) hc _ gy;have cI:=zDe h hE hT (k:=k+1) (by omega) gy (yX (p:=m.Prime) (D:=D));rw[G8,Gv,zUV p6];show mul _ (adK _ _ _ _ _) ((lvl (exx D x m T) k).cs.getD (l-(k+1)) [])=_;rw[zHO h hE hT hk l1 l2,pd];have e1:(lcj x k l).drop (k+1)++T.getD (base x.zA.length k+(l-(k+1))) []=adK m.Prime D (x.zA.length-(k+1)) ((lcj x k l).drop (k+1)++zeros D) (T.getD (base x.zA.length k+(l-(k+1))) []):=by grind[jK,vY]
  have gK:∀b∈nw (k+1) ((lcj x k l).drop (k+1)),k+1<=b/\b<x.zA.length:=by grind
  have eO:=yBv h hE hT (k:=k+1) (by omega) hF (d:=dm m.Prime D x m T k ur);rw[e1,zMP h hE hT hk hc cI ht eO,<-iH,<-zHY h hE hT hk hc gK eO,zUT h hE hT hk hc gK hF hd,zZI h hE hT (by omega) (zRV h hE hT hk gK hF),<-zC4,<-cR.1];rfl
theorem zQS(hy:V (suf x (k+1)) y):sig (suf (exx D x m T) (k+1)) (lvl (exx D x m T) k) (y++zeros D)=adK m.Prime D (x.zA.length-(k+1)) (fo (exx D x m T) (k+1) (zeros ((exx D x m T).zA.length-(k+1))) (cwd x k (nw (k+1) y).reverse)) (dm m.Prime D x m T k (nw (k+1) y).reverse):=by have hp:=hE.m.p.pos;have eC:=wY h (by omega) hy;have gK:=zQR h (by omega) hy;rw[<-zUV h hE hT hk hc (by grind),Kh,zBA h hE hT hk hy (yX),zAq];obtain⟨y1,u1,e,eD,cu⟩:=(tK h hE hT (x.zA.length-(k+1)) (k+1) (by omega) _).1 (zHM h hE hT hk (y:=y));have gL:=wY h (by omega) eD;rw[e,Jr gL,K0 gL,zAp cu,<-e];unfold sgG;rw[yB];refine zHU _ (fun j=>(lvl (exx D x m T) k).cs.getD (j-(k+1)) []) [] _ _ _ _ (fun j hj=>?_) (by grind[qG]);rw[qG h hE hT]at hj;rw[show k+1+j-(k+1)=j from by omega,zB9 h hE hT hk,J2,J2,K1 (by grind[qG])]
end
section
variable {x:SPr} (h:Pres x)
 include h
theorem zMS{m:zE}{T:Mx}(hE:ExB x.zA.length D x m T)(hT:∀i,i<T.length->Row m.Prime D (T.getD i []))(hk:k<=x.zA.length)(hc:xC (suf (exx D x m T) k)):xC (suf (exx D x m T) (k+1)):=by
 have hl:=xV h hE hT
 by_cases g:k<x.zA.length+D
 ·rw[zY (x:=exx D x m T)]at hc
  exact hc.1
 ·rw[vL]at hc ⊢
  exact hc
structure tR (x:SPr) (k:Nat) (z:List Nat) (tr:List (Nat×List Nat)) (y:Vec):Prop where
 col:Col x k z tr (nw k y)
 v:V (suf x k) y
 val:∀(D:Nat)(m:zE)(T:Mx),ExB x.zA.length D x m T->(∀i,i<T.length->Row m.Prime D (T.getD i []))->xC (suf (exx D x m T) (k+1))->fo (exx D x m T) k (zeros ((exx D x m T).zA.length-k)) z=y++tv m.Prime D m T tr
theorem zQT{k:Nat}(hk:k<x.zA.length)(P:∀v:List Nat,(∀a∈v,k+1<=a/\a<x.zA.length)-> ∃tr y,tR x (k+1) v tr y):∀(z:List Nat),(∀a∈z,k<=a/\a<x.zA.length)-> ∀(a:Nat),a<yC x k-> ∀(v:List Nat),(∀a∈v,k+1<=a/\a<x.zA.length)->
  ∃tr y,Col x k (J1 a k++(v++z)) tr (nw k y)/\V (suf x k) y/\ ∀(D:Nat)(m:zE)(T:Mx),ExB x.zA.length D x m T->(∀i,i<T.length->Row m.Prime D (T.getD i []))->xC (suf (exx D x m T) (k+1))->
   fo (exx D x m T) k ((a:Int)::fo (exx D x m T) (k+1) (zeros ((exx D x m T).zA.length-(k+1))) v) z=y++tv m.Prime D m T tr
 | [],_,a,ha,v,hv=>by
  obtain⟨tr,y,c1,c2,c3⟩:=P v hv;have hc:=Col.ctx h hk ha (s:=[]) (by simp) c1;rw[show(fun q:Nat×List Nat=>(q.1,q.2++[]))=id from by grind,List.map_id,Jh,Jh]at hc;refine⟨tr,(a:Int)::y,?_,?_,fun D m T hE hT hc=>?_⟩
  ·grind[nw]
  ·rw[zY hk]
   refine⟨⟨by omega,?_⟩,c2⟩;show(a:Int)<at0 x.zA k
   grind
  ·rw[c3 D m T hE hT (by grind[zMS])];rfl
 |l::z,hz,a,ha,v,hv=>by
  have eW:∀b∈z,k<=b/\b<x.zA.length:=by grind
  obtain⟨l1,l2⟩:=hz l (by simp);have pP:(a:Int)<at0 x.zA k:=by grind
  rcases Jo k l with g|g
  ·obtain⟨tr,y,c1,c2,c3⟩:=zQT hk P z eW a ha (v++[l]) (by grind)
   refine⟨tr,y,by grind,c2,fun D m T hE hT hc=>?_⟩;rw[<-c3 D m T hE hT hc,tX,zMQ h hE hT hk hc g l2 pP,zC4];rfl
  ·obtain rfl:l=k:=by omega
   obtain⟨tr1,y1,c1,c2,c3⟩:=P v hv;have gK:=zQR h (by omega) c2;have pI:∀b∈(nw (l+1) y1).reverse,l+1<=b/\b<x.zA.length:=by grind
   have k1:=Col.ctx h hk ha (s:=l::z) hz c1;have k2:=Col.move h hk ha pI (by rw[Kh];exact zFD h _ _ (by omega:l+1+(x.zA.length-(l+1))=x.zA.length) y1 c2) eW;rw[Kh]at k2;have pX:=zKO h pI;have val:∀(D:Nat)(m:zE)(T:Mx)(hE:ExB x.zA.length D x m T)(hT:∀i,i<T.length->Row m.Prime D (T.getD i []))(hc:xC (suf (exx D x m T) (l+1))),
     fo (exx D x m T) l ((a:Int)::fo (exx D x m T) (l+1) (zeros ((exx D x m T).zA.length-(l+1))) v) (l::z)=adK m.Prime D (x.zA.length-l) (fo (exx D x m T) l (mul (suf (exx D x m T) l) ((a:Int)::(y1++zeros D)) (xG ((exx D x m T).zA.length-l) (l-l))) z) (tv m.Prime D m T (tr1.map fun q=>(q.1,q.2++l::z))):=by
    intro D m T hE hT hc;have hp:=hE.m.p.pos;have ht:=zKN (D:=D) (m:=m) (T:=T) (p:=m.Prime) (by omega) tr1;have tz:=zDe h hE hT (k:=l+1) (by omega) c2 (yX (p:=m.Prime) (D:=D));have da:V (suf (exx D x m T) l) ((a:Int)::(y1++zeros D)):=by rw[zY (x:=exx D x m T) (by rw[xV h hE hT];omega)];refine⟨⟨by omega,?_⟩,tz⟩;show(a:Int)<at0 (exx D x m T).zA l;rw[tB h hE hT hk];exact pP
    rw[c3 D m T hE hT (zMS h hE hT (by omega) hc),show y1++tv m.Prime D m T tr1=adK m.Prime D (x.zA.length-(l+1)) (y1++zeros D) (tv m.Prime D m T tr1)from by rw[jK h hE hT (by omega) c2,vY ht],<-zA9 h hE hT hk,zQQ h hE hT hk hc hz da ht,zUR (by omega)];rfl
   have foV:∀(D:Nat)(m:zE)(T:Mx)(hE:ExB x.zA.length D x m T)(hT:∀i,i<T.length->Row m.Prime D (T.getD i []))(_hc:xC (suf (exx D x m T) (l+1))),V (suf (exx D x m T) (l+1)) (fo (exx D x m T) (l+1) (zeros ((exx D x m T).zA.length-(l+1))) (cwd x l (nw (l+1) y1).reverse)):=fun D m T hE hT _hc=>zRV h hE hT hk pX (zOO h hE hT (by omega))
   rcases Jo (a+1) (yC x l)with g2|g2
   ·obtain⟨tr2,y2,d1,d2,d3⟩:=zQT hk P z eW (a+1) g2 (cwd x l (nw (l+1) y1).reverse) pX
    refine⟨_,y2,k1.trans (k2.trans d1),d2,fun D m T hE hT hc=>?_⟩;have hp:=hE.m.p.pos;have tz:=zDe h hE hT (k:=l+1) (by omega) c2 (yX (p:=m.Prime) (D:=D));have g3:(a:Int)+1<at0 x.zA l:=by have:a+1<(at0 x.zA l).toNat:=g2;omega
    have hF:=foV D m T hE hT hc;have da:V (suf (exx D x m T) l) (((a:Int)+1)::fo (exx D x m T) (l+1) (zeros ((exx D x m T).zA.length-(l+1))) (cwd x l (nw (l+1) y1).reverse)):=by rw[zY (x:=exx D x m T) (by rw[xV h hE hT];omega)];refine⟨⟨by omega,?_⟩,hF⟩;show(a:Int)+1<at0 (exx D x m T).zA l;rw[tB h hE hT hk];exact g3
    have hd:=zOP (D:=D) (x:=x) (m:=m) (T:=T) (k:=l) (by omega) (nw (l+1) y1).reverse;have d3':=d3 D m T hE hT hc;rw[show(((a+1:Nat):Int))=(a:Int)+1 from by omega]at d3';rw[val D m T hE hT hc,zGd h hE hT hk hc tz,if_neg (by omega),zQS h hE hT hk hc c2,<-zA9 h hE hT hk,zQQ h hE hT hk hc eW da hd,d3',jK h hE hT (by omega) d2,jK h hE hT (by omega) d2,<-zOQ (by omega),zHT (by omega),zHT (by omega),uS,uS (u:=tv m.Prime D m T tr2)]
   ·have g4:a+1=yC x l:=by omega
    have pU:=sQ h hk;have pV:=uW h pU hk;have dj:∀b∈nw 0 (x.zP.getD l [])++cwd x l (nw (l+1) y1).reverse,l+1<=b/\b<x.zA.length:=fun b hb=>by
     simp only[Ja]at hb;rcases hb with hb|hb
     ·exact pV.2 b hb
     ·exact pX b hb
    obtain⟨tr2,y2,d1,d2,d3⟩:=zQT hk P z eW 0 (by omega) _ dj;rw[Lz,Jz,Jg]at d1;have k3:Col x l (J1 (a+1) l++(cwd x l (nw (l+1) y1).reverse++z)) ((l,cwd x l (nw (l+1) y1).reverse++z)::tr2) (nw l y2):=by
     refine .step (fun b hb=>?_) (by rw[g4];exact zZH (zMR h hk) _) d1;simp only[Ja]at hb;rcases hb with hb|hb|hb
     ·have:=H1 hb;omega
     ·have:=pX b hb;omega
     ·exact eW b hb
    refine⟨_,y2,k1.trans (k2.trans k3),d2,fun D m T hE hT hc=>?_⟩;have hp:=hE.m.p.pos;have tz:=zDe h hE hT (k:=l+1) (by omega) c2 (yX (p:=m.Prime) (D:=D));have g3:(a:Int)+1=at0 x.zA l:=by have:a+1=(at0 x.zA l).toNat:=g4;omega
    have hF:=foV D m T hE hT hc;have hd:=zOP (D:=D) (x:=x) (m:=m) (T:=T) (k:=l) (by omega) (nw (l+1) y1).reverse;have eE:=zBB h hE hT hk;have ck:V (suf x (l+1)) ((x.zP.getD l []).drop (l+1)):=qZ pU hk;have pS:=zDe h hE hT (k:=l+1) (by omega) ck (yX (p:=m.Prime) (D:=D));have hw:(lvl (exx D x m T) l).w=adK m.Prime D (x.zA.length-(l+1)) ((x.zP.getD l []).drop (l+1)++zeros D) (T.getD l []):=by rw[zHL h hE hT hk,jK h hE hT (by omega) ck,vY eE];rfl
    have fS:=zRU h hE hT hk;have hFw:=zRV h hE hT hk dj (zOO h hE hT (by omega));have em:mul (suf (exx D x m T) (l+1)) (lvl (exx D x m T) l).w (fo (exx D x m T) (l+1) (zeros ((exx D x m T).zA.length-(l+1))) (cwd x l (nw (l+1) y1).reverse))=adK m.Prime D (x.zA.length-(l+1)) (fo (exx D x m T) (l+1) (zeros ((exx D x m T).zA.length-(l+1))) (nw 0 (x.zP.getD l [])++cwd x l (nw (l+1) y1).reverse)) (xK m.Prime D (T.getD l []) (wM m.Prime D m.zL (cwd x l (nw (l+1) y1).reverse) (idM D))):=by rw[<-zHY h hE hT hk hc pX fS,hw,zUT h hE hT hk hc pX pS eE,<-zHW h hE hT _ (l+1) (by omega:l+1+(x.zA.length-(l+1))=x.zA.length) hc _ ck,<-zC4,<-pV.1]
    have da:V (suf (exx D x m T) l) ((0:Int)::fo (exx D x m T) (l+1) (zeros ((exx D x m T).zA.length-(l+1))) (nw 0 (x.zP.getD l [])++cwd x l (nw (l+1) y1).reverse)):=by rw[zY (x:=exx D x m T) (by rw[xV h hE hT];omega)];refine⟨⟨by omega,?_⟩,hFw⟩;show(0:Int)<at0 (exx D x m T).zA l;rw[tB h hE hT hk];omega
    have d3':=d3 D m T hE hT hc;rw[show(((0:Nat):Int))=0 from rfl]at d3';rw[val D m T hE hT hc,zGd h hE hT hk hc tz,if_pos (by omega),zQS h hE hT hk hc c2,zMP h hE hT hk hc hF hd fS,em,zZI h hE hT (by omega) hFw,g3,Jbc,<-zA9 h hE hT hk,zQQ h hE hT hk hc eW da (sP),d3',jK h hE hT (by omega) d2,jK h hE hT (by omega) d2,zEH,<-zOQ (by omega),<-zEI (by omega),zHT (by omega),zHT (by omega)];show y2++adv m.Prime D (adv m.Prime D (tv m.Prime D m T tr2) (adv m.Prime D _ _)) _=y2++adv m.Prime D _ (adv m.Prime D _ (adv m.Prime D _ (tv m.Prime D m T tr2)));rw[uS,uS (u:=tv m.Prime D m T tr2),uS (u:=xK m.Prime D (T.getD l []) _),zCX]
theorem zYg:∀(d k:Nat),k+d=x.zA.length-> ∀z:List Nat,(∀a∈z,k<=a/\a<x.zA.length)-> ∃tr y,tR x k z tr y
 |0,k,hk,z,hz=>by
  have:z=[]:=by
   cases z with
   |nil=>rfl
   |cons a z=>have:=hz a (by simp);omega
  subst this;refine⟨[],[],.refl _,by rw[vL (x:=x) (k:=k)];rfl,fun D m T hE hT _=>?_⟩;show zeros _=[]++zeros D;rw[zHV h hE hT (by omega),show x.zA.length-k=0 from by omega];rfl
 |d+1,k,hk,z,hz=>by have ho:=zMR h (show k<x.zA.length by omega);obtain⟨tr,y,c1,c2,c3⟩:=zQT h (by omega) (zYg d (k+1) (by omega)) z hz 0 (by omega) [] (by simp);refine⟨tr,y,by grind,c2,fun D m T hE hT hc=>?_⟩;rw[<-c3 D m T hE hT hc];have hl:=xV h hE hT;rw[show(exx D x m T).zA.length-k=(exx D x m T).zA.length-(k+1)+1 from by omega];rfl
end
section
variable {D:Nat}{x:SPr}{m:zE}{T:Mx} (h:Pres x) (hE:ExB x.zA.length D x m T) (hT:∀i,i<T.length->Row m.Prime D (T.getD i []))
 include h hE hT
variable {k:Nat} (hk:k<x.zA.length) (hc:xC (suf (exx D x m T) (k+1)))
 include hk hc
theorem zG8{w1 w2:List Nat}(k1:tR x k w1 t1 y1)(k2:tR x k w2 t2 y2){r1 r2:Nat}{s1 s2:List Nat}{b:Int}{A1 A2:Vec}(hA1:V (suf (exx D x m T) (k+1)) A1)(hA2:V (suf (exx D x m T) (k+1)) A2)
  (v1:fo (exx D x m T) k (zeros ((exx D x m T).zA.length-k)) w1=b::A1)(v2:fo (exx D x m T) k (zeros ((exx D x m T).zA.length-k)) w2=b::A2)
  (eE:(adK m.Prime D (x.zA.length-(k+1)) A1 (xK m.Prime D (T.getD r1 []) (wM m.Prime D m.zL s1 (idM D)))).take (x.zA.length-(k+1))=(adK m.Prime D (x.zA.length-(k+1)) A2 (xK m.Prime D (T.getD r2 []) (wM m.Prime D m.zL s2 (idM D)))).take (x.zA.length-(k+1))):
  y1=y2/\(tv m.Prime D m T ((r1,s1)::t1)=tv m.Prime D m T ((r2,s2)::t2)↔adK m.Prime D (x.zA.length-(k+1)) A1 (xK m.Prime D (T.getD r1 []) (wM m.Prime D m.zL s1 (idM D)))=adK m.Prime D (x.zA.length-(k+1)) A2 (xK m.Prime D (T.getD r2 []) (wM m.Prime D m.zL s2 (idM D)))):=by
 have _:=hA1;have _:=hA2;have key:∀(w:List Nat)(t:List (Nat×List Nat))(y:Vec)(A:Vec)(r:Nat)(s:List Nat),tR x k w t y->fo (exx D x m T) k (zeros ((exx D x m T).zA.length-k)) w=b::A->
   b::adK m.Prime D (x.zA.length-(k+1)) A (xK m.Prime D (T.getD r []) (wM m.Prime D m.zL s (idM D)))=y++tv m.Prime D m T ((r,s)::t):=by
  intro w t y A r s kc v;rw[<-zA9 h hE hT hk,<-v,kc.val D m T hE hT hc,jK h hE hT (by omega) kc.v,uS];rfl
 have e1:=key w1 t1 y1 A1 r1 s1 k1 v1;have e2:=key w2 t2 y2 A2 r2 s2 k2 v2;have l1:=wY h (by omega) k1.v;have l2:=wY h (by omega) k2.v;have hy:y1=y2:=by
  have a1:=congrArg (Ja9 (x.zA.length-(k+1)+1)) e1;have a2:=congrArg (Ja9 (x.zA.length-(k+1)+1)) e2
  grind
 subst hy;refine⟨rfl,?_⟩;constructor
 all_goals grind[Qu]
theorem zDP{v:List Nat}(hv:∀a∈v,k+1<=a/\a<x.zA.length){z:List Nat}:fo (exx D x m T) k (zeros ((exx D x m T).zA.length-k)) (v++k::z)=fo (exx D x m T) k ((1:Int)::sig (suf (exx D x m T) (k+1)) (lvl (exx D x m T) k) (fo (exx D x m T) (k+1) (zeros ((exx D x m T).zA.length-(k+1))) v)) z:=by
 have ho:=(h.os.2 k hk).pos;have hl:=xV h hE hT;have hF:=zRV h hE hT hk hv (zOO h hE hT (by omega));rw[show zeros ((exx D x m T).zA.length-k)=0::zeros ((exx D x m T).zA.length-(k+1))from by rw[show(exx D x m T).zA.length-k=(exx D x m T).zA.length-(k+1)+1 from by omega];rfl,zC4,zHX h hE hT hk hc (by omega) v _ hv,tX,zGd h hE hT hk hc hF,if_neg (by omega)];rfl
 omit hc in
theorem zEJ(hy:V (suf x (k+1)) y):sig (suf (exx D x m T) (k+1)) (lvl (exx D x m T) k) (y++zeros D)=(nw (k+1) y).foldl (fun acc j=>mul (suf (exx D x m T) (k+1)) acc ((lvl (exx D x m T) k).cs.getD (j-(k+1)) [])) (zeros ((exx D x m T).zA.length-(k+1))):=by
  have hp:=hE.m.p.pos;have eC:=wY h (by omega) hy;rw[zBA h hE hT hk hy (yX),zAq];obtain⟨y1,u1,e,eD,cu⟩:=(tK h hE hT (x.zA.length-(k+1)) (k+1) (by omega) _).1 (zHM h hE hT hk (y:=y));have gL:=wY h (by omega) eD;rw[e,Jr gL,K0 gL,zAp cu,<-e];unfold sgG;rw[yB];refine zHU _ (fun j=>(lvl (exx D x m T) k).cs.getD (j-(k+1)) []) [] _ _ _ _ (fun j hj=>?_) (by grind[qG])
  grind[zB9]
 omit hc in
theorem zMT(h1:k+1<=j)(h2:j<x.zA.length):V (suf (exx D x m T) (k+1)) ((lvl (exx D x m T) k).cs.getD (j-(k+1)) []):=by
  have gy:V (suf x (k+1)) ((lcj x k j).drop (k+1)):=by grind[qZ,uC]
  rw[zHO h hE hT hk h1 h2,show(lvl x k).cs.getD (j-(k+1)) []=(lcj x k j).drop (k+1)from map_drop]
  grind[zDe,zDu]
theorem zMU:∀{v:List Nat},(∀a∈v,k+1<=a/\a<x.zA.length)-> ∀{e f:Vec},V (suf (exx D x m T) (k+1)) e->V (suf (exx D x m T) (k+1)) f->v.foldl (fun acc j=>mul (suf (exx D x m T) (k+1)) acc ((lvl (exx D x m T) k).cs.getD (j-(k+1)) [])) (mul (suf (exx D x m T) (k+1)) e f)=mul (suf (exx D x m T) (k+1)) e (v.foldl (fun acc j=>mul (suf (exx D x m T) (k+1)) acc ((lvl (exx D x m T) k).cs.getD (j-(k+1)) [])) f)
 | [],_,_,_,_,_=>rfl
 |a::w,hw,e,f,he,hf=>by have gz:=uF h hE hT (k:=k+1) (by omega);have G:=(zBL _ gz hc).toMon;have hg:=zMT h hE hT hk (hw a (by simp)).1 (hw a (by simp)).2;simp only[Ga];rw[G.assoc he hf hg,zMU (by grind) he (G.cl hf hg)]
theorem csE(h1:k+1<=j)(h2:j<x.zA.length):V (suf x (k+1)) ((lcj x k j).drop (k+1))/\(lvl (exx D x m T) k).cs.getD (j-(k+1)) []=adK m.Prime D (x.zA.length-(k+1)) ((lcj x k j).drop (k+1)++zeros D) (T.getD (base x.zA.length k+(j-(k+1))) [])/\
  fo (exx D x m T) (k+1) (zeros ((exx D x m T).zA.length-(k+1))) (nw 0 (lcj x k j))=(lcj x k j).drop (k+1)++zeros D/\(∀a∈nw 0 (lcj x k j),k+1<=a/\a<x.zA.length):=by
 have gy:V (suf x (k+1)) ((lcj x k j).drop (k+1)):=by grind[qZ,uC]
 have cR:=uW h (uC h (show k<j by omega) h2) hk;refine⟨gy,?_,?_,cR.2⟩
 ·rw[zHO h hE hT hk h1 h2,show(lvl x k).cs.getD (j-(k+1)) []=(lcj x k j).drop (k+1)from map_drop,jK h hE hT (by omega) gy,vY (zDu h hE hT (by omega) h2)]
 ·rw[cR.1];exact zHW h hE hT _ (k+1) (by omega:k+1+(x.zA.length-(k+1))=x.zA.length) hc _ gy
theorem wE:V (suf x (k+1)) ((x.zP.getD k []).drop (k+1))/\(lvl (exx D x m T) k).w=adK m.Prime D (x.zA.length-(k+1)) ((x.zP.getD k []).drop (k+1)++zeros D) (T.getD k [])/\
  fo (exx D x m T) (k+1) (zeros ((exx D x m T).zA.length-(k+1))) (nw 0 (x.zP.getD k []))=(x.zP.getD k []).drop (k+1)++zeros D/\(∀a∈nw 0 (x.zP.getD k []),k+1<=a/\a<x.zA.length):=by
 have ck:V (suf x (k+1)) ((x.zP.getD k []).drop (k+1)):=qZ (sQ h hk) hk;have pV:=uW h (sQ h hk) hk;refine⟨ck,?_,?_,pV.2⟩
 ·rw[zHL h hE hT hk,jK h hE hT (by omega) ck,vY (zBB h hE hT hk)];rfl
 ·rw[pV.1];exact zHW h hE hT _ (k+1) (by omega:k+1+(x.zA.length-(k+1))=x.zA.length) hc _ ck
 omit hc in
theorem zKP(ha:a<x.zA.length):wM m.Prime D m.zL [a] (idM D)=m.zL.getD a []:=by have _:=h;have _:=hT;have _:=hk;show PM m.Prime D (idM D) (m.zL.getD a [])=_;exact zCQ (hE.m.mat a ha)
theorem zUW(hL:LC x k)(k1:tR x k (nw 0 (x.zP.getD k [])++[k]) t1 y1)(k2:tR x k (k::nw 0 (x.zP.getD k [])) t2 y2):
  y1=y2/\(tv m.Prime D m T ((k,[k])::t1)=tv m.Prime D m T ((k,[])::t2)↔sig (suf (exx D x m T) (k+1)) (lvl (exx D x m T) k) (lvl (exx D x m T) k).w=(lvl (exx D x m T) k).w):=by
 have hp:=hE.m.p.pos;have ho:=(h.os.2 k hk).pos;obtain⟨w1,w2,w3,w4⟩:=wE h hE hT hk hc;have eE:=zBB h hE hT hk;have pS:=zDe h hE hT (k:=k+1) (by omega) w1 (yX (p:=m.Prime) (D:=D));have fS:=zRU h hE hT hk;have v1:=zDP h hE hT hk hc w4 (z:=[]);rw[w3]at v1;have v2:=zDP h hE hT hk hc (v:=[]) (by simp) (z:=nw 0 (x.zP.getD k []));have hz:fo (exx D x m T) (k+1) (zeros ((exx D x m T).zA.length-(k+1))) []=zeros ((exx D x m T).zA.length-(k+1)):=rfl;have hs:sig (suf (exx D x m T) (k+1)) (lvl (exx D x m T) k) (zeros ((exx D x m T).zA.length-(k+1)))=zeros ((exx D x m T).zA.length-(k+1)):=by grind[sig,tL,yB]
 rw[hz,hs,zHX h hE hT hk hc (by omega) _ _ w4,w3]at v2;have e1:adK m.Prime D (x.zA.length-(k+1)) (sig (suf (exx D x m T) (k+1)) (lvl (exx D x m T) k) ((x.zP.getD k []).drop (k+1)++zeros D)) (xK m.Prime D (T.getD k []) (wM m.Prime D m.zL [k] (idM D)))=sig (suf (exx D x m T) (k+1)) (lvl (exx D x m T) k) (lvl (exx D x m T) k).w:=by grind[zKP,zHS]
 have e2:adK m.Prime D (x.zA.length-(k+1)) ((x.zP.getD k []).drop (k+1)++zeros D) (xK m.Prime D (T.getD k []) (wM m.Prime D m.zL [] (idM D)))=(lvl (exx D x m T) k).w:=by rw[show wM m.Prime D m.zL [] (idM D)=idM D from rfl,sY eE,w2]
 obtain⟨hy,this⟩:=zG8 h hE hT hk hc k1 k2 (r1:=k) (r2:=k) (s1:=[k]) (s2:=[]) (zAr h hE hT hk pS) pS v1 v2 (by rw[e1,e2,zDN h hE hT hk fS,zHL h hE hT hk,Jr (by have:=wY h (by omega) w1;exact this)];exact hL.c3)
 refine⟨hy,?_⟩
 grind
end
theorem zZL:∀(a o:Nat)(b:Int)(c:Vec),nw o (zeros a++b::c)=J1 b.toNat (o+a)++nw (o+a+1) c
 |0,o,b,c=>rfl
 |a+1,o,b,c=>by rw[show zeros (a+1)++b::c=0::(zeros a++b::c)from rfl];simp only[nw,Gu,Lz,Jz];rw[zZL a (o+1) b c,show o+1+a=o+(a+1)from by omega]
theorem zKQ{os v:List Int}(hv:Exp os v j)(hk:k<=j):Exp os v k:=⟨hv.1,fun i hi=>hv.2 i (by omega)⟩
section
variable {x:SPr} (h:Pres x)
 include h
theorem zZM:∀(a k:Nat){b:Int}{c:Vec},k+a<x.zA.length->0<=b->b<at0 x.zA (k+a)->V (suf x (k+a+1)) c->V (suf x k) (zeros a++b::c)
 |0,k,b,c,ha,h0,h1,hc=>by rw[zY (x:=x)];exact⟨⟨h0,h1⟩,hc⟩
 |a+1,k,b,c,ha,h0,h1,hc=>by
  have:=(h.os.2 k (by omega)).pos;rw[zY (x:=x)];refine⟨⟨Int.le_refl 0,?_⟩,?_⟩
  ·show(0:Int)<at0 x.zA k
   omega
  ·exact zZM a (k+1) (by omega) h0 (by grind) (by grind)
end
section
variable {D:Nat}{x:SPr}{m:zE}{T:Mx} (h:Pres x) (hE:ExB x.zA.length D x m T) (hT:∀i,i<T.length->Row m.Prime D (T.getD i []))
 include h hE hT
variable {k:Nat} (hk:k<x.zA.length) (hc:xC (suf (exx D x m T) (k+1)))
 include hk hc
theorem zOR(h1:k+1<=j)(h2:j<x.zA.length){b:Int}(h0:0<=b)(hb:b<at0 x.zA j){c:Vec}(eL:V (suf x (j+1)) c):V (suf x (k+1)) (zeros (j-(k+1))++b::c)/\nw (k+1) (zeros (j-(k+1))++b::c)=J1 b.toNat j++nw (j+1) c/\
  fo (exx D x m T) (k+1) (zeros ((exx D x m T).zA.length-(k+1))) (J1 b.toNat j++nw (j+1) c)=(zeros (j-(k+1))++b::c)++zeros D:=by
 have e:k+1+(j-(k+1))=j:=by omega
 have hv:V (suf x (k+1)) (zeros (j-(k+1))++b::c):=by grind[zZM]
 have hn:nw (k+1) (zeros (j-(k+1))++b::c)=J1 b.toNat j++nw (j+1) c:=by rw[zZL,e]
 refine⟨hv,hn,?_⟩;rw[<-hn];exact zHW h hE hT _ (k+1) (by omega:k+1+(x.zA.length-(k+1))=x.zA.length) hc _ hv
theorem zQU(he:V (suf (exx D x m T) (k+1)) e):mul (suf (exx D x m T) (k+1)) (zeros ((exx D x m T).zA.length-(k+1))) e=e:=by
 have G:=(zBL _ (uF h hE hT (k:=k+1) (by omega)) hc).toMon;have:=G.onel he
 grind[yB]
theorem zQV(h1:k+1<=j)(h2:j<x.zA.length):fo (exx D x m T) (k+1) (zeros ((exx D x m T).zA.length-(k+1))) [j]=xG ((exx D x m T).zA.length-(k+1)) (j-(k+1))/\sig (suf (exx D x m T) (k+1)) (lvl (exx D x m T) k) (xG ((exx D x m T).zA.length-(k+1)) (j-(k+1)))=(lvl (exx D x m T) k).cs.getD (j-(k+1)) []:=by
 have ho:=(h.os.2 j h2).pos;have hz:V (suf x (j+1)) (zeros (x.zA.length-(j+1))):=by have:=wC (h.okAt (k:=j+1) (by omega));grind[yB]
 obtain⟨v1,v2,v3⟩:=zOR h hE hT hk hc h1 h2 (b:=1) (by omega) (by omega) hz;have hn:nw (j+1) (zeros (x.zA.length-(j+1)))=[]:=zC1 _ _;rw[hn]at v2 v3;have hf:fo (exx D x m T) (k+1) (zeros ((exx D x m T).zA.length-(k+1))) [j]=xG ((exx D x m T).zA.length-(k+1)) (j-(k+1)):=zQU h hE hT hk hc (zC5 h hE hT h1 h2);refine⟨hf,?_⟩;rw[<-hf];have v3':fo (exx D x m T) (k+1) (zeros ((exx D x m T).zA.length-(k+1))) [j]=_:=v3
 grind[zEJ,zQU,zMT]
theorem zUX(hL:LC x k)(h1:k+1<=j)(h2:j<x.zA.length)(k1:tR x k (nw 0 (x.zP.getD j [])++[k]) t1 y1)(k2:tR x k (J1 (yC x j-1) j++k::nw 0 (lcj x k j)) t2 y2):
  y1=y2/\(tv m.Prime D m T ((j,[k])::t1)=tv m.Prime D m T ((base x.zA.length k+(j-(k+1)),[])::t2)↔c1E (exx D x m T) k j):=by
 have hp:=hE.m.p.pos;have ho:=(h.os.2 k hk).pos;have hj:=(h.os.2 j h2).pos;have pU:=zKQ (sQ h h2) (show k<=j by omega);have ck:V (suf x (k+1)) ((x.zP.getD j []).drop (k+1)):=qZ pU hk;have pV:=uW h pU hk;have ak:=zBB h hE hT h2;have pS:=zDe h hE hT (k:=k+1) (by omega) ck (yX (p:=m.Prime) (D:=D));obtain⟨c1,c2,c3,c4⟩:=csE h hE hT hk hc h1 h2;have cI:=zDe h hE hT (k:=k+1) (by omega) c1 (yX (p:=m.Prime) (D:=D));have cU:=zMT h hE hT hk h1 h2;have eE:=zDu h hE hT (show k<j by omega) h2;have mn:V (suf x (j+1)) (zeros (x.zA.length-(j+1))):=by have:=wC (h.okAt (k:=j+1) (by omega));rwa [yB]at this
 obtain⟨u1,u2,u3⟩:=zOR h hE hT hk hc h1 h2 (b:=at0 x.zA j-1) (by omega) (by omega) mn;rw[zC1,Jh,show(at0 x.zA j-1).toNat=yC x j-1 from by show _=(at0 x.zA j).toNat-1;omega]at u2 u3;have gz:=uF h hE hT (k:=k+1) (by omega);have G:=(zBL _ gz hc).toMon;have v1:=zDP h hE hT hk hc pV.2 (z:=[]);rw[pV.1,zHW h hE hT _ (k+1) (by omega:k+1+(x.zA.length-(k+1))=x.zA.length) hc _ ck,<-pV.1]at v1;have hr:∀a∈J1 (yC x j-1) j,k+1<=a/\a<x.zA.length:=fun a ha=>by have:=H1 ha;omega
 have v2:=zDP h hE hT hk hc hr (z:=nw 0 (lcj x k j));have bZ:∀q(e:Vec),(J1 q j).foldl (fun acc j=>mul (suf (exx D x m T) (k+1)) acc ((lvl (exx D x m T) k).cs.getD (j-(k+1)) [])) e=iter q (fun v=>mul (suf (exx D x m T) (k+1)) v ((lvl (exx D x m T) k).cs.getD (j-(k+1)) [])) e:=by
  intro q
  induction q with
  |zero=>intro e;rfl
  |succ q ih=>intro e;rw[Jv,Ga,ih];rfl
 have hpq:sig (suf (exx D x m T) (k+1)) (lvl (exx D x m T) k) (fo (exx D x m T) (k+1) (zeros ((exx D x m T).zA.length-(k+1))) (J1 (yC x j-1) j))=pw (mul (suf (exx D x m T) (k+1))) (zeros (suf (exx D x m T) (k+1)).length) ((lvl (exx D x m T) k).cs.getD (j-(k+1)) []) (yC x j-1):=by rw[u3,zEJ h hE hT hk u1,u2,bZ,yB];rfl
 have ic:V (suf (exx D x m T) (k+1)) (pw (mul (suf (exx D x m T) (k+1))) (zeros (suf (exx D x m T) (k+1)).length) ((lvl (exx D x m T) k).cs.getD (j-(k+1)) []) (yC x j-1)):=wS G cU _;rw[hpq,zHX h hE hT hk hc (by omega) _ _ c4,zHY h hE hT hk hc c4 ic,c3]at v2;have e1:adK m.Prime D (x.zA.length-(k+1)) (sig (suf (exx D x m T) (k+1)) (lvl (exx D x m T) k) ((x.zP.getD j []).drop (k+1)++zeros D)) (xK m.Prime D (T.getD j []) (wM m.Prime D m.zL [k] (idM D)))=sig (suf (exx D x m T) (k+1)) (lvl (exx D x m T) k) (((exx D x m T).zP.getD j []).drop (k+1)):=by rw[zKP h hE hT hk hk,zDL h hE hT (by omega) h2,<-zHS h hE hT hk pS ak,jK h hE hT (by omega) ck,vY ak]
 have e2:adK m.Prime D (x.zA.length-(k+1)) (mul (suf (exx D x m T) (k+1)) (pw (mul (suf (exx D x m T) (k+1))) (zeros (suf (exx D x m T) (k+1)).length) ((lvl (exx D x m T) k).cs.getD (j-(k+1)) []) (yC x j-1)) ((lcj x k j).drop (k+1)++zeros D)) (xK m.Prime D (T.getD (base x.zA.length k+(j-(k+1))) []) (wM m.Prime D m.zL [] (idM D)))=pw (mul (suf (exx D x m T) (k+1))) (zeros (suf (exx D x m T) (k+1)).length) ((lvl (exx D x m T) k).cs.getD (j-(k+1)) []) (at0 (exx D x m T).zA j).toNat:=by
  rw[show wM m.Prime D m.zL [] (idM D)=idM D from rfl,sY eE,<-zMP h hE hT hk hc cI eE ic,<-c2,tB h hE hT h2,show(at0 x.zA j).toNat=(yC x j-1)+1 from by show _=(at0 x.zA j).toNat-1+1;omega]
  conv=>rhs;rw[pw,xP]
  rfl
 have fE:V (suf (exx D x m T) (k+1)) (((exx D x m T).zP.getD j []).drop (k+1)):=by rw[zDL h hE hT (by omega) h2];exact zDe h hE hT (by omega) ck ak
 obtain⟨hy,this⟩:=zG8 h hE hT hk hc k1 k2 (r1:=j) (r2:=base x.zA.length k+(j-(k+1))) (s1:=[k]) (s2:=[]) (zAr h hE hT hk pS) (yO gz ic cI) v1 v2 (by rw[e1,e2,zDN h hE hT hk fE,zHR h hE hT hk (by omega) h2,zZG h hE hT (by omega) cU,zJ8 h hE hT hk h1 h2,tB h hE hT h2];exact(hL.c1 j h1 h2).symm)
 rw[e1,e2]at this;refine⟨hy,?_⟩;rw[this];exact eq_comm
theorem zUY(hL:LC x k)(h1:k+1<=i)(gI:i<j)(h2:j<x.zA.length)(k1:tR x k (i::(nw 0 (lcj x i j)++[k])) t1 y1)(k2:tR x k (j::k::nw 0 (lcj x k i)) t2 y2):
  y1=y2/\(tv m.Prime D m T ((base x.zA.length i+(j-(i+1)),[k])::t1)=tv m.Prime D m T ((base x.zA.length k+(i-(k+1)),[])::t2)↔c2E (exx D x m T) k i j):=by
 have hp:=hE.m.p.pos;have ho:=(h.os.2 k hk).pos;have hi:=(h.os.2 i (by omega)).pos;have bo:=uC h gI h2;have tj:=zKQ bo (show k<=i by omega);have aX:V (suf x (k+1)) ((lcj x i j).drop (k+1)):=qZ tj hk;have mN:V (suf x (i+1)) ((lcj x i j).drop (i+1)):=qZ bo;have hn:=uW h tj hk;have ik:=uW h bo (by omega);have am:=zDu h hE hT gI h2;have dK:=zDe h hE hT (k:=k+1) (by omega) aX (yX (p:=m.Prime) (D:=D));obtain⟨c1,c2,c3,c4⟩:=csE h hE hT hk hc h1 (show i<x.zA.length by omega);have cI:=zDe h hE hT (k:=k+1) (by omega) c1 (yX (p:=m.Prime) (D:=D));have fZ:=zMT h hE hT hk h1 (show i<x.zA.length by omega);have mi:=zMT h hE hT hk (show k+1<=j by omega) h2;have eE:=zDu h hE hT (show k<i by omega) (show i<x.zA.length by omega);have gz:=uF h hE hT (k:=k+1) (by omega);obtain⟨u1,u2,u3⟩:=zOR h hE hT hk hc h1 (show i<x.zA.length by omega) (b:=1) (by omega) (by omega) mN;rw[<-ik.1,show J1 (1:Int).toNat i++nw 0 (lcj x i j)=i::nw 0 (lcj x i j)from rfl]at u2 u3;have hr:∀a∈i::nw 0 (lcj x i j),k+1<=a/\a<x.zA.length:=fun a ha=>by
  simp only[J9]at ha;rcases ha with rfl|ha
  ·omega
  ·exact hn.2 a ha
 have v1:=zDP h hE hT hk hc hr (z:=[]);have es:sig (suf (exx D x m T) (k+1)) (lvl (exx D x m T) k) (fo (exx D x m T) (k+1) (zeros ((exx D x m T).zA.length-(k+1))) (i::nw 0 (lcj x i j)))=mul (suf (exx D x m T) (k+1)) ((lvl (exx D x m T) k).cs.getD (i-(k+1)) []) (sig (suf (exx D x m T) (k+1)) (lvl (exx D x m T) k) ((lcj x i j).drop (k+1)++zeros D)):=by rw[u3,zEJ h hE hT hk u1,u2,Ga,zQU h hE hT hk hc fZ,zEJ h hE hT hk aX,<-hn.1];have:=zMU h hE hT hk hc hn.2 fZ (zOO h hE hT (k:=k+1) (by omega));rw[yBu h hE hT (by omega) fZ]at this;exact this
 rw[es]at v1;have v2:=zDP h hE hT hk hc (v:=[j]) (fun a ha=>by simp only[List.mem_singleton]at ha;omega) (z:=nw 0 (lcj x k i));obtain⟨g1,g2⟩:=zQV h hE hT hk hc (show k+1<=j by omega) h2;rw[g1,g2,zHX h hE hT hk hc (by omega) _ _ c4,zHY h hE hT hk hc c4 mi,c3]at v2;have p8:=zAr h hE hT hk dK;have fu:((((exx D x m T).zF.getD i []).getD (j-(i+1)) []).drop (k+1))=adK m.Prime D (x.zA.length-(k+1)) ((lcj x i j).drop (k+1)++zeros D) (T.getD (base x.zA.length i+(j-(i+1))) []):=by rw[zFA h hE hT (by omega) gI h2,jK h hE hT (by omega) aX,vY am]
 have e1:adK m.Prime D (x.zA.length-(k+1)) (mul (suf (exx D x m T) (k+1)) ((lvl (exx D x m T) k).cs.getD (i-(k+1)) []) (sig (suf (exx D x m T) (k+1)) (lvl (exx D x m T) k) ((lcj x i j).drop (k+1)++zeros D))) (xK m.Prime D (T.getD (base x.zA.length i+(j-(i+1))) []) (wM m.Prime D m.zL [k] (idM D)))=mul (suf (exx D x m T) (k+1)) ((lvl (exx D x m T) k).cs.getD (i-(k+1)) []) (sig (suf (exx D x m T) (k+1)) (lvl (exx D x m T) k) ((((exx D x m T).zF.getD i []).getD (j-(i+1)) []).drop (k+1))):=by rw[zKP h hE hT hk hk,<-zMP h hE hT hk hc p8 (wW) fZ,<-zHS h hE hT hk dK am,<-fu]
 have e2:adK m.Prime D (x.zA.length-(k+1)) (mul (suf (exx D x m T) (k+1)) ((lvl (exx D x m T) k).cs.getD (j-(k+1)) []) ((lcj x k i).drop (k+1)++zeros D)) (xK m.Prime D (T.getD (base x.zA.length k+(i-(k+1))) []) (wM m.Prime D m.zL [] (idM D)))=mul (suf (exx D x m T) (k+1)) ((lvl (exx D x m T) k).cs.getD (j-(k+1)) []) ((lvl (exx D x m T) k).cs.getD (i-(k+1)) []):=by rw[show wM m.Prime D m.zL [] (idM D)=idM D from rfl,sY eE,<-zMP h hE hT hk hc cI eE mi,<-c2]
 have aZ:V (suf (exx D x m T) (k+1)) ((((exx D x m T).zF.getD i []).getD (j-(i+1)) []).drop (k+1)):=by rw[fu];exact yBv h hE hT (by omega) dK
 obtain⟨hy,this⟩:=zG8 h hE hT hk hc k1 k2 (r1:=base x.zA.length i+(j-(i+1))) (r2:=base x.zA.length k+(i-(k+1))) (s1:=[k]) (s2:=[]) (yO gz fZ p8) (yO gz mi cI) v1 v2 (by rw[e1,e2,zBD h hE hT (by omega) fZ (zAr h hE hT hk aZ),zBD h hE hT (by omega) mi fZ,zDN h hE hT hk aZ,zJ8 h hE hT hk h1 (by omega),zJ8 h hE hT hk (by omega) h2,zUK h hE hT hk h1 gI h2];exact(hL.c2 i h1 (by omega) j (by omega) h2).symm)
 rw[e1,e2]at this;refine⟨hy,?_⟩;rw[this];exact eq_comm
end
end Go.Pl
