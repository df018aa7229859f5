/- The program's IsAllowable returns what the reference's returns,for all arguments;no conditions. -/
import Derived.Test.YtfeijieociajaaaGreatPlA
open List renaming replicate→J1,getD_eq_getElem?_getD→J2,getElem?_eq_getElem→J3,length_append→J5,length_cons→J7,mem_cons→J9,mem_append→Ja,length_singleton→Jb,mem_map→Jc,range→Jd,length_map→Jf,append_assoc→Jg,append_nil→Jh,getElem?_append_right→Jk,length_replicate→Jl,replicate_append_replicate→Jn,take_left'→Js,length_nil→Jt,map_cons→Ju,replicate_succ→Jv,getElem?_map→Jw,take_of_length_le→Jx,getElem?_append_left→Jy,nil_append→K0,drop_left'→K1,getElem?_replicate→K4,take_succ_eq_append_getElem→K5,map_append→K6,cons_append→K9,take_zero→Kd,length_take→Ke,eq_nil_of_length_eq_zero→Kf,reverse_reverse→Ki,length_drop→Kl,range_succ→Kt,drop_append_of_le_length→Ku,ext_getElem?→L4,take_succ_cons→L5,mem_iff_getElem→Ld,map_nil→Le,getElem?_eq_none→Li,mem_range→Lj,drop_replicate→Lm,take_length→Ln,replicate_succ'→Lw,getElem?_drop→Ly,replicate_zero→H0,eq_of_mem_replicate→H2,drop_eq_getElem_cons→Hq,flatten_cons→Hr,reverse_cons→G8,getD_cons_zero→Gm,foldl_append→Gu,getElem?_take_of_lt→Gx,flatMap_append→U4,set_append_right→U6,drop_zero→Uf,foldl_cons→Ug,drop_of_length_le→Uo,getElem?_replicate_of_lt→Us,map_congr_left→Uu,cons→Qd,length→Qf,append_cancel_left→Qw,range_succ_eq_map→Qz,mem_of_mem_head?→Ja5,take→Jaa,map_map→Jaz,head?_cons→Jb8,getElem?_cons_succ→Jb9,flatten_append→Jba
open Int renaming toNat_natCast->J8,emod_eq_of_lt->Jq,mul_emod->Jz,emod_emod->K3,add_emod->Ka,emod_lt_of_pos->Kh,emod_nonneg->Kk,zero_add->Kq,mul_one->L8,add_zero->L9,mul_zero->Lo,tmod_eq_emod_of_nonneg->Hg,natCast_add->Hn,one_mul->Gp,mul_comm->Gy,mul_assoc->U1,mul_nonneg->Ul,natCast_mul->Up,add_emod_right->Uv,zero_mul->qc9,sub_emod->Qg,add_mul_emod_self_left->Qr,toNat_of_nonneg->Ja2,emod_self->Jap,sub_self->Jbb,add_mul->Jbo
open Nat renaming le_refl->Je,zero_add->Ji,lt_or_ge->Jo,mul_le_mul->Jr,succ_mul->K8,mul_le_mul_right->Kc,sub_self->Ko,zero_le->Lf,add_sub_cancel_left->H4,add_assoc->Ha,lt_trichotomy->G1,add_zero->Um,lt_of_not_le->Jad,lt_irrefl->Jam,le_mul_of_pos_right->Jau,eq_zero_or_pos->Jav
open Bool renaming not_true->Kb,not_false->Ky
open Option renaming some->Hm
open Option renaming some->jf,none->jg
open Bool renaming true->jh,false->ji
namespace Go.Pl
open Go Go.Ab Go.Wk Go.Pc
variable {m c k i j D a N q:Nat}{d y e:Vec}{pv:Nat->Nat}{x:SPr}{r u:List Int}{xs A:Mx}{β:Type}{C:Prop}{f:Nat->Int}{Z:Vec->Prop}{t1 t2:List (Nat×List Nat)}
theorem Red.empty{p:Int}{n:Nat}:Red p n [] (fun _=>0):=⟨by simp,by simp,by simp,by simp,by simp,by simp⟩
theorem zRZ.take{p:Int}{n:Nat}{rows:Mx}{M:Mx}{d:Nat}(h:zRZ p n m rows c M d pv)(d8:c<=n)(hz:∀k,d<=k->k<m-> ∀j,j<n->ent M k j=0):Red p n (M.take d) pv/\qN p n (M.take d) rows:=by
 have hl:(M.take d).length=d:=by rw[Ke,h.len];exact Nat.min_eq_left h.dm
 have hg:∀i,i<d->(M.take d).getD i []=M.getD i []:=by grind
 have dm:=h.dm;refine⟨⟨fun i hi=>?_,fun i hi=>?_,fun i hi=>?_,fun i hi j hj=>?_,fun i k hi hk gc=>?_,fun i j gI hj=>?_⟩,qN.trans ⟨fun i hi=>?_,fun i hi=>?_⟩ h.sp⟩
 ·rw[hl]at hi;rw[hg i hi];exact h.row i (by omega)
 ·rw[hl]at hi;have:=h.lt i hi;omega
 ·rw[hl]at hi;simp only[ent,hg i hi];exact h.one i hi
 ·rw[hl]at hi;simp only[ent,hg i hi];exact h.low i hi j hj
 ·rw[hl]at hi hk;simp only[ent,hg k hk];exact h.off i k hi (by omega) gc
 ·rw[hl]at hj;exact h.mono i j gI hj
 ·grind[uN]
 ·rw[h.len]at hi
  rcases Jo i d with g|g
  ·grind[uN]
  ·exact zAC fun j hj=>by simp_all
section
variable {p:Int} (hp:Prime p) {n:Nat}{rows:Mx} (hn:n<=100000) (hm:rows.length<=600000) (hr:∀i,i<rows.length->Row p n (rows.getD i []))
 include hp hn hm hr
theorem zGl:∃R pv,f_i p rows=jf R/\Red p n R pv/\qN p n R rows:=by
 have h7:=hp.pos;unfold f_i;rw[zD1 (by omega) (fun i hi=>by have:=(hr i hi).1;omega),bs];have main:=wY (body:=zPE p) (s:=(rows,0,0)) (Q:=fun r=> ∃(M:Mx)(d:Nat)(pv:Nat->Nat),r=(M,(d:Int))/\d<=M.length/\Red p n (M.take d) pv/\qN p n (M.take d) rows)
  (fun i s=> ∃(M:Mx)(d:Nat)(pv:Nat->Nat),s=(M,(d:Int),(i:Int))/\zRZ p n rows.length rows i M d pv/\i<=n) n (fun c s hc hI=>?_) (fun s hI=>?_) ⟨rows,0,fun _=>0,rfl,⟨rfl,hr,Lf _,fun _ h=>by omega,fun _ h=>by omega,fun _ h=>by omega,fun _ _ h=>by omega,fun _ _ _ h=>by omega,fun _ _ _ _ h=>by omega,qN.refl⟩,Lf _⟩
 ·obtain⟨r,h1,M,d,pv,rfl,hd,hR,hS⟩:=main
  rw[h1,bs];simp only
  have e:zS M 0 (d:Int)=jf (M.take d):=by unfold zS;rw[if_pos ⟨by omega,by omega,by omega⟩];simp
  rw[e,bs];exact⟨_,_,rfl,hR,hS⟩
 ·
  obtain⟨M,d,pv,rfl,h,d8⟩:=hI;have hl:=h.len;have pN:=h.dm
  by_cases h0:rows.length=0
  ·refine .inr ⟨(M,(d:Int)),?_,M,d,pv,rfl,by omega,h.take d8 fun k hk eZ=>by omega⟩
   unfold zPE;simp only
   rw[jj (by omega),zK]
  have e0:zPE p (M,(d:Int),(c:Int))=cond (decide ((d:Int)<(M.length:Int))) ((zE (zIT (M,(d:Int),(c:Int))) (d:Int)).bind fun r6=>
    cond (r6==(M.length:Int)) ((rng ((c:Int)+1)).bind fun v7=>jf (.inl (M,(d:Int),v7))) (
     (ixO M r6).bind fun v8=>(ixO M (d:Int)).bind fun v9=>(ixO (jB M (d:Int) r6 v8 v9) (d:Int)).bind fun v10=>(ixO v10 (c:Int)).bind fun v11=>(zN9 v11 p).bind fun r12=>
     (ixO (jB M (d:Int) r6 v8 v9) (d:Int)).bind fun v13=>(zE (zNA p (M,(d:Int),(c:Int)) r12 v13) (jB M (d:Int) r6 v8 v9,0)).bind fun r21=>
     (zE (zPD p (M,(d:Int),(c:Int)) r21) (r21,0)).bind fun r30=>(rng ((d:Int)+1)).bind fun v31=>(rng ((c:Int)+1)).bind fun v32=>jf (.inl (r30,v31,v32)))) (jf (.inr (M,(d:Int)))):=by
   unfold zPE;simp only
   have hx:ixO M (0:Int)=jf (M.getD 0 []):=by have:=yA (v:=M) (i:=0) [];exact this
   rw[jk,zH,hx];simp only[bs];rw[(h.row 0 (by omega)).1,yP hc,zH]
  rcases Jo d rows.length with hd|hd
  ·obtain⟨t,t1,t2,t3,t4,t5⟩:=zSa (M:=M) (d:=d) (c:=c) (m:=rows.length) (n:=n) hl pN (by omega) (fun i hi=>(h.row i hi).1) hc
   rw[e0,hl,yP hd,zH,t3];simp only[bs]
   by_cases ap:t=rows.length
   ·
    left;refine⟨(M,(d:Int),((c+1:Nat):Int)),?_,M,d,pv,rfl,⟨hl,h.row,pN,fun i hi=>by have:=h.lt i hi;omega,h.one,h.low,h.off,h.mono,fun k k1 k2 j hj=>?_,h.sp⟩,by omega⟩
    ·rw[zQQ,zH,zB,bs,cs]
    ·rcases Jo j c with g|g
     ·exact h.zero k k1 k2 j g
     ·rw[show j=c from by omega];exact t4 k k1 (by omega)
   ·have eM:t<rows.length:=by omega
    have gc:=t5 eM;have fh:=h.row t eM;have hrc:=fh.2 c hc;obtain⟨q,q1,q2,q3,q4⟩:=zBA (p:=p) (x:=ent M t c) hp (by simp only[ent]at gc ⊢;omega) (by simp only[ent];omega);left;have hM:M=mkR rows.length (fun i=>M.getD i []):=zUK hl;obtain⟨F,hF⟩:∃F:Nat->List Int,∀i,F i=if i=t then M.getD d []else if i=d then M.getD t []else M.getD i []:=⟨_,fun _=>rfl⟩
    have bY:jB M (d:Int) (t:Int) (M.getD t []) (M.getD d [])=mkR rows.length F:=by
     unfold jB;rw[J8,J8]
     conv=>lhs;rw[hM]
     rw[zGF,zGF];exact jL fun i hi=>by rw[hF,jV hd,jV eM]
    have mA:∀i,i<rows.length->Row p n (F i):=fun i hi=>by
     rw[hF];split
     ·exact h.row d hd
     ·split
      ·exact fh
      ·exact h.row i hi
    have hFd:F d=M.getD t []:=by
     rw[hF]
     by_cases e:d=t
     ·rw[if_pos e,e]
     ·rw[if_neg e,if_pos rfl]
    obtain⟨G,hG⟩:∃G:Nat->List Int,∀i,G i=if i=d then mkv n fun j=>(at0 (F d) j*q)%p else F i:=⟨_,fun _=>rfl⟩
    have hGd:G d=mkv n fun j=>(ent M t j*q)%p:=by rw[hG,if_pos rfl,hFd]
    have hGo:∀i,i≠d->G i=if i=t then M.getD d []else M.getD i []:=fun i eG=>by rw[hG,if_neg eG,hF];simp only[eG,if_false]
    have bZ:zE (zNA p (M,(d:Int),(c:Int)) (q,jh) (M.getD t [])) (mkR rows.length F,0)=jf (mkR rows.length G):=by
     rw[zOG hp (F:=F) hd (mA d hd) (by omega) ⟨q2,q3⟩ fh.1 rfl]
     congr 1
     exact jL fun i _=>(hG i).symm
    have hF3:∀i,i<rows.length->Row p n (G i):=fun i hi=>by
     rw[hG];split
     ·refine⟨zU _ _,fun j hj=>?_⟩
      have e1:=Kk (at0 (F d) j*q) (show p≠0 by omega);have e2:=Kh (at0 (F d) j*q) (show 0<p by omega);rw[zW hj];omega
     ·exact mA i hi
    have gy:=zOH hp (c:=c) (F:=G) hd hc hF3 (by omega) (by omega) (r21:=mkR rows.length G) tY (s:=(M,(d:Int),(c:Int))) rfl rfl;rw[zMJ,zK,yA [],yA []];simp only[bs];rw[bY,zKL hd,hFd];simp only[bs];rw[yJ (by rw[fh.1];exact hc)];simp only[bs];rw[show at0 (M.getD t []) c=ent M t c from rfl,q1];simp only[bs];rw[bZ];simp only[bs];rw[gy];simp only[bs];rw[zB,zB];simp only[bs,cs];have bx:=h.pivot hp hc hd t1 eM gc q4;refine⟨_,rfl,_,d+1,fun i=>if i=d then c else pv i,rfl,?_,by omega⟩;have e3:(mkR rows.length fun i=>if i=d then G d else uR p n (G i) (0-at0 (G i) c) (G d))=(mkR rows.length fun i=>if i=d then mkv n fun j=>(ent M t j*q)%p else uR p n (if i=t then M.getD d []else M.getD i []) (0-at0 (if i=t then M.getD d []else M.getD i []) c) (mkv n fun j=>(ent M t j*q)%p)):=by
     refine jL fun i hi=>?_
     rw[hGd]
     by_cases eG:i=d
     ·rw[if_pos eG,if_pos eG]
     ·rw[if_neg eG,if_neg eG,hGo i eG]
    rw[e3];exact bx
  ·
   refine .inr ⟨(M,(d:Int)),?_,M,d,pv,rfl,by omega,h.take d8 fun k hk eZ=>by omega⟩;rw[e0,jj (by omega),zK]
 ·
  obtain⟨M,d,pv,rfl,h,d8⟩:=hI;have hl:=h.len;have pN:=h.dm;refine⟨(M,(d:Int)),?_,M,d,pv,rfl,by omega,h.take d8 fun k hk eZ j hj=>h.zero k hk eZ j hj⟩;unfold zPE;simp only
  by_cases h0:rows.length=0
  ·rw[jj (by omega),zK]
  ·have hx:ixO M (0:Int)=jf (M.getD 0 []):=by
    have:=yA (v:=M) (i:=0) [];exact this
   rw[jk,zH,hx];simp only[bs];rw[(h.row 0 (by omega)).1,tS,zK]
end
theorem zJC{v:List Int}{n:Nat}(hl:v.length=n)(hn:n<=1000000:=by omega):∃k:Nat,k<=n/\f_I v=jf (k:Int)/\(∀j,j<k->at0 v j=0)/\(k<n->at0 v k≠0):=by
 unfold f_I;rcases chk (body:=zIU v) n 0 (Lf _) (fun i=>at0 v i=0) (fun i=>(i:Int)) (fun i _ hi _=>by
   unfold zIU;rw[hl,yP hi,zH,yJ,bs]
   by_cases h:at0 v i=0
   ·rw[zAu h,zK,zB,bs,cs];grind
   grind) (by
   unfold zIU
   grind)with⟨h1,h2⟩|⟨i,_,hi,h1,h2⟩
 ·grind
 ·rw[show((0:Nat):Int)=0 from rfl]at h1
  rw[h1,bs];obtain⟨k,⟨hk1,eZ⟩,fc⟩:=zDt (p:=fun k=>k<n/\at0 v k≠0) ⟨i,hi,h2⟩;have hz:∀j,j<k->at0 v j=0:=by grind
  have hki:k=i:=by
   have eU:∀q,q<=k->zE (zIU v) ((k-q:Nat):Int)=jf (.inr (k:Int)):=by
    intro q
    induction q with
    |zero=>
     intro _;rw[yQ];have e:zIU v ((k-0:Nat):Int)=jf (.inr (.inr (k:Int))):=by unfold zIU;rw[show k-0=k from rfl,hl,yP hk1,zH,yJ,bs,zA9 eZ,zH]
     rw[e]
    |succ q ih=>
     intro hq;rw[yQ];have e:zIU v ((k-(q+1):Nat):Int)=jf (.inl ((k-q:Nat):Int)):=by unfold zIU;rw[hl,yP,zH,yJ,bs,zAu (hz _ (by omega)),zK,zB,bs,cs,show k-(q+1)+1=k-q from by omega]
     grind
   have:=eU k (Je _)
   grind
  grind
theorem zKM{v:List Int}{n:Nat}(hl:v.length=n)(hn:n<=1000000)(hk:k<n)(h0:∀j,j<k->at0 v j=0)(h1:at0 v k≠0:=by omega):f_I v=jf (k:Int):=by grind[zJC]
theorem zMK{p x:Int}(hp:Prime p)(h0:1<=x:=by omega)(h1:x<=p-1:=by omega):∃r,zWZ x p=jf r/\0<=r/\r<=p-1/\(x*r)%p=1:=by
 have h7:=hp.pos;have hx:∃k:Nat,1<=k/\(k:Int)<p/\(x*(k:Int))%p=1:=by
  obtain⟨r,_,r1,r2,r3⟩:=zBA hp h0 h1;refine⟨r.toNat,?_,by omega,by grind⟩;rcases Int.lt_or_eq_of_le r1 with g|g
  ·omega
  ·rw[<-g]at r3;simp at r3
 obtain⟨k,⟨k1,k2,k3⟩,fc⟩:=zDt hx;have body:∀i:Nat,1<=i->(i:Int)<p->zNC x p (i:Int)=cond ((x*(i:Int))%p==1) (jf (.inr (.inr (i:Int)))) (jf (.inl ((i+1:Nat):Int))):=fun i hi hip=>by
  have a3:=Ul (show 0<=x by omega) (show 0<=(i:Int)by omega);have a4:=zB7 hp (k:=(i:Int)) (by omega) (b:=x) ⟨by omega,h1⟩;rw[Gy]at a4;unfold zNC;rw[jk hip,zH,zMI hp (by omega) (by omega),bs,Jq (by omega) (by omega),zB,bs];unfold vD;rw[if_neg (by omega),bs,Hg a3]
  by_cases hh:(x*(i:Int))%p=1
  ·grind
  ·rw[zMJ hh,zK,zK,zB,bs,cs]
 have eU:∀q,q+1<=k->zE (zNC x p) ((k-q:Nat):Int)=jf (.inr (k:Int)):=by
  intro q
  induction q with
  |zero=>
   intro _;rw[yQ,show k-0=k from rfl,body k k1 k2,zQQ k3,zH]
  |succ q ih=>
   intro hq;have gc:(x*((k-(q+1):Nat):Int))%p≠1:=by grind
   rw[yQ,body _ (by omega) (by omega),zMJ gc,zK,show k-(q+1)+1=k-q from by omega]
   grind
 have:=eU (k-1) (by omega);rw[show k-(k-1)=1 from by omega,show((1:Nat):Int)=1 from rfl]at this
 grind[zWZ]
section
variable {p:Int} (hp:Prime p) {n:Nat} (hn:n<=100000)
 include hp hn
theorem yBD{s:List Int}(hr:Row p n r):uR p n r p s=r:=by
 have _:=hp;have _:=hn
 conv=>rhs;rw[vJ hr.1]
 refine zX fun j hj=>?_
 have:=hr.2 j hj;rw[Qr];exact Jq this.1 (by omega)
def cl(p:Int)(n:Nat)(out:Mx)(pv:Nat->Nat)(v:List Int):Nat->List Int
 |0=>v
 |i+1=>uR p n (cl p n out pv v i) (p-at0 (cl p n out pv v i) (pv i)) (out.getD i [])
variable {out:Mx}{pv:Nat->Nat} (h:Red p n out pv) {v:List Int} (hv:Row p n v)
 include h hv
theorem zKN:∀i,Row p n (cl p n out pv v i):=by
 have _:=hn;have _:=h;intro i;cases i with
 |zero=>exact hv
 |succ i=>exact qW hp
theorem yBE:∀i,i<=out.length-> ∀k,k<i->at0 (cl p n out pv v i) (pv k)=0:=by
 have _:=hn;have _:=hv;have h7:=hp.pos;intro i
 induction i with
 |zero=>simp
 |succ i ih=>
  intro hi k hk;have gC:=h.lt k (by omega);rw[cl,uR,zW gC];rcases Jo k i with g|g
  ·have h1:=ih (by omega) k g
   have h2:=h.off k i (by omega) (by omega) (by omega)
   simp_all
  ·have hki:k=i:=by omega
   subst hki;have h2:=h.one k (by omega);simp only[ent]at h2;rw[h2,L8,show at0 (cl p n out pv v k) (pv k)+(p-at0 (cl p n out pv v k) (pv k))=p from by omega,Jap]
theorem zQR:∀i,i<=out.length-> ∃cf:Nat->Int,∀j,j<n->at0 (cl p n out pv v i) j%p=(at0 v j+S out.length fun k=>cf k*ent out k j)%p:=by
 have _:=hp;have _:=h;have _:=hv;have _:=hn;intro i
 induction i with
 |zero=>intro _;exact⟨fun _=>0,fun j _=>by rw[xV (g:=fun _=>0) (fun i _=>by simp),sX,L9];rfl⟩
 |succ i ih=>
  intro hi;obtain⟨cf,c8⟩:=ih (by omega);refine⟨fun k=>cf k+(if k=i then p-at0 (cl p n out pv v i) (pv i)else 0),fun j hj=>?_⟩;have e1:(S out.length fun k=>(cf k+(if k=i then p-at0 (cl p n out pv v i) (pv i)else 0))*ent out k j)=(S out.length fun k=>cf k*ent out k j)+(p-at0 (cl p n out pv v i) (pv i))*ent out i j:=by rw[xV (g:=fun k=>cf k*ent out k j+(if k=i then p-at0 (cl p n out pv v i) (pv i)else 0)*ent out k j) (by grind),zC2,kI (f:=fun k=>(if k=i then p-at0 (cl p n out pv v i) (pv i)else 0)*ent out k j) (k:=i) (by omega) (by grind)];simp
  rw[e1,cl,uR,zW hj,K3,<-Int.add_assoc,Ka,c8 j hj,<-Ka]
theorem zHM(hm:out.length<=100000):zSG p out v=jf (cl p n out pv v out.length):=by
 have h7:=hp.pos;unfold zSG;rw[tH (by rw[hv.1];omega),bs];have:=zO (body:=zNB p out) (r:=cl p n out pv v out.length) (fun i=>(cl p n out pv v i,(i:Int))) out.length (fun i hi=>by
  have hr:=zKN hp hn h hv i;have ho:=h.row i hi;have gC:=h.lt i hi;have gk:=h.one i hi;have fK:=h.low i hi;simp only[ent]at gk fK;have he:=hr.2 (pv i) gC;unfold zNB;simp only
  rw[yP hi,zH,yA [] hi,bs,zKM ho.1 (by omega) gC fK,bs,hr.1,yP gC,zH,yJ (by rw[hr.1];exact gC),bs]
  by_cases hz:at0 (cl p n out pv v i) (pv i)=0
  ·rw[zAu hz,zK,zB,bs,cs,cl,hz,Int.sub_zero,yBD hp hn hr]
  ·rw[zA9 hz,zH,bs,zB,bs,bs,uV hp hr ho (by omega) (by omega),bs,zB,bs,cs]
   rfl) (by
  unfold zNB;simp)
 rw[show((0:Nat):Int)=0 from rfl]at this
 grind[cl]
end
section
variable {p:Int} (hp:Prime p) {n:Nat}{out:Mx}{pv:Nat->Nat} (h:Red p n out pv) {u:List Int}{k q:Nat} (hu:Row p n u) (hk:k<n) (u1:at0 u k=1) (ul:∀j,j<k->at0 u j=0) (up:∀i,i<out.length->at0 u (pv i)=0) (hq:q<=out.length) (q1:∀i,i<q->pv i<k) (q2:∀i,q<=i->i<out.length->k<pv i)
def oth(p:Int)(n:Nat)(out:Mx)(u:List Int)(k i:Nat):List Int:=uR p n (out.getD i []) (p-at0 (out.getD i []) k) u
def sC(p:Int)(n:Nat)(out:Mx)(u:List Int)(k q i:Nat):List Int:=if i<q then oth p n out u k i else if i=q then u else oth p n out u k (i-1)
def zYw(pv:Nat->Nat)(k q i:Nat):Nat:=if i<q then pv i else if i=q then k else pv (i-1)
 include hp h hu hk u1 ul up hq q1 q2
theorem zOI(hj:j<n):at0 (oth p n out u k i) j=(at0 (out.getD i []) j-at0 (out.getD i []) k*at0 u j)%p:=by have _:=hp;have _:=h;have _:=hu;have _:=hk;have _:=u1;have _:=ul;have _:=up;have _:=hq;have _:=q1;have _:=q2;rw[oth,uR,zW hj,show at0 (out.getD i []) j+(p-at0 (out.getD i []) k)*at0 u j=at0 (out.getD i []) j-at0 (out.getD i []) k*at0 u j+p*at0 u j from by grind,Qr]
theorem zEE(hi:i<out.length)(hj:j<n)(hz:at0 (out.getD i []) k=0\/at0 u j=0):at0 (oth p n out u k i) j=ent out i j:=by
 rw[zOI hp h hu hk u1 ul up hq q1 q2 hj];have:=(h.row i hi).2 j hj;have e:at0 (out.getD i []) k*at0 u j=0:=by grind
 rw[e,Int.sub_zero];exact Jq this.1 (by omega)
theorem yEs:at0 (oth p n out u k i) k=0:=by rw[zOI hp h hu hk u1 ul up hq q1 q2 hk,u1,L8,Jbb];rfl
theorem zYx(hi:i<out.length)(hj:j<pv i)(gc:pv i≠k):at0 (oth p n out u k i) j=0:=by
 have gC:=h.lt i hi;rcases Jo (pv i) k with g|g
 ·rw[zEE hp h hu hk u1 ul up hq q1 q2 hi (by omega) (by grind)];exact h.low i hi j hj
 ·have:=h.low i hi k (by omega)
  rw[zEE hp h hu hk u1 ul up hq q1 q2 hi (by omega) (.inl this)];exact h.low i hi j hj
theorem yEt(hi:i<out.length):pv i≠k:=by have _:=hp;have _:=h;have _:=hu;have _:=hk;have _:=ul;have _:=hq;have _:=q1;have _:=q2;grind
theorem zJD(hi:i<out.length+1):(i=q/\sC p n out u k q i=u/\zYw pv k q i=k)\/ ∃a,a<out.length/\(i<q/\a=i\/q<i/\i=a+1)/\sC p n out u k q i=oth p n out u k a/\zYw pv k q i=pv a:=by
 have _:=hp;have _:=h;have _:=hu;have _:=hk;have _:=u1;have _:=ul;have _:=up;have _:=q1;have _:=q2;unfold sC zYw
 grind
theorem zOJ:Red p n (mkR (out.length+1) (sC p n out u k q)) (zYw pv k q):=by
 have nc:=fun i hi=>zJD hp h hu hk u1 ul up hq q1 q2 (i:=i) hi
 have pn:=fun i hi=>yEt hp h hu hk u1 ul up hq q1 q2 (i:=i) hi
 refine⟨fun i hi=>?_,fun i hi=>?_,fun i hi=>?_,fun i hi j hj=>?_,fun i j hi hj gc=>?_,fun i j gI hj=>?_⟩<;>rw[tY]at*
 ·rw[jV hi]
  rcases nc i hi with⟨_,e,_⟩|⟨a,_,_,e,_⟩<;>rw[e]
  ·exact hu
  ·exact qW hp
 ·rcases nc i hi with⟨_,_,e⟩|⟨a,ha,_,_,e⟩<;>rw[e]
  ·exact hk
  ·exact h.lt a ha
 ·rw[zED hi]
  rcases nc i hi with⟨_,e1,e2⟩|⟨a,ha,_,e1,e2⟩<;>rw[e1,e2]
  ·exact u1
  ·rw[zEE hp h hu hk u1 ul up hq q1 q2 ha (h.lt a ha) (.inr (up a ha))];exact h.one a ha
 ·rw[zED hi]
  rcases nc i hi with⟨_,e1,e2⟩|⟨a,ha,_,e1,e2⟩<;>rw[e2]at hj<;>rw[e1]
  ·grind
  ·exact zYx hp h hu hk u1 ul up hq q1 q2 ha hj (pn a ha)
 ·rw[zED hj]
  rcases nc i hi with⟨g1,_,e2⟩|⟨a,ha,ga,_,e2⟩<;>rw[e2]<;>rcases nc j hj with⟨g3,e3,_⟩|⟨b,hb,gb,e3,_⟩<;>rw[e3]
  ·omega
  ·exact yEs hp h hu hk u1 ul up hq q1 q2
  ·grind
  ·rw[zEE hp h hu hk u1 ul up hq q1 q2 hb (h.lt a ha) (.inr (up a ha))]
   exact h.off a b ha hb (by omega)
 ·rcases nc i (by omega)with⟨g1,_,e2⟩|⟨a,ha,ga,_,e2⟩<;>rw[e2]<;>rcases nc j hj with⟨g3,_,e4⟩|⟨b,hb,gb,_,e4⟩<;>rw[e4]
  ·omega
  ·grind
  ·grind
  ·exact h.mono a b (by omega) hb
theorem zSb:(∀i,i<out.length+1->Sp p n (out++[u]) (sC p n out u k q i))/\(∀i,i<out.length->Sp p n (mkR (out.length+1) (sC p n out u k q)) (out.getD i []))/\Sp p n (mkR (out.length+1) (sC p n out u k q)) u:=by
 have gU:Sp p n (out++[u]) u:=by
  have:=uN (p:=p) (n:=n) (R:=out++[u]) (i:=out.length) (by simp)
  grind
 have hol:∀i,i<out.length->Sp p n (out++[u]) (out.getD i []):=fun i hi=>by
  have:=uN (p:=p) (n:=n) (R:=out++[u]) (i:=i) (by simp;omega)
  grind
 have hoth:∀i,i<out.length->Sp p n (out++[u]) (oth p n out u k i):=fun i hi=>
  jK (k:=p-at0 (out.getD i []) k) (hol i hi) gU (by grind[oth,uR,zW,K3])
 have ay:Sp p n (mkR (out.length+1) (sC p n out u k q)) u:=by have:=zBB (p:=p) (n:=n) (m:=out.length+1) (F:=sC p n out u k q) (i:=q);rw[show sC p n out u k q q=u from by unfold sC;simp]at this;exact this
 refine⟨fun i hi=>?_,fun i hi=>?_,ay⟩
 ·rcases zJD hp h hu hk u1 ul up hq q1 q2 hi with⟨_,e,_⟩|⟨a,ha,_,e,_⟩<;>rw[e]
  all_goals grind
 ·have eR:∃b,b<out.length+1/\sC p n out u k q b=oth p n out u k i:=by
   rcases Jo i q with g|g
   ·exact⟨i,by omega,by unfold sC;grind⟩
   ·exact⟨i+1,by omega,by unfold sC;grind⟩
  obtain⟨b,hb,e⟩:=eR;have h1:=zBB (p:=p) (n:=n) (m:=out.length+1) (F:=sC p n out u k q) hb;rw[e]at h1;refine jK (k:=at0 (out.getD i []) k) h1 ay fun j hj=>?_
  rw[zOI hp h hu hk u1 ul up hq q1 q2 hj,Ka,K3,<-Ka,show at0 (out.getD i []) j-at0 (out.getD i []) k*at0 u j+at0 (out.getD i []) k*at0 u j=at0 (out.getD i []) j from by omega]
theorem zML(hn:n<=100000)(hm:out.length<=100000){x:Int}:
  ((zE (zIV p (out,x) (k:Int) u) ([],ji,0)).bind fun r32=>cond (!r32.2) ((yH r32.1 [u]).bind fun v33=>jf v33) (jf r32.1))=jf (mkR (out.length+1) (sC p n out u k q)):=by
 have _:=u1;have _:=ul;have _:=up;have h7:=hp.pos;have ho:∀i,i<out.length->f_x p (out.getD i []) (p-at0 (out.getD i []) k) u=jf (oth p n out u k i)/\ixO (out.getD i []) (k:Int)=jf (at0 (out.getD i []) k)/\0<=at0 (out.getD i []) k/\at0 (out.getD i []) k<=p-1/\f_I (out.getD i [])=jf (pv i:Int):=fun i hi=>by have hr:=h.row i hi;have eZ:=hr.2 k hk;have gk:=h.one i hi;have fK:=h.low i hi;simp only[ent]at gk fK;exact⟨by rw[uV hp hr hu (by omega) (by omega)];rfl,yJ (by rw[hr.1];exact hk),eZ.1,eZ.2,zKM hr.1 (by omega) (h.lt i hi) fK⟩
 have hsn:∀{m:Nat}{F:Nat->List Int},mkR m F++[F m]=mkR (m+1) F:=by grind[mkR,Kt]
 have:=zO (body:=zIV p (out,x) (k:Int) u) (r:=(if out.length<=q then(mkR out.length (sC p n out u k q),ji)else(mkR (out.length+1) (sC p n out u k q),jh)))
  (fun j=>if j<=q then(mkR j (sC p n out u k q),ji,(j:Int))else(mkR (j+1) (sC p n out u k q),jh,(j:Int))) out.length (fun j hj=>by
   obtain⟨a1,a2,a3,a4,a5⟩:=ho j hj;have ud:rng (p-at0 (out.getD j []) k)=jf (p-at0 (out.getD j []) k):=by grind[zB]
   rcases G1 j q with g|g|g
   ·have hpj:=q1 j g
    rw[if_pos (by omega),if_pos (by omega)];unfold zIV;simp only
    rw[yP hj,zH,Ky,zH,yA [] hj];simp only[bs,a5];rw[jj (by omega),zK,a2];simp only[bs,ud,a1];rw[zV (by rw[tY];simp;omega),bs,zB,bs,cs];have:sC p n out u k q j=oth p n out u k j:=by unfold sC;grind
    grind
   ·subst g
    have hpj:=q2 j (Je _) hj;rw[if_pos (by omega),if_neg (by omega)];unfold zIV;simp only
    rw[yP hj,zH,Ky,zH,yA [] hj];simp only[bs,a5];rw[jk,zH,zV (by rw[tY];simp;omega),a2];simp only[bs,ud,a1];have e1:sC p n out u k j j=u:=by unfold sC;simp
    have e2:sC p n out u k j (j+1)=oth p n out u k j:=by unfold sC;grind
    have e3:mkR j (sC p n out u k j)++[u]=mkR (j+1) (sC p n out u k j):=by grind
    rw[e3,zV (by rw[tY];simp;omega),bs,zB,bs,cs,<-e2,hsn]
   ·rw[if_neg (by omega),if_neg (by omega)]
    unfold zIV;simp only
    rw[yP hj,zH,Kb,zK,yA [] hj];simp only[bs,a2,ud,a1];have e2:sC p n out u k q (j+1)=oth p n out u k j:=by unfold sC;rw[if_neg (by omega),if_neg (by omega)];rfl
    rw[zV (by rw[tY];simp;omega),bs,zB,bs,cs,<-e2,hsn]) (by
   by_cases g:out.length<=q
   ·rw[if_pos g,if_pos g]
    unfold zIV;simp
   ·rw[if_neg g,if_neg g]
    unfold zIV;simp)
 rw[if_pos (Lf _),show((0:Nat):Int)=0 from rfl,show mkR 0 (sC p n out u k q)=[]from rfl]at this;rw[this,bs]
 by_cases g:out.length<=q
 ·have e1:sC p n out u k q out.length=u:=by unfold sC;grind
  rw[if_pos g];simp only
  rw[Ky,zH,zV (by rw[tY];simp;omega),bs]
  grind
 grind
end
theorem zOK{p:Int}{n:Nat}{R out:Mx}{cf:Nat->Int}(ho:∀i,i<out.length->Sp p n R (out.getD i []))(hu:∀j,j<n->at0 u j%p=(S out.length fun k=>cf k*ent out k j)%p):Sp p n R u:=
 sL ho ⟨cf,by grind⟩
theorem Red.len_le{p:Int}{n:Nat}{R:Mx}(h:Red p n R pv):R.length<=n:=by
 have key:∀i,i<R.length->i<=pv i:=by
  intro i
  induction i with
  |zero=>simp
  |succ i ih=>
   intro hi;have h1:=ih (by omega);have h2:=h.mono i (i+1) (by omega) hi;omega
 rcases Jav R.length with g|g
 ·omega
 ·have h1:=key (R.length-1) (by omega)
  have h2:=h.lt (R.length-1) (by omega);omega
theorem zCZ{v:List Int}(h:i<xs.length:=by omega):(xs++[v]).getD i []=xs.getD i []:=by grind
theorem zDa{v:List Int}:(xs++[v]).getD xs.length []=v:=by simp
section
variable {p:Int} (hp:Prime p) {n:Nat} (hn:n<=100000)
 include hp hn
theorem zOL{w:List Int}(hw:Row p n w){r:Int}(h0:0<=r)(h1:r<=p-1):zZe p r w=jf (mkv n fun j=>(at0 w j*r)%p):=by
 have h7:=hp.pos;unfold zZe;rw[hw.1,yI,bs,uV hp (zFH) hw (by omega) (by omega),bs]
 congr 1
 refine zX fun j hj=>?_
 grind
variable {rows:Mx} (hm:rows.length<=600000) (hr:∀i,i<rows.length->Row p n (rows.getD i []))
 include hm hr
theorem zEF:∃R pv,f_q p rows=jf R/\(Red p n R pv/\R.length<=rows.length)/\qN p n R rows:=by
 have h7:=hp.pos;unfold f_q;have main:=wY (body:=zSH p rows) (s:=([],0)) (Q:=fun R=> ∃pv,(Red p n R pv/\R.length<=rows.length)/\qN p n R rows)
  (fun i s=> ∃(out:Mx)(pv:Nat->Nat),s=(out,(i:Int))/\Red p n out pv/\qN p n out (rows.take i)/\out.length<=i/\i<=rows.length) rows.length (fun i s hi hI=>?_) (fun s hI=>?_) ⟨[],fun _=>0,rfl,Red.empty,by rw[Kd];exact qN.refl,Lf _,Lf _⟩
 ·obtain⟨R,h1,pv,h2,h3⟩:=main
  rw[h1,bs];exact⟨R,pv,rfl,h2,h3⟩
 ·obtain⟨out,pv,rfl,h,hs,hl,_⟩:=hI
  have hon:out.length<=n:=h.len_le;left;have hv:=hr i hi;have hw:=zKN hp hn h hv out.length;have gy:=zHM hp hn h hv (by omega);have hpz:=yBE hp hn h hv out.length (Je _);obtain⟨cf,c8⟩:=zQR hp hn h hv out.length (Je _);obtain⟨k,k1,k2,k3,k4⟩:=zJC hw.1;have eF:rows.take (i+1)=rows.take i++[rows.getD i []]:=by rw[K5 hi,J2,J3 hi];rfl
  have bX:(rows.take i).length=i:=by rw[Ke];omega
  have fa:∀u,Sp p n (rows.take i) u->Sp p n (rows.take (i+1)) u:=fun u hu=>sL (fun a ha=>by have:=uN (p:=p) (n:=n) (R:=rows.take (i+1)) (i:=a) (by rw[eF,J5];omega);rw[eF,zCZ ha,<-eF]at this;exact this) hu
  have cY:Sp p n (rows.take (i+1)) (rows.getD i []):=by
   have:=uN (p:=p) (n:=n) (R:=rows.take (i+1)) (i:=i) (by rw[eF,J5,bX];simp);rw[eF]at this;have e:(rows.take i++[rows.getD i []]).getD i []=rows.getD i []:=by have:=zDa (xs:=rows.take i) (v:=rows.getD i []);rw[bX]at this;exact this
   rw[e,<-eF]at this;exact this
  by_cases eY:k=n
  ·
   refine⟨(out,((i+1:Nat):Int)),?_,out,pv,rfl,h,⟨fun a ha=>fa _ (hs.1 a ha),fun a ha=>?_⟩,by omega,by omega⟩
   ·unfold zSH
    simp only
    rw[yP hi,zH,yA [] hi];simp only[bs,gy,k2];rw[hw.1,zQQ,zH,zB,bs,cs]
   ·rw[eF,J5,bX,Jb]at ha
    rw[eF];rcases Jo a i with g|g
    ·rw[zCZ];exact hs.2 a (by omega)
    ·have:a=i:=by omega
     subst this;have e:(rows.take a++[rows.getD a []]).getD a []=rows.getD a []:=by have:=zDa (xs:=rows.take a) (v:=rows.getD a []);rw[bX]at this;exact this
     rw[e];refine zOK (out:=out) (cf:=fun q=> -1*cf q) (fun a ha=>uN ha) fun j hj=>?_
     have h1:=c8 j hj;rw[k3 j (by omega)]at h1;rw[xV (g:=fun q=> -1*(cf q*ent out q j)) (fun q _=>by rw[U1]),zC3];have h2:(at0 (rows.getD a []) j+S out.length fun q=>cf q*ent out q j)%p=0:=by rw[<-h1];rfl
     rw[show at0 (rows.getD a []) j=(at0 (rows.getD a []) j+S out.length fun q=>cf q*ent out q j)+ -1*(S out.length fun q=>cf q*ent out q j)from by omega,Ka,h2,Kq,K3]
  ·have hk:k<n:=by omega
   have hwk:=hw.2 k hk;have gc:=k4 hk;obtain⟨r,r1,r2,r3,r4⟩:=zMK hp (x:=at0 (cl p n out pv (rows.getD i []) out.length) k);have bZ:=zOL hp hn hw r2 r3;have hu:Row p n (mkv n fun j=>(at0 (cl p n out pv (rows.getD i []) out.length) j*r)%p):=⟨zU _ _,fun j hj=>by have e1:=Kk (at0 (cl p n out pv (rows.getD i []) out.length) j*r) (show p≠0 by omega);have e2:=Kh (at0 (cl p n out pv (rows.getD i []) out.length) j*r) (show 0<p by omega);rw[zW hj];omega⟩
   have ua:∀j,j<n->at0 (mkv n fun j=>(at0 (cl p n out pv (rows.getD i []) out.length) j*r)%p) j=(at0 (cl p n out pv (rows.getD i []) out.length) j*r)%p:=fun j hj=>zW hj
   generalize mkv n (fun j=>(at0 (cl p n out pv (rows.getD i []) out.length) j*r)%p)=u at bZ hu ua
   have u1:at0 u k=1:=by rw[ua k hk];exact r4
   have ul:∀j,j<k->at0 u j=0:=fun j hj=>by rw[ua j (by omega),k3 j hj];simp
   have up:∀a,a<out.length->at0 u (pv a)=0:=fun a ha=>by rw[ua _ (h.lt a ha),hpz a ha];simp
   obtain⟨q,⟨hq,i6⟩,fc⟩:=zDt (p:=fun q=>q<=out.length/\(q<out.length->k<pv q)) ⟨out.length,Je _,fun g=>by omega⟩;have q1:∀a,a<q->pv a<k:=fun a ha=>by
    have h1:¬(k<pv a):=fun g=>fc a ha ⟨by omega,fun _=>g⟩
    have h2:pv a≠k:=fun e=>by have:=up a (by omega);rw[e,u1]at this;cases this
    omega
   have q2:∀a,q<=a->a<out.length->k<pv a:=fun a ha ha2=>by
    have h1:=i6 (by omega);rcases Jo q a with g|g
    ·have:=h.mono q a g ha2;omega
    ·rw[show a=q from by omega];exact h1
   have ff:=zML hp h hu hk u1 ul up hq q1 q2 hn (by omega) (x:=(i:Int));have fV:=zOJ hp h hu hk u1 ul up hq q1 q2;obtain⟨s1,s2,s3⟩:=zSb hp h hu hk u1 ul up hq q1 q2;refine⟨(mkR (out.length+1) (sC p n out u k q),((i+1:Nat):Int)),?_,_,_,rfl,fV,⟨fun a ha=>?_,fun a ha=>?_⟩,by rw[tY];omega,by omega⟩
   ·unfold zSH
    simp only
    rw[yP hi,zH,yA [] hi];simp only[bs,gy,k2];rw[hw.1,zMJ,zK,yJ (by rw[hw.1];exact hk)];simp only[bs,r1,bZ];cases eK:zE (zIV p (out,(i:Int)) (k:Int) u) ([],ji,0)with
    |none=>rw[eK]at ff;cases ff
    |some r32=>
     rw[eK,bs]at ff;simp only[bs];obtain⟨a1,a2⟩:=r32;cases a2 with
     |true=>
      simp only[Kb,zK]at ff ⊢
      rw[zB,bs,cs,Hm.inj ff]
     |false=>
      simp only[Ky,zH]at ff ⊢
      cases hap:yH a1 [u]with
      |none=>rw[hap]at ff;cases ff
      |some v33=>
       rw[hap,bs]at ff;simp only[bs];rw[zB,bs,cs,Hm.inj ff]
   ·rw[tY]at ha
    rw[jV ha];refine sL (fun b hb=>?_) (s1 a ha);rw[J5,Jb]at hb;rcases Jo b out.length with g|g
    ·rw[zCZ g];exact fa _ (hs.1 b g)
    ·rw[show b=out.length from by omega,zDa]
     have dP:Sp p n (rows.take (i+1)) (cl p n out pv (rows.getD i []) out.length):=by
      have mp:Sp p n (rows.take (i+1)) (mkv n fun j=>S out.length fun k=>cf k*ent out k j):=zOK (out:=out) (cf:=cf) (fun b hb=>fa _ (hs.1 b hb)) fun j hj=>by rw[zW hj]
      refine jK (k:=1) cY mp fun j hj=>?_
      rw[c8 j hj,zW hj,Gp]
     refine jK (k:=r) (zAC (u:=[]) fun j _=>by simp[at0]) dP fun j hj=>?_
     rw[ua j hj,K3,show at0 ([]:List Int) j=0 from by simp[at0],Kq,Gy]
   ·rw[eF,J5,bX,Jb]at ha
    rw[eF];rcases Jo a i with g|g
    ·rw[zCZ]
     exact sL s2 (hs.2 a (by omega))
    ·have hai:a=i:=by omega
     subst hai;have e:(rows.take a++[rows.getD a []]).getD a []=rows.getD a []:=by have:=zDa (xs:=rows.take a) (v:=rows.getD a []);rw[bX]at this;exact this
     rw[e];have dP:Sp p n (mkR (out.length+1) (sC p n out u k q)) (cl p n out pv (rows.getD a []) out.length):=by
      refine jK (k:=at0 (cl p n out pv (rows.getD a []) out.length) k) (zAC (u:=[]) fun j _=>by simp[at0]) s3 fun j hj=>?_
      rw[ua j hj,show at0 ([]:List Int) j=0 from by simp[at0],Kq];rw[Jz,K3,<-Jz,<-U1,Gy (at0 (cl p n out pv (rows.getD a []) out.length) k),U1,Jz,r4,L8,K3]
     have mp:Sp p n (mkR (out.length+1) (sC p n out u k q)) (mkv n fun j=>S out.length fun k=>cf k*ent out k j):=zOK (out:=out) (cf:=cf) s2 fun j hj=>by rw[zW hj]
     refine jK (k:=-1) dP mp fun j hj=>?_
     rw[zW hj,Ka,c8 j hj,<-Ka]
     congr 1;omega
 ·obtain⟨out,pv,rfl,h,hs,hl,_⟩:=hI
  refine⟨out,?_,pv,⟨h,hl⟩,by rw[Ln]at hs;exact hs⟩;unfold zSH;simp only
  rw[tS,zK]
theorem zC6:∃R pv,f_q p rows=jf R/\Red p n R pv/\qN p n R rows:=by grind[zEF]
theorem zHN{R:Mx}(h:Red p n R pv)(hs:qN p n R rows):R.length<=rows.length:=by have h7:=hp.pos;obtain⟨R',pv',_,h2,h3⟩:=zEF hp hn hm hr;rw[h.unique (by omega) h2.1 (hs.trans h3.symm)];exact h2.2
theorem uW:∃R pv,f_q p rows=jf R/\f_i p rows=jf R/\Red p n R pv/\qN p n R rows:=by
 have h7:=hp.pos;obtain⟨R,pv,h1,h2,h3⟩:=zC6 hp hn hm hr;obtain⟨R',pv',g1,g2,g3⟩:=zGl hp hn hm hr;have e:=h2.unique (by omega) g2 (h3.trans g3.symm)
 grind
end
theorem wI{body:List β×Int->Option ((List β×Int)⊕List β)}(n:Nat)(F:Nat->β)(h:∀i acc,i<n->acc.length=i->body (acc,(i:Int))=jf (.inl (acc++[F i],((i+1:Nat):Int))))(he:∀acc,body (acc,(n:Int))=jf (.inr acc)):
  zE body ([],0)=jf ((Jd n).map F):=by
 have:=zO (body:=body) (r:=(Jd n).map F) (fun i=>((Jd i).map F,(i:Int))) n (by grind[Kt]) (he _);exact this
theorem zSc(hx:xs.length<=100000)(hf:xs.flatten.length<=1000000):zZp xs=jf xs.flatten:=by
 unfold zZp;have:=zO (body:=zNK xs) (r:=xs.flatten) (fun i=>((xs.take i).flatten,(i:Int))) xs.length (fun i hi=>by
  have h1:=zFG hi;have h2:=zKI (xs:=xs) (i+1);have h3:=congrArg Qf h1;rw[J5]at h3;unfold zNK;simp only
  rw[yP hi,zH,yA [] hi,bs,zV,bs,zB,bs,cs,h1]) (by
  unfold zNK;simp)
 grind
theorem zQS{p:Int}{L:Nat}{v:List Int}:Row p L v↔v.length=L/\ ∀a∈v,0<=a/\a<=p-1:=by
 constructor
 ·rintro⟨h1,h2⟩
  refine⟨h1,fun a ha=>?_⟩;obtain⟨i,hi,rfl⟩:=Ld.1 ha
  grind
 ·rintro⟨h1,h2⟩
  refine⟨h1,fun i hi=>?_⟩
  simp_all
def vC(D k:Nat):List Int:=mkv D fun j=>if j=k then 1 else 0
theorem zSd{p:Int}(hp:2<=p):Row p D (vC D k):=⟨zU _ _,by grind[vC,zW]⟩
theorem qF(hk:k<D:=by omega)(hD:D<=1000000:=by omega):zIS (D:Int) (k:Int)=jf (vC D k):=by grind[zIS,yI,yJ,uD,sP,vC]
abbrev gl{β:Type}(m:Nat)(F:Nat->β):List β:=(Jd m).map F
theorem wL{β:Type}{F:Nat->β}:(gl m F).length=m:=by simp[gl]
theorem zAD{β:Type}{F:Nat->β}(h:i<m:=by omega):ixO (gl m F) (i:Int)=jf (F i):=by rw[zA7 (by grind)];simp[gl]
theorem kJ{β:Type}{F G:Nat->β}(h:∀i,i<m->F i=G i):gl m F=gl m G:=by grind[Uu]
theorem zDV{β:Type}{F:Nat->β}{a:β}:(gl m F).set i a=gl m (fun k=>if k=i then a else F k):=by
 apply L4
 grind
theorem zAE{β:Type}{F:Nat->β}:gl m F++[F m]=gl (m+1) F:=by simp[gl,Kt]
def base(n i:Nat):Nat:=n+i*n-i*(i+1)/2
theorem zJE:∀n,n<7-> ∀i,i<n->base n (i+1)=base n i+(n-1-i):=by decide
theorem zAd:∀n,n<7-> ∀i,i<n->base n i+(n-1-i)<=base n n:=by decide
theorem wA:∀n,n<7->n<=base n n/\base n n<=21/\base n 0=n:=by decide
theorem zOM:∀n:Nat,n<7-> ∀j:Nat,j<n-> ∀i:Nat,i<j->yC5 (n:Int) (i:Int) (j:Int)=jf ((base n i+(j-i-1):Nat):Int):=by decide+kernel
def exP(n D:Nat)(x:SPr)(T:Mx)(i:Nat):List Int:=if i<n then x.zQ.getD i []++T.getD i []else J1 (n+D) 0
def exF(n:Nat)(x:SPr)(m:zF)(T:Mx)(i j:Nat):List Int:=if j<n-1-i then(x.zG.getD i []).getD j []++T.getD (base n i+j) []else J1 n 0++(m.zM.getD i []).getD (j-(n-1-i)) []
def unC(N i:Nat):Mx:=gl (N-1-i) fun j=>vC N (i+1+j)
def exC(n D:Nat)(x:SPr)(m:zF)(T:Mx)(i:Nat):Mx:=if i<n then gl (n+D-1-i) (exF n x m T i)else unC (n+D) i
def ext(n D:Nat)(x:SPr)(m:zF)(T:Mx):SPr:=⟨x.zA++J1 D m.Prime,gl (n+D) (exP n D x T),gl (n+D) (exC n D x m T)⟩
structure zUO (n D:Nat) (x:SPr) (m:zF) (T:Mx):Prop where
 hn:n<=6
 o:x.zA.length=n
 p:x.zQ.length=n
 c:x.zG.length=n
 cl:∀i,i<n->(x.zG.getD i []).length=n-1-i
 pl:∀i,(x.zQ.getD i []).length<=6
 ce:∀i j,((x.zG.getD i []).getD j []).length<=6
 t:T.length=base n n
 tl:∀i,(T.getD i []).length<=30
 m:yBB n m D
theorem zQT{a b:List Int}(ha:a.length<=1000:=by omega)(hb:b.length<=1000:=by omega):f_t [a,b]=jf (a++b):=by grind[qQ]
theorem zJF{v:Int}(hk:k<=1000):∀d c:Nat,c<=k->(c=0->k=0)->k-c<=d->zE zBN (J1 c v++J1 (k-c) 0,(c:Int))=jf (J1 k v):=by
 intro d
 induction d with
 |zero=>
  intro c h1 _ h3;obtain rfl:c=k:=by omega
  rw[yQ];unfold zBN;simp
 |succ d ih=>
  intro c h1 h2 h3
  by_cases hc:c=k
  ·grind
  ·have hl:(J1 c v++J1 (k-c) (0:Int)).length=k:=by simp;omega
   have s1:zS (J1 c v++J1 (k-c) (0:Int)) (c:Int) (k:Int)=jf (((J1 c v++J1 (k-c) (0:Int)).drop c).take (k-c)):=by
    unfold zS
    simp_all
   have s2:zS (J1 c v++J1 (k-c) (0:Int)) 0 (c:Int)=jf (J1 c v):=by
    unfold zS
    simp_all
   have e1:(J1 c v).take (k-c)=J1 (min (k-c) c) v:=by simp
   have e2:wQ (J1 c v++J1 (k-c) (0:Int)) c (J1 (min (k-c) c) v)=J1 (c+min c (k-c)) v++J1 (k-(c+min c (k-c))) 0:=by
    unfold wQ;rw[Js (by simp),Jl,Nat.min_comm (k-c) c,Jn,List.drop_append,Jl,Uo (by rw[Jl];omega),K0,Lm]
    congr 2;omega
   have hb:zBN (J1 c v++J1 (k-c) 0,(c:Int))=jf (.inl (J1 (c+min c (k-c)) v++J1 (k-(c+min c (k-c))) 0,((c+min c (k-c):Nat):Int))):=by
    unfold zBN;simp only
    rw[hl,yP,zH,s1,bs,s2,bs,Jl];simp only[J8];rw[e1,e2,<-Hn,zB,bs]
   rw[yQ,hb];exact ih (c+min c (k-c)) (by omega) (by omega) (by omega)
theorem zON{v:Int}(hk:k<=30):f_k [v] (k:Int)=jf (J1 k v):=by
 have key:∀k:Nat,k<31->zWG 1 (IntKind.wrap .u64 (k:Int))=jf (0,(k:Int))/\yG (IntKind.wrap .i64 (k:Int))=jf k:=by decide+kernel
 obtain⟨k1,k2⟩:=key k (by omega);unfold f_k;rw[jj (by omega),zK,zMB k1,bs];simp only[k2,bs];rw[show decide ((0:Int)> 0)=ji from rfl,zK,jj (by omega),zK]
 by_cases h0:k=0
 ·subst h0
  have:=zJF (v:=v) (k:=0) (by omega) 0 0 (by omega) (by omega) (by omega);rw[show wQ (J1 0 (0:Int)) 0 (([v]:List Int).take ((J1 0 (0:Int)).length-0))=J1 0 v++J1 (0-0) 0 from rfl,show((min ([v]:List Int).length ((J1 0 (0:Int)).length-0):Nat):Int)=((0:Nat):Int)from rfl,this,bs]
 ·have:=zJF (v:=v) (k:=k) (by omega) k 1 (by omega) (by omega) (by omega)
  have e1:wQ (J1 k (0:Int)) 0 (([v]:List Int).take ((J1 k (0:Int)).length-0))=J1 1 v++J1 (k-1) 0:=by
   unfold wQ
   grind
  grind
theorem zSe{O:List Int}(hO:O.length=N)(hN:N<=100:=by omega):f_P O=jf ⟨O,gl N (fun _=>J1 N 0),gl N (unC N)⟩:=by
 have gK:∀i,i<N->zE (zSJ O) ([],((i+1:Nat):Int))=jf (unC N i):=fun i hi=>by
  have:=zO (body:=zSJ O) (r:=unC N i) (fun j=>(gl j fun j=>vC N (i+1+j),((i+1+j:Nat):Int))) (N-1-i) (fun j hj=>by
   unfold zSJ;simp only
   rw[hO,yP,zH,qF,bs,zV (by grind),bs,zB,bs,cs,zAE (F:=fun j=>vC N (i+1+j))];rfl) (by
   unfold zSJ;simp only
   rw[hO,show i+1+(N-1-i)=N from by omega,tS,zK,unC])
  exact this
 have:=zO (body:=zSK O) (r:=(gl N (fun _=>J1 N 0),gl N (unC N))) (fun i=>(gl i (fun _=>J1 N (0:Int)),gl i (unC N),((i:Nat):Int))) N (fun i hi=>by
  unfold zSK;simp only
  rw[hO,yP hi,zH,yI,bs,zV (by grind),bs,zB,bs,cs,gK i hi,bs,zV (by rw[wL];simp;omega),bs,bs,zAE (F:=unC N),zAE (F:=fun _=>J1 N (0:Int))]) (by
  unfold zSK
  grind)
 unfold f_P;rw[jM,bs]
 grind
section
variable {n D:Nat}{x:SPr}{m:zF}{T:Mx} (h:zUO n D x m T)
 include h
def exG(n N:Nat)(x:SPr)(m:zF)(T:Mx)(i t q:Nat):List Int:=if q<t then exF n x m T i q else vC N (i+1+q)
def exE(n D:Nat)(x:SPr)(m:zF)(T:Mx)(i t k:Nat):Mx:=if k<i then exC n D x m T k else if k=i then gl (n+D-1-i) (exG n (n+D) x m T i t)else unC (n+D) k
theorem zOO{t:Nat}:exE n D x m T i t i=gl (n+D-1-i) (exG n (n+D) x m T i t):=by have _:=h;rw[exE,if_neg (by omega),if_pos rfl]
theorem zQU{t:Nat}:(gl (n+D) (exE n D x m T i t)).set i ((gl (n+D-1-i) (exG n (n+D) x m T i t)).set t (exF n x m T i t))=gl (n+D) (exE n D x m T i (t+1)):=by
 have _:=h;rw[zDV,zDV];refine kJ fun k _=>?_
 by_cases hk:k=i
 ·subst hk
  rw[if_pos rfl,zOO h];refine kJ fun q _=>?_
  simp only[exG]
  grind
 ·rw[if_neg hk,exE,exE,if_neg hk,if_neg hk]
theorem zHO:exE n D x m T i 0 k=if k<i then exC n D x m T k else unC (n+D) k:=by
 have _:=h;rw[exE]
 by_cases h1:k<i
 ·grind
 ·rw[if_neg h1,if_neg h1]
  by_cases h2:k=i
  ·subst h2
   rw[if_pos rfl];rfl
  grind
theorem zUP(hi:i<n):gl (n+D) (exE n D x m T i (n+D-1-i))=gl (n+D) (exE n D x m T (i+1) 0):=by
 refine kJ fun k _=>?_
 rw[zHO h,exE]
 by_cases h1:k<i
 ·grind
 ·rw[if_neg h1]
  by_cases h2:k=i
  ·subst h2
   rw[if_pos rfl,if_pos (by omega),exC,if_pos hi];exact kJ fun q hq=>by rw[exG,if_pos hq]
  grind
theorem yEu(hi:i<n){C:List Mx}{w:Int}:zE (zPG T (C,w,(i:Int)) (x.zG.getD i [])) (gl (n+D) (exE n D x m T i 0),((base n i:Nat):Int),0)=jf (gl (n+D) (exE n D x m T i (n-1-i)),((base n (i+1):Nat):Int)):=by
 have h6:=h.hn;have h3:=h.m.d3;have hc:=h.cl i hi;have hb:=zAd n (by omega) i hi;have fx:=wA n (by omega);have:=zO (body:=zPG T (C,w,(i:Int)) (x.zG.getD i [])) (r:=(gl (n+D) (exE n D x m T i (n-1-i)),((base n (i+1):Nat):Int))) (fun j=>(gl (n+D) (exE n D x m T i j),((base n i+j:Nat):Int),((j:Nat):Int))) (n-1-i) (fun j hj=>by
  have a1:=h.ce i j;have a2:=h.tl (base n i+j);have e:exF n x m T i j=(x.zG.getD i []).getD j []++T.getD (base n i+j) []:=if_pos hj;unfold zPG;simp only
  rw[hc,yP hj,zH,yA [],bs,zAD,bs,yA [] (by rw[h.t];omega),bs,zQT,bs,zOO h,zAD,bs,zB,bs,zB,bs,cs,cs,<-e,J8,J8,zQU h];rfl) (by
  unfold zPG;simp only
  rw[hc,tS,zK,zJE n (by omega) i hi])
 exact this
theorem yEv(hi:i<n){C:List Mx}{w:Int}:zE (zPH x (C,w,(i:Int)) (m.zM.getD i [])) (gl (n+D) (exE n D x m T i (n-1-i)),0)=jf (gl (n+D) (exE n D x m T (i+1) 0)):=by
 have h6:=h.hn;have h3:=h.m.d3;have iw:=h.m.mat i hi;have:=zO (body:=zPH x (C,w,(i:Int)) (m.zM.getD i [])) (r:=gl (n+D) (exE n D x m T (i+1) 0)) (fun j=>(gl (n+D) (exE n D x m T i (n-1-i+j)),((j:Nat):Int))) D (fun j hj=>by
  have e:exF n x m T i (n-1-i+j)=J1 n 0++(m.zM.getD i []).getD j []:=by rw[exF,if_neg (by omega),show n-1-i+j-(n-1-i)=j from by omega]
  have hr:=(iw.2 j hj).1;unfold zPH;simp only
  rw[iw.1,yP hj,zH,yA [] (by grind),bs,zAD,bs,h.o,zB,bs,zB,bs,zB,bs,show(0:Int)=((0:Nat):Int)from rfl,zME,bs,
   show(n:Int)-1-(i:Int)+(j:Int)=((n-1-i+j:Nat):Int)from by omega,zOO h,zAD,bs,zB,bs,cs,H0,Jh,<-e,J8,J8,zQU h];rfl) (by
  unfold zPH;simp only
  rw[iw.1,tS,zK,show n-1-i+D=n+D-1-i from by omega,zUP h hi])
 exact this
theorem yEw:zE (zPI x m T) (gl (n+D) (unC (n+D)),((n:Nat):Int),0)=jf (gl (n+D) (exC n D x m T)):=by
 have h6:=h.hn;have h3:=h.m.d3;have fx:=wA n (by omega);have:=zO (body:=zPI x m T) (r:=gl (n+D) (exC n D x m T)) (fun i=>(gl (n+D) (exE n D x m T i 0),((base n i:Nat):Int),((i:Nat):Int))) n (fun i hi=>by
  unfold zPI;simp only
  rw[h.o,yP hi,zH,yA [] (by rw[h.c];exact hi),bs,yEu h hi,bs,yA [] (by rw[h.m.len];exact hi),bs,yEv h hi,bs,zB,bs,cs]) (by
  unfold zPI;simp only
  rw[h.o,tS,zK]
  congr 2
  refine kJ fun k _=>?_
  rw[zHO h,exC]
  grind)
 have e:gl (n+D) (exE n D x m T 0 0)=gl (n+D) (unC (n+D)):=kJ fun k _=>by rw[zHO h,if_neg (by omega)]
 grind
theorem yEx:zE (zPF x T) (gl (n+D) (fun _=>J1 (n+D) 0),0,0)=jf (gl (n+D) (exP n D x T),((n:Nat):Int)):=by
 have h6:=h.hn;have h3:=h.m.d3;have fx:=wA n (by omega);have:=zO (body:=zPF x T) (r:=(gl (n+D) (exP n D x T),((n:Nat):Int))) (fun i=>(gl (n+D) (fun k=>if k<i then exP n D x T k else J1 (n+D) 0),((i:Nat):Int),((i:Nat):Int))) n (fun i hi=>by
  have a1:=h.pl i;have a2:=h.tl i;have e:exP n D x T i=x.zQ.getD i []++T.getD i []:=if_pos hi;unfold zPF;simp only
  rw[h.p,yP hi,zH,yA [] (by rw[h.p];exact hi),bs,yA [] (by rw[h.t];omega),bs,zQT,bs,zAD,bs,zB,bs,bs,cs,<-e,J8,zDV]
  grind) (by
  unfold zPF;simp only
  rw[h.p,tS,zK]
  congr 3
  refine kJ fun k _=>?_
  by_cases hk:k<n
  ·grind
  ·rw[if_neg hk,exP,if_neg hk])
 grind
theorem zYy{v:Int}:f_k [v] m.Dim=jf (J1 D v):=by rw[h.m.d];exact zON (by have:=h.m.d3;omega)
theorem zUQ:f_m x m T=jf (ext n D x m T):=by
 have h6:=h.hn;have h3:=h.m.d3;unfold f_m;rw[jM (by rw[h.o];omega),bs,zYy h,bs,zV (by rw[h.o];simp;omega),bs,zSe (N:=n+D) (by rw[J5,h.o];simp),bs];simp only
 rw[yEx h,bs,yEw h,bs];rfl
end
theorem zOP{b:Nat}(h:∀i,i<xs.length->(xs.getD i []).length<=b)(i:Nat):(xs.getD i []).length<=b:=by grind
theorem zBC{n:Nat}(ho:x.zA.length=n)(hn:n<=6:=by omega):zXa x=jf ((base n n:Nat):Int):=by
 unfold zXa;rw[ho];have key:∀n:Nat,n<7->((rng ((n:Int)-1)).bind fun v1=>(rng ((n:Int)*v1)).bind fun v2=>(vN v2 2).bind fun v3=>(rng ((n:Int)+v3)).bind fun v4=>jf v4)=jf ((base n n:Nat):Int):=by decide+kernel
 grind
theorem zHP{n:Nat}(ho:x.zA.length=n)(hn:n<=6):zXb x=jf ((base n n:Nat):Int):=by
 unfold zXb;rw[ho];have key:∀n:Nat,n<7->((rng ((n:Int)+1)).bind fun v1=>(rng ((n:Int)*v1)).bind fun v2=>(vN v2 2).bind fun v3=>jf v3)=jf ((base n n:Nat):Int):=by decide+kernel
 grind
theorem zUO.ofX{m:zF}{T:Mx}(hx:zAA x)(hm:yBB x.zA.length m D)(ht:T.length=base x.zA.length x.zA.length)(eM:∀i,(T.getD i []).length<=30):zUO x.zA.length D x m T:=by
 have h6:=hx.n6;refine⟨h6,rfl,hx.pl,hx.cl,fun i hi=>by have:=(hx.tl i hi).2.1;omega,zOP fun i hi=>?_,fun i=>?_,ht,eM,hm⟩
 ·have:=(hx.tl i (by rw[<-hx.pl];exact hi)).1.1.1
  omega
 ·rcases Jo i x.zA.length with g|g
  ·refine zOP fun j hj=>?_
   have:=((hx.tl i g).2.2 j hj).1.1;omega
  ·have e:x.zG.getD i []=[]:=by rw[J2,Li (by rw[hx.cl];exact g)];rfl
   grind
theorem zDb(h:xs.length<=100000)(hl:∀i,i<xs.length->(xs.getD i []).length<=1000000):zPM xs=jf xs:=by
 unfold zPM;rw[wI (body:=zNJ xs) xs.length (fun i=>xs.getD i []) (fun i acc hi ha=>by
  unfold zNJ;simp only
  rw[yP hi,zH,yA [] hi,bs,tH (hl i hi),bs,zV (by simp;omega),bs,zB,bs,cs]) (fun acc=>by
  unfold zNJ;simp),bs]
 congr 1
 exact(zUK rfl).symm
theorem zUR{x:zI}(h:S2 x.Rows):zZo x x=jf jh:=by unfold zZo;rw[bne_self_eq_false,zK,bne_self_eq_false,zK,zF6 h,bs,beq_self_eq_true,Kb,zK]
theorem zOQ{v:List Int}(hl:v.length<=1000000)(hk:k<v.length)(h0:∀j,j<k->at0 v j=0)(h1:at0 v k≠0):zSR v=jf (k:Int):=by
 unfold zSR;have:=zO (body:=zGq v) (r:=.inr (k:Int)) (fun i=>(i:Int)) k (fun i hi=>by
  unfold zGq zSQ;rw[yP,zH,yJ,bs,bs,h0 i hi,bne_self_eq_false,zK,zB,bs,cs]) (by
  unfold zGq zSQ;rw[yP hk,zH,yJ hk,bs,bs,zA9 h1,zH])
 grind
section
variable {p:Int} (hp:Prime p) {n:Nat} (hn:n<=100000) {R:Mx}{pv:Nat->Nat} (h:Red p n R pv) {v:List Int} (hv:Row p n v)
 include hp hn h
theorem zMM(hm:R.length<=100000):f_Q R=jf (gl R.length fun i=>(pv i:Int)):=by
 have h7:=hp.pos;unfold f_Q;rw[wI (body:=zIW R) R.length (fun i=>(pv i:Int)) (fun i acc hi ha=>by
  have hr:=h.row i hi;have h1:=h.one i hi;unfold zIW;simp only
  rw[yP hi,zH,yA [] hi,bs,zOQ (k:=pv i) (by rw[hr.1];omega) (by grind) (fun j hj=>h.low i hi j hj) (by grind),bs,zV (by simp;omega),bs,zB,bs,cs]) (fun acc=>by
  unfold zIW;simp),bs]
 include hv
theorem yBF(hi:i<R.length):uR p n (cl p n R pv v i) (0-at0 (cl p n R pv v i) (pv i)) (R.getD i [])=cl p n R pv v (i+1):=by
 have _:=hp;have _:=hn;have _:=h;have _:=hv;have _:=hi;rw[cl];refine zX fun j _=>?_
 generalize at0 (cl p n R pv v i) (pv i)=a
 generalize at0 (R.getD i []) j=b
 rw[Int.sub_mul,Int.sub_mul,qc9];have e:at0 (cl p n R pv v i) j+(p*b-a*b)=at0 (cl p n R pv v i) j+(0-a*b)+p*b:=by omega
 simp_all
theorem zHQ{c:Int}(hm:R.length<=100000):zZn (zI.mk p c R) v=jf (cl p n R pv v R.length):=by
 have h7:=hp.pos;have:=zO (body:=zJY (zI.mk p c R) (gl R.length fun i=>(pv i:Int))) (r:=cl p n R pv v R.length) (fun i=>(cl p n R pv v i,(i:Int))) R.length (fun i hi=>by
  have hr:=zKN hp hn h hv i;have ha:=hr.2 (pv i) (h.lt i hi);unfold zJY;simp only
  rw[wL,yP hi,zH,zAD hi,bs,yA [] hi,bs,yJ (by rw[hr.1];exact h.lt i hi),bs,zB,bs,zBq hp hr (h.row i hi) (by omega) (by omega),bs,zB,bs,cs,yBF hp hn h hv hi]) (by
  unfold zJY;simp)
 unfold zZn;rw[jM (by rw[hv.1];omega),bs];simp only
 rw[zMM hp hn h hm,bs];have e:zE (zJY (zI.mk p c R) (gl R.length fun i=>(pv i:Int))) (v,0)=jf (cl p n R pv v R.length):=this;rw[e,bs]
end
section
variable {p:Int} (hp:1<p) {n:Nat}{R R':Mx}{pv pv':Nat->Nat} (h:Red p n R pv) (h':Red p n R' pv') (hs:∀i,i<R.length->Sp p n R' (R.getD i []))
 include hp h h' hs
theorem Red.lt_of{i2 k2:Nat}(hii:i<i2)(eR:i2<R.length)(hk:k<R'.length)(e:pv' k=pv i)(e2:pv' k2=pv i2):k<k2:=by
 have _:=hp;have _:=hs;have h1:=h.mono i i2 hii eR;refine Classical.byContradiction fun hn=>?_
 rcases Jo k2 k with g|g
 ·have:=h'.mono k2 k g hk;omega
 grind
theorem Red.low_in:∀i,i<R.length-> ∃k,k<R'.length/\pv' k=pv i/\i<=k:=by
 intro i
 induction i with
 |zero=>intro hi;obtain⟨k,hk,e⟩:=h.piv_in hp h' hs hi;grind
 |succ i ih=>
  intro hi;obtain⟨k,hk,e,aV⟩:=ih (by omega);obtain⟨k2,eZ,e2⟩:=h.piv_in hp h' hs hi;have:=h.lt_of hp h' hs (by simp) hi hk e e2
  grind
theorem Red.le_of:R.length<=R'.length:=by
 rcases Jav R.length with g|g
 ·omega
 ·obtain⟨k,hk,_,aV⟩:=h.low_in hp h' hs (R.length-1) (by omega)
  omega
end
theorem zDc{v:List Int}:at0 (u++v) j=if j<u.length then at0 u j else at0 v (j-u.length):=by grind
theorem zHR{v:List Int}:at0 (v.drop c) j=at0 v (c+j):=by simp
theorem zUS{v:List Int}(h:j<c):at0 (v.take c) j=at0 v j:=by grind
theorem zGG{f:Nat->Int}(t:Nat):∀d:Nat,S (t+d) f=S t f+S d (fun i=>f (t+i))
 |0=>by simp[S]
 |d+1=>by rw[<-Ha];simp only[S];rw[zGG t d];omega
theorem yBG{t n:Nat}(ht:t<=n)(h:∀i,i<t->f i=0):S n f=S (n-t) (fun i=>f (t+i)):=by
 have e:n=t+(n-t):=by omega
 conv=>lhs;rw[e,zGG,xV (g:=fun _=>0) h,sX]
 omega
theorem xJ{F:Nat->List Int}(h:i<m:=by omega):(gl m F).getD i []=F i:=by grind
def ur(N i:Nat):List Int:=mkv N fun j=>if j=i then 1 else 0
def wd(N:Nat)(A:Mx):Mx:=gl N fun i=>A.getD i []++ur N i
def Gr(p:Int)(c N:Nat)(A:Mx)(u:List Int):Prop:=∀j,j<c->at0 u j%p=(S N fun k=>at0 u (c+k)*ent A k j)%p
section
variable {p:Int} (hp:1<p) {c N:Nat}{A:Mx} (hA:∀i,i<N->Row p c (A.getD i []))
 include hA
theorem zC7:(wd N A).length=N:=by have _:=hA;exact wL
theorem zKO(hi:i<N)(hj:j<c):ent (wd N A) i j=ent A i j:=by rw[ent,wd,xJ hi,zDc,(hA i hi).1,if_pos hj]
theorem zBs{l:Nat}(hi:i<N)(hl:l<N):ent (wd N A) i (c+l)=if l=i then 1 else 0:=by
 rw[ent,wd,xJ hi,zDc,(hA i hi).1,if_neg (by omega),H4,ur,zW hl]
 include hp
theorem zUT(hi:i<N):Row p (c+N) ((wd N A).getD i []):=by
 refine⟨by rw[wd,xJ hi,J5,(hA i hi).1,ur,zU],fun j hj=>?_⟩;rcases Jo j c with g|g
 ·have:=(hA i hi).2 j g
  have e:=zKO hA hi g
  grind
 ·have e:=zBs hA (l:=j-c) hi (by omega)
  grind
theorem yEy:Sp p (c+N) (wd N A) u↔Gr p c N A u:=by
 have _:=hp;constructor
 ·rintro⟨cf,c8⟩ j hj
  rw[zC7 hA]at c8;rw[<-c8 j (by omega)];refine kH fun k hk=>?_
  have h1:=c8 (c+k) (by omega);rw[kI (k:=k) hk (fun i hi gc=>by rw[zBs hA hi hk,if_neg (Ne.symm gc),Lo]),zBs hA hk hk,if_pos rfl,L8]at h1;rw[zKO hA hk hj,Jz,h1,<-Jz]
 ·intro h
  refine⟨fun k=>at0 u (c+k),fun j hj=>?_⟩;rw[zC7 hA];rcases Jo j c with g|g
  ·rw[h j g]
   refine congrArg (· %p) (xV fun k hk=>?_);rw[zKO hA hk g]
  ·obtain⟨l,rfl⟩:∃l,j=c+l:=⟨j-c,by omega⟩
   rw[kI (k:=l) (by omega) (fun i hi gc=>by rw[zBs hA hi (by omega),if_neg (Ne.symm gc),Lo]),zBs hA (by omega) (by omega),if_pos rfl,L8]
variable {W:Mx}{pv:Nat->Nat} (hW:Red p (c+N) W pv) (hs:qN p (c+N) W (wd N A))
 include hW
theorem yBH:∃t,t<=W.length/\(∀i,i<t->pv i<c)/\ ∀i,t<=i->i<W.length->c<=pv i:=by
 have _:=hA;have _:=hp;obtain⟨t,ht,fc⟩:=zDt (p:=fun t=>W.length<=t\/c<=pv t) ⟨W.length,.inl (Je _)⟩;have gC:∀i,i<t->i<W.length/\pv i<c:=fun i hi=>by have:=fc i hi;exact⟨Jad fun h=>this (.inl h),Jad fun h=>this (.inr h)⟩
 refine⟨t,Nat.le_of_not_lt fun h=>?_,fun i hi=>(gC i hi).2,fun i hi eR=>?_⟩
 ·have:=(gC W.length h).1;omega
 ·rcases ht with h|h
  ·omega
  ·rcases Jo t i with g|g
   ·have:=hW.mono t i g eR;omega
   ·rw[show i=t from by omega];exact h
def nul(c t:Nat)(W:Mx):Mx:=gl (W.length-t) fun i=>(W.getD (t+i) []).drop c
 omit hp hA hW in
theorem zEG{t:Nat}(hi:t+i<W.length:=by omega):ent (nul c t W) i j=ent W (t+i) (c+j):=by rw[ent,nul,xJ,zHR]
variable {t:Nat} (ht:t<=W.length) (h1:∀i,i<t->pv i<c) (h2:∀i,t<=i->i<W.length->c<=pv i)
 include ht h1 h2
theorem zYz:Red p N (nul c t W) (fun i=>pv (t+i)-c):=by
 have _:=hp;have _:=hA;have _:=h1;have _:=ht;have hl:(nul c t W).length=W.length-t:=wL;have ig:∀i,i<W.length-t->c<=pv (t+i):=by grind
 refine⟨fun i hi=>?_,fun i hi=>?_,fun i hi=>?_,fun i hi j hj=>?_,fun i k hi hk gc=>?_,fun i j gI hj=>?_⟩
 ·rw[hl]at hi
  have hr:=hW.row (t+i) (by omega);refine⟨by rw[nul,xJ hi,Kl,hr.1];omega,fun j hj=>?_⟩;have:=hr.2 (c+j) (by omega)
  grind[nul]
 ·rw[hl]at hi
  have:=hW.lt (t+i) (by omega)
  grind
 ·rw[hl]at hi
  rw[zEG,show c+(pv (t+i)-c)=pv (t+i)from by grind];exact hW.one _ (by omega)
 ·rw[hl]at hi
  rw[zEG];exact hW.low _ (by omega) _ (by omega)
 ·rw[hl]at hi hk
  rw[zEG,show c+(pv (t+i)-c)=pv (t+i)from by grind];exact hW.off _ _ (by omega) (by omega) (by omega)
 ·rw[hl]at hj
  have:=hW.mono (t+i) (t+j) (by omega) (by omega)
  grind
 include hs
theorem yEz:Sp p (c+N) W u↔Gr p c N A u:=by have _:=hW;have _:=ht;have _:=h1;have _:=h2;exact hs.iff.trans (yEy hp hA)
theorem yBI{x:List Int}:Sp p N (nul c t W) x↔ ∀j,j<c->(S N fun k=>at0 x k*ent A k j)%p=0:=by
 have hl:(nul c t W).length=W.length-t:=wL;constructor
 ·rintro⟨cf,c8⟩ j hj
  rw[hl]at c8;have e1:(S N fun k=>at0 x k*ent A k j)%p=(S N fun k=>(S (W.length-t) fun i=>cf i*ent (nul c t W) i k)*ent A k j)%p:=by grind[kH,Jz]
  have e2:(S N fun k=>(S (W.length-t) fun i=>cf i*ent (nul c t W) i k)*ent A k j)=S (W.length-t) fun i=>cf i*S N fun k=>ent W (t+i) (c+k)*ent A k j:=by
   rw[xV (g:=fun k=>S (W.length-t) fun i=>cf i*(ent W (t+i) (c+k)*ent A k j)) (fun k hk=>by rw[<-zM4];exact xV (by grind[zEG])),zHH]
   grind[zC3]
  have e3:(S (W.length-t) fun i=>cf i*S N fun k=>ent W (t+i) (c+k)*ent A k j)%p=(S (W.length-t) fun _=>0)%p:=kH fun i hi=>by have h:=(yEz hp hA hW hs ht h1 h2).1 (uN (p:=p) (n:=c+N) (R:=W) (i:=t+i)) j hj;have hz:=hW.low (t+i) (by omega) j (by grind);simp only[ent]at hz;rw[hz]at h;rw[Jz,show(S N fun k=>ent W (t+i) (c+k)*ent A k j)%p=0 from h.symm,Lo]
  rw[e1,e2,e3,sX];rfl
 ·intro h0
  let u:List Int:=mkv (c+N) fun j=>if j<c then 0 else at0 x (j-c)
  have cv:∀j,j<c->at0 u j=0:=fun j hj=>by rw[zW,if_pos hj]
  have p7:∀k,k<N->at0 u (c+k)=at0 x k:=fun k hk=>by rw[zW,if_neg (by omega),H4]
  have hg:Gr p c N A u:=fun j hj=>by rw[cv j hj,xV (g:=fun k=>at0 x k*ent A k j) (by grind),h0 j hj];rfl
  have hx:=hW.expand ((yEz hp hA hW hs ht h1 h2).2 hg);refine⟨fun i=>at0 u (pv (t+i)),fun j hj=>?_⟩;have h3:=hx (c+j) (by omega);rw[p7 j hj,yBG ht (by grind)]at h3;rw[hl,h3];exact congrArg (· %p) (xV (by grind[zEG]))
end
def yBJ(u:zI):Prop:=Prime u.Prime/\ ∃C:Nat,C<=8/\u.xF=(C:Int)/\u.Rows.length<=8/\ ∀i,i<u.Rows.length->Row u.Prime C (u.Rows.getD i [])
theorem zSf{u:zI}:IsB (zYZ u) (yBJ u):=by
 unfold zYZ;rcases zDO u.Prime with⟨h1,h2⟩|⟨h1,h2⟩
 ·rw[h1,bs,Kb,zK]
  rcases zA8 u.xF 0 8 with⟨h3,h4⟩|⟨h3,h4⟩
  ·obtain⟨C,hC⟩:∃C:Nat,u.xF=(C:Int):=⟨u.xF.toNat,by omega⟩
   rw[h3,bs,Kb,zK]
   by_cases hl:u.Rows.length<=8
   ·rw[jj (by omega),zK]
    refine(zAt (body:=zN2 u) u.Rows.length (fun i=>Row u.Prime C (u.Rows.getD i [])) rfl (fun i hi _=>?_) ?_).iff ⟨fun g=>⟨h2,C,by omega,hC,hl,g⟩,fun⟨_,C',_,e,_,g⟩=>by grind⟩
    ·refine qT (zMC h2 (D:=C)) (by omega) ?_
     unfold zN2;rw[yP hi,zH,yA [] hi,bs,hC]
    ·unfold zN2
     simp
   ·rw[jk,zH]
    exact .inr ⟨rfl,fun⟨_,_,_,_,g,_⟩=>hl g⟩
  ·rw[h3,bs,Ky,zH]
   exact .inr ⟨rfl,fun⟨_,C,g1,g2,_⟩=>h4 (by omega)⟩
 ·rw[h1,bs,Ky,zH]
  exact .inr ⟨rfl,fun g=>h2 g.1⟩
theorem zSg{u:zI}:IsB (zZk u) (yBJ u):=by
 unfold zZk;rcases zHC u.Prime with⟨h1,h2⟩|⟨h1,h2⟩
 ·rw[h1,bs,Kb,zK]
  rcases zCv u.xF 0 8 with⟨h3,h4⟩|⟨h3,h4⟩
  ·obtain⟨C,hC⟩:∃C:Nat,u.xF=(C:Int):=⟨u.xF.toNat,by omega⟩
   rw[h3,bs,Kb,zK]
   by_cases hl:u.Rows.length<=8
   ·rw[jj (by omega),zK]
    refine(zAt (body:=zNI u) u.Rows.length (fun i=>Row u.Prime C (u.Rows.getD i [])) rfl (fun i hi _=>?_) ?_).iff ⟨fun g=>⟨h2,C,by omega,hC,hl,g⟩,fun⟨_,C',_,e,_,g⟩=>by grind⟩
    ·refine qT (zMD h2 (D:=C)) (by omega) ?_
     unfold zNI;rw[yP hi,zH,yA [] hi,bs,hC]
    ·unfold zNI
     simp
   ·rw[jk,zH]
    exact .inr ⟨rfl,fun⟨_,_,_,_,g,_⟩=>hl g⟩
  ·rw[h3,bs,Ky,zH]
   exact .inr ⟨rfl,fun⟨_,C,g1,g2,_⟩=>h4 (by omega)⟩
 ·rw[h1,bs,Ky,zH]
  exact .inr ⟨rfl,fun g=>h2 g.1⟩
def zY0(u:zI):Prop:=Prime u.Prime/\ ∃(C:Nat)(pv:Nat->Nat),C<=8/\u.xF=(C:Int)/\Red u.Prime C u.Rows pv
theorem zY0.mx{u:zI}(h:zY0 u):yBJ u:=by obtain⟨h1,C,pv,h2,h3,h4⟩:=h;exact⟨h1,C,h2,h3,by have:=h4.len_le;omega,h4.row⟩
theorem Row.len{p:Int}{n:Nat}{R:Mx}(h:∀i,i<R.length->Row p n (R.getD i [])):∀r∈R,r.length=n:=fun r hr=>by
 obtain⟨i,hi,rfl⟩:=Ld.1 hr;have:=(h i hi).1
 grind
theorem zIK{u:zI}:IsB (zZm u) (zY0 u):=by
 unfold zZm;rcases zSf (u:=u)with⟨h1,h2⟩|⟨h1,h2⟩
 ·obtain⟨g1,C,g2,g3,g4,g5⟩:=h2
  obtain⟨R,pv,r1,r2,r3,r4⟩:=uW g1 (n:=C) (by omega) (rows:=u.Rows) (by omega) g5;have hRl:R.length<=C:=r3.len_le;rw[h1,bs,zH];unfold yC6 zPN;rw[r2];simp only[bs];rw[zD0 (by omega) (fun r hr=>by rw[Row.len r3.row r hr];omega)];simp only[bs];refine IsB.of_bool ⟨fun e=>?_,fun⟨_,C',pv',_,e2,e3⟩=>?_⟩
  ·have e:R=u.Rows:=by grind
   exact⟨g1,C,pv,g2,g3,e▸r3⟩
  ·obtain rfl:C'=C:=by omega
   have:=g1.pos;have:=r3.unique (by omega) e3 r4;simp[this]
 ·rw[h1,bs,zK]
  exact .inr ⟨rfl,fun g=>h2 g.mx⟩
theorem zIL{u:zI}:IsB (zZl u) (zY0 u):=by
 unfold zZl;rcases zSg (u:=u)with⟨h1,h2⟩|⟨h1,h2⟩
 ·obtain⟨g1,C,g2,g3,g4,g5⟩:=h2
  obtain⟨R,pv,r1,r2,r3,r4⟩:=uW g1 (n:=C) (by omega) (rows:=u.Rows) (by omega) g5;have hRl:R.length<=C:=r3.len_le;rw[h1,bs,zH,r1];simp only[bs];rw[zOE (by omega) (fun r hr=>by rw[Row.len r3.row r hr];omega)];simp only[bs];refine IsB.of_bool ⟨fun e=>?_,fun⟨_,C',pv',_,e2,e3⟩=>?_⟩
  ·have e:R=u.Rows:=by grind
   exact⟨g1,C,pv,g2,g3,e▸r3⟩
  ·obtain rfl:C'=C:=by omega
   have:=g1.pos;have:=r3.unique (by omega) e3 r4;simp[this]
 ·rw[h1,bs,zK]
  exact .inr ⟨rfl,fun g=>h2 g.mx⟩
theorem zKP{v:List Int}(hl:v.length<=1000000:=by omega):IsB (zWy v) (∀i,i<v.length->at0 v i=0):=by
 refine zAt v.length (fun i=>at0 v i=0) rfl (fun i hi _=>?_) ?_
 ·refine qT (o:=jf (at0 v i==0)) (IsB.of_bool (by simp)) (by omega) ?_
  unfold zJU;rw[yP hi,zH,yJ hi,bs,bs];rfl
 ·unfold zJU
  simp
def zY1(x:zI):Prop:=VI x.Prime/\VI x.xF/\VL (VL VI) x.Rows
theorem zUU{x:zI}{b:Int}(h:zY1 x)(b0:0<=b)(b1:b<=1048576):zZj x b=jf (szR (c2 x.Rows) b):=by
 unfold zZj;rw[zF4 h.2.2 b0 b1,bs]
 by_cases g:szR (c2 x.Rows) b<0
 ·rw[jk g,zH]
  unfold szR at g ⊢
  grind
 grind
theorem zUV{x:zI}(h:S2 x.Rows):zSP x=jf x:=by unfold zSP;rw[zF5 h,bs]
structure Nul (p:Int) (c N:Nat) (A W:Mx) (pv:Nat->Nat) (t:Nat):Prop where
 row:∀i,i<N->Row p c (A.getD i [])
 len:A.length=N
 red:Red p (c+N) W pv
 sp:qN p (c+N) W (wd N A)
 le:t<=W.length
 lo:∀i,i<t->pv i<c
 hi:∀i,t<=i->i<W.length->c<=pv i
section
variable {p:Int} (hp:Prime p) {c N:Nat} (fA:c+N<=100000) {A W:Mx}{pv:Nat->Nat}{t:Nat}
 include hp fA
theorem Nul.get(hr:∀i,i<N->Row p c (A.getD i []))(hl:A.length=N):∃W pv t,Nul p c N A W pv t/\f_q p (wd N A)=jf W/\f_i p (wd N A)=jf W:=by have h7:=hp.pos;obtain⟨W,pv,r1,r2,r3,r4⟩:=uW hp (n:=c+N) fA (rows:=wd N A) (by rw[zC7 hr];omega) (fun i hi=>zUT (by omega) hr (by rwa [zC7 hr]at hi));obtain⟨t,t1,t2,t3⟩:=yBH (by omega) hr r3;exact⟨W,pv,t,⟨hr,hl,r3,r4,t1,t2,t3⟩,r1,r2⟩
variable (h:Nul p c N A W pv t)
 include h
theorem Nul.nred:Red p N (nul c t W) (fun i=>pv (t+i)-c):=by have _:=fA;have h7:=hp.pos;exact zYz (by omega) h.row h.red h.le h.lo h.hi
theorem Nul.nsp{x:List Int}:Sp p N (nul c t W) x↔ ∀j,j<c->(S N fun k=>at0 x k*ent A k j)%p=0:=by have _:=fA;have h7:=hp.pos;exact yBI (by omega) h.row h.red h.sp h.le h.lo h.hi
theorem Nul.full:W.length=N:=by
 have h7:=hp.pos;have g1:W.length<=(wd N A).length:=zHN hp (n:=c+N) fA (by rw[zC7 h.row];omega) (fun i hi=>zUT (by omega) h.row (by rwa [zC7 h.row]at hi)) h.red h.sp;rw[zC7 h.row]at g1;have hl:(gl W.length fun i=>(W.getD i []).drop c).length=W.length:=wL;have hR:∀i,i<W.length->Row p N ((gl W.length fun i=>(W.getD i []).drop c).getD i []):=fun i hi=>by have hr:=h.red.row i hi;rw[xJ hi];refine⟨by rw[Kl,hr.1];omega,fun j hj=>?_⟩;rw[zHR];exact hr.2 (c+j) (by omega)
 obtain⟨R3,pv3,_,_,g3,g4⟩:=uW hp (n:=N) (by omega) (rows:=gl W.length fun i=>(W.getD i []).drop c) (by omega) (by grind);have g5:=zHN hp (n:=N) (by omega) (by omega) (by grind) g3 g4;have gU:(gl N (ur N)).length=N:=wL;have iO:∀i j,i<N->j<N->ent (gl N (ur N)) i j=if j=i then 1 else 0:=fun i j hi hj=>by rw[ent,xJ hi,ur,zW hj]
 have eG:Red p N (gl N (ur N)) (fun i=>i):=by
  refine⟨fun i hi=>?_,fun i hi=>by omega,fun i hi=>?_,fun i hi j hj=>?_,by grind,fun i j gI hj=>gI⟩
  ·rw[gU]at hi
   rw[xJ hi];refine⟨zU _ _,fun j hj=>?_⟩
   grind
  all_goals grind
 have g6:=eG.le_of (by omega) g3 (fun i hi=>by rw[gU]at hi;refine g4.iff.2 ?_;obtain⟨cf,c8⟩:=h.sp.2 i (by rw[zC7 h.row];exact hi);refine⟨cf,fun j hj=>?_⟩;have h1:=c8 (c+j) (by omega);have h2:=zBs h.row hi hj;simp only[ent]at h2;rw[h2]at h1;have h3:=iO i j hi hj;simp only[ent]at h3;rw[h3,hl,<-h1];exact congrArg (· %p) (xV (by grind)))
 omega
 omit h in
theorem zOR{N:Nat}(hN:N<=100000):f_v (N:Int)=jf (gl N (ur N)):=by
  have _:=hp;have _:=fA;unfold f_v;rw[wI (body:=zFj (N:Int)) N (ur N) (fun i acc hi ha=>by
    unfold zFj;simp only
    rw[yP hi,zH,yI,bs,vH,K4,if_pos hi,bs,J8,uD,sP,zV (by simp;omega),bs,zB,bs,cs];rfl) (fun acc=>by
    unfold zFj;simp),bs]
 omit h in
theorem zSh(hr:∀i,i<N->Row p c (A.getD i []))(hl:A.length=N):zZf p A=f_q p (wd N A):=by
  unfold zZf;rw[hl,zOR hp fA (by omega),bs,wI (body:=zND A (gl N (ur N))) N (fun i=>A.getD i []++ur N i) (fun i acc hi ha=>by
    unfold zND;simp only
    rw[hl,yP hi,zH,yA [],bs,tH (by rw[(hr i hi).1];omega),bs,zAD hi,bs,zV (by rw[(hr i hi).1,ur,zU];omega),bs,zV (by simp;omega),bs,zB,bs,cs]) (fun acc=>by
    unfold zND
    grind),bs]
  grind[wd]
theorem zSi:zE (zJW (c:Int) W) ([],0)=jf (nul c t W):=by
 have hf:=h.full hp fA;have fd:=h.le;have:=zO (body:=zJW (c:Int) W) (r:=nul c t W) (fun i=>(gl (i-t) (fun k=>(W.getD (t+k) []).drop c),(i:Int))) W.length (fun i hi=>by
  have hr:=h.red.row i hi;have h1:=h.red.one i hi;have gC:=h.red.lt i hi;have aR:=zKM (n:=c+N) hr.1 (by omega) gC (h.red.low i hi) (by grind);unfold zJW;simp only
  rw[yP hi,zH,yA [] hi,bs,aR,bs];rcases Jo i t with g|g
  ·have:=h.lo i g
   rw[jj (by omega),zK,zB,bs,cs,show i-t=0 from by omega,show i+1-t=0 from by omega]
  ·have:=h.hi i g hi
   have e:zS (W.getD i []) (c:Int) ((W.getD i []).length:Int)=jf ((W.getD i []).drop c):=by unfold zS;rw[if_pos (by grind),J8,J8,Jx (by rw[Kl];omega)]
   rw[jk,zH,bs,e,bs,tH (by rw[Kl,hr.1];omega),bs,zV (by rw[wL];simp;omega),bs,zB,bs,cs,show i+1-t=(i-t)+1 from by omega,<-zAE,show t+(i-t)=i from by omega]) (by
  unfold zJW;simp only
  rw[tS,zK];rfl)
 grind
end
theorem zQV{β:Type}{n:Nat}{F:Nat->β}:gl (n+1) F=gl n F++[F n]:=zAE.symm
theorem zQW{β:Type}{L:Nat}{F:Nat->List β}:∀{n:Nat},(∀i,i<n->(F i).length=L)->(gl n F).flatten.length=n*L
 |0,_=>by simp[gl]
 |n+1,h=>by
  rw[zQV,Jba,J5,zQW fun i hi=>h i (by omega),K8]
  grind
theorem zUW{body:List β×Int->Option ((List β×Int)⊕List β)}(n L:Nat)(F:Nat->List β)(a0:List β)(hF:∀i,i<n->(F i).length=L)
  (h:∀i acc,i<n->acc.length=a0.length+i*L->body (acc,(i:Int))=jf (.inl (acc++F i,((i+1:Nat):Int))))(he:∀acc,body (acc,(n:Int))=jf (.inr acc)):
  zE body (a0,0)=jf (a0++(gl n F).flatten):=by
 have:=zO (body:=body) (r:=a0++(gl n F).flatten) (fun i=>(a0++(gl i F).flatten,(i:Int))) n (fun i hi=>by rw[h i _ hi (by grind[zQW]),zQV,Jba,Jg];simp) (he _)
 grind
theorem zEH{α:Type}{f:α->α}{a:α}(h:f a=a):∀k,iter k f a=a
 |0=>rfl
 |k+1=>by show iter k f (f a)=a;rw[h];exact zEH h k
theorem zFI{x:SPr}(h:Pres x):∀(d k:Nat),k+d=x.zA.length->xC (suf x k)-> ∀m,d+1<=m-> ∀v,V (suf x k) v-> ∃w,V (suf x k) w/\mul (suf x k) v w=zeros (suf x k).length/\zPC m x k (fv k v)=jf (fv k w)
 |0,k,hk,_,m,hm,v,hv=>by
  have h6:=h.os.1;obtain⟨m,rfl⟩:∃m',m=m'+1:=⟨m-1,by omega⟩;rw[vO]at hv ⊢
  obtain rfl:v=[]:=hv;refine⟨[],rfl,rfl,?_⟩;show b_j _ x k _=_;unfold b_j;rw[jk,zH,yI,bs]
  simp_all[zeros]
 |d+1,k,mL,hc,m,hm,v,hv=>by
  have h6:=h.os.1;obtain⟨m,rfl⟩:∃m',m=m'+1:=⟨m-1,by omega⟩;have hk:k<x.zA.length:=by omega
  have eh:=(h.os.2 k hk).pos;have hcQ:xC (suf x (k+1)):=zCy hc 1;have ih:=zFI h d (k+1) (by omega) hcQ m (by omega);have G:=zCz h (by omega) hc;have GQ:=zCz h (by omega) hcQ;have okP:=h.okAt (k:=k) (by omega);have okQ:=h.okAt (k:=k+1) (by omega);have fT:=zAQ h (by omega) hv;have cy:=yC x (k+1);obtain⟨w1,w2⟩:=zYt h hk;rw[zY hk]at hv G okP;obtain⟨a,r,rfl⟩:∃a r,v=a::r:=by
   cases v with
   |nil=>exact hv.elim
   |cons a r=>simp
  have fQ:(lvl x k).o=at0 x.zA k:=rfl;obtain⟨⟨a0,a1⟩,hr⟩:=hv;rw[fQ]at a1;obtain⟨r',ta,hmr,mj⟩:=ih r hr;have hz:V (suf x (k+1)) (zeros (suf x (k+1)).length):=wD okQ;have hzc:zeros (lvl x k::suf x (k+1)).length=0::zeros (suf x (k+1)).length:=rfl;have tx:∀(c:Int)(u:Vec),0<=c->c<at0 x.zA k->V (suf x (k+1)) u->V (lvl x k::suf x (k+1)) (c::u):=fun c u h0 h1 hu=>⟨⟨h0,h1⟩,hu⟩
  have e2:mul (lvl x k::suf x (k+1)) (0::r) (0::r')=zeros (lvl x k::suf x (k+1)).length:=by
   rw[yK,fQ,if_neg (by omega),hzc]
   grind[iter]
  show∃w,_/\_/\b_j (zPC m) x k (fv k (a::r))=jf (fv k w);unfold b_j;rw[jj (by omega),zK,tH,bs,zBT,bs,zB,bs,cs,J8,zBS,jJ,show zeros (k+1)++r=fv (k+1) r from rfl,mj,bs,bs];rw[zY hk]
  by_cases ha:a=0
  ·subst ha
   rw[show((0:Int)==0)=jh from rfl,zH];exact⟨0::r',by grind,e2,by rw[fv,<-jJ]⟩
  ·rw[show(a==0)=ji from by grind,zK,yI,bs,yJ hk,bs,bs,zB,bs,vH,K4,if_pos hk,bs]
   have ma:(J1 x.zA.length (0:Int)).set k (at0 x.zA k-a)=zeros k++(at0 x.zA k-a)::zeros (suf x (k+1)).length:=by
    have e:J1 x.zA.length (0:Int)=zeros k++0::zeros (x.zA.length-(k+1)):=by simp only[zeros];rw[<-Jv,Jn];congr 1;omega
    grind[zBS]
   obtain⟨w',ek,hmw,hfw⟩:=ih (lvl x k).w w2;have hA:=tx a _ a0 a1 hz;have hR:=tx 0 r (by omega) (by omega) hr;have dF:=tx 0 r' (by omega) (by omega) ta;have hT:=tx (at0 x.zA k-a) _ (by omega) (by omega) hz;have hW:=tx 0 (lvl x k).w (by omega) (by omega) w2;have bJ:=tx 0 w' (by omega) (by omega) ek;have gr:sig (suf x (k+1)) (lvl x k) (zeros (suf x (k+1)).length)=zeros (suf x (k+1)).length:=by grind[sig,tN]
   have e1:mul (lvl x k::suf x (k+1)) (a::zeros (suf x (k+1)).length) (0::r)=a::r:=by rw[yK,fQ,if_neg (by omega),show iter (0:Int).toNat (sig (suf x (k+1)) (lvl x k)) (zeros (suf x (k+1)).length)=zeros (suf x (k+1)).length from rfl,GQ.onel hr,L9]
   have e3:mul (lvl x k::suf x (k+1)) (a::zeros (suf x (k+1)).length) ((at0 x.zA k-a)::zeros (suf x (k+1)).length)=0::(lvl x k).w:=by
    rw[yK,fQ,if_pos (by omega),zEH gr,GQ.oner hz,GQ.oner w2]
    grind
   have e4:mul (lvl x k::suf x (k+1)) (0::(lvl x k).w) (0::w')=zeros (lvl x k::suf x (k+1)).length:=by
    rw[yK,fQ,if_neg (by omega),hzc]
    grind[iter]
   have j9:=G.cl dF hT;have dh:=G.cl j9 bJ;have spA:=zE8 h (k:=k) (by omega);rw[ma,show fv (k+1) r'=zeros k++0::r' from by rw[jJ],spA _ _ (by grind[zY]) (by grind[zY]),bs,bs,w1,bs,hfw,bs,show fv (k+1) w'=zeros k++0::w' from by rw[jJ],zY hk];have:=spA _ _ (by rw[zY hk];exact j9) (by rw[zY hk];exact bJ);rw[zY hk]at this;rw[this,bs];refine⟨_,dh,?_,rfl⟩;rw[<-e1,G.assoc hA hR dh,<-G.assoc hR j9 bJ,<-G.assoc hR dF hT,e2,G.onel hT,<-G.assoc hA hT bJ,e3,e4]
theorem zHS(h:Pres x)(hc:xC (suf x 0)){v:Vec}(hv:V (suf x 0) v):∃w,V (suf x 0) w/\mul (suf x 0) v w=zeros (suf x 0).length/\zSF x v=jf w:=by obtain⟨w,h1,h2,_⟩:=zFI h x.zA.length 0 (by omega) hc (x.zA.length+1) (by omega) v hv;refine⟨w,h1,h2,?_⟩;unfold zSF f_j;rw[zAr (r:=w) (x.zA.length+1) fun m hm=>?_,bs];obtain⟨w',g1,g2,g3⟩:=zFI h x.zA.length 0 (by omega) hc m hm v hv;have G:=zCz h (by omega) hc;have e:w=w':=G.cancel_l hv h1 g1 (by rw[h2,g2]);rw[e];exact g3
theorem zUX{p:Int}{D:Nat}{A:List Mx}:∀(v:Vec)(o:Nat)(B:Mx),o+v.length<=A.length->wM p D A (nw o v) B=img (PM p D) (A.drop o) v B
 | [],o,B,_=>by simp[nw,wM,img]
 |a::v,o,B,h=>by
  simp only[J7]at h;have e:A.drop o=A.getD o []::A.drop (o+1):=by grind[Hq]
  rw[e];simp only[nw,img];rw[zFE,zOD,zUX v (o+1) _ (by omega)]
theorem zC8:∀(k o:Nat),nw o (zeros k)=[]
 |0,_=>rfl
 |k+1,o=>by rw[show zeros (k+1)=0::zeros k from rfl];simp only[nw];rw[zC8 k];rfl
section
variable {x:SPr}{m:zF}{D:Nat} (h:Pres x) (hm:zUJ x.zA.length m D) (hr:zFF x m D)
 include hm
 include h hr
theorem zQX:∀(d k:Nat),k+d=x.zA.length->Rel (PM m.Prime D) (idM D) (suf x k) (m.zM.drop k)
 |0,k,hk=>by rw[vO,Uo (by rw[hm.len];omega)];exact rfl
 |d+1,k,mL=>by
  have h6:=h.os.1;have hk:k<x.zA.length:=by omega
  have gf:=hm.len;have e:m.zM.drop k=m.zM.getD k []::m.zM.drop (k+1):=by simp_all
  obtain⟨t1,t2,t3⟩:=h.tl k hk;obtain⟨r1,r2⟩:=hr k hk;have ag:∀v,Exp x.zA v k->wM m.Prime D m.zM (nw 0 v) (idM D)=img (PM m.Prime D) (m.zM.drop (k+1)) (v.drop (k+1)) (idM D):=fun v hv=>by
   have hl:=hv.1.1
   conv=>lhs;rw[zAg hv hk]
   rw[zCY,zC8,K0,zT,zUX _ _ _ (by grind),Ji]
  rw[zY hk,e];refine⟨?_,fun q c dd hc hd=>?_,zQX d (k+1) (by omega)⟩
  ·grind[pw,lvl,zOD]
  ·rw[Ly]at hc
   have hq:k+1+q<m.zM.length:=by grind
   have bB:c=m.zM.getD (k+1+q) []:=by grind
   have pN:dd=((x.zG.getD k []).getD q []).drop (k+1):=by grind[lvl]
   have:=r2 (k+1+q) (by omega) (by omega);rw[show k+1+q-(k+1)=q from by omega]at this;rw[bB,pN,this,ag _ (t3 q (by omega))]
end
theorem zEI{p:Int}(fA:c+N<=100000)(hr:∀i,i<N->Row p c (A.getD i []))(hl:A.length=N):zZd A=jf (wd N A):=by
 unfold zZd;rw[wI (body:=zN7 A) N (fun i=>A.getD i []++ur N i) (fun i acc hi ha=>by
  have h1:=(hr i hi).1;have e:wQ (J1 (c+N) (0:Int)) 0 ((A.getD i []).take (((J1 (c+N) (0:Int)).length)-0))=A.getD i []++J1 N 0:=by unfold wQ;rw[Jl,Jx (l:=A.getD i []) (by omega),Kd,K0,h1,Lm];simp
  have e2:ixO (A.getD i []++J1 N (0:Int)) ((c+i:Nat):Int)=jf 0:=by rw[vH,Jk (by omega),h1,K4,if_pos (by omega)]
  unfold zN7;simp only
  rw[hl,yP hi,zH,yA [],bs,h1,<-Hn,zB,bs,yI,bs,<-Hn,zB,bs,e,e2,bs,J8,U6 _ _ (by omega),h1,H4,uD,sP,zV (by simp;omega),bs,zB,bs,cs];rfl) (fun acc=>by
  unfold zN7
  grind),bs]
 rfl
theorem zMN{p:Int}(hp:Prime p){n:Nat}(hn:n<=100000){R:Mx}(h:Red p n R pv):f_q p R=jf R/\f_i p R=jf R:=by
 have h7:=hp.pos;have hl:R.length<=n:=h.len_le;obtain⟨R2,pv2,r1,r2,r3,r4⟩:=uW hp hn (rows:=R) (by omega) h.row;have e:=r3.unique (by omega) h r4
 grind
section
variable {p:Int} (hp:Prime p) {c N:Nat} (fA:c+N<=100000) {A W:Mx}{pv:Nat->Nat}{t:Nat}
 include hp fA
theorem zMO(h:Nul p c N A W pv t):zE (zSS (c:Int) W) ([],0)=jf (nul c t W):=by
 have h7:=hp.pos;have hf:=h.full hp fA;have fd:=h.le;have:=zO (body:=zSS (c:Int) W) (r:=nul c t W) (fun i=>(gl (i-t) (fun k=>(W.getD (t+k) []).drop c),(i:Int))) W.length (fun i hi=>by
  have hr:=h.red.row i hi;have h1:=h.red.one i hi;have e0:zS (W.getD i []) 0 (c:Int)=jf ((W.getD i []).take c):=by unfold zS;rw[if_pos ⟨by omega,by omega,by rw[hr.1];omega⟩,J8,show(0:Int).toNat=0 from rfl,Uf,Nat.sub_zero]
  have eM:((W.getD i []).take c).length=c:=by rw[Ke,hr.1];omega
  have hz:=zKP (v:=(W.getD i []).take c);unfold zSS;simp only
  rw[yP hi,zH,yA [] hi,bs,e0,bs];rcases Jo i t with g|g
  ·have eK:=h.lo i g
   rcases hz with⟨_,z⟩|⟨z,_⟩
   ·grind
   ·rw[z,bs,zK,zB,bs,cs,show i-t=0 from by omega,show i+1-t=0 from by omega]
  ·have fy:=h.hi i g hi
   have e:zS (W.getD i []) (c:Int) ((W.getD i []).length:Int)=jf ((W.getD i []).drop c):=by unfold zS;rw[if_pos (by grind),J8,J8,Jx (by rw[Kl];omega)]
   rcases hz with⟨z,_⟩|⟨_,z⟩
   ·rw[z,bs,zH,e,bs,zV (by grind),bs,zB,bs,cs,show i+1-t=(i-t)+1 from by omega,<-zAE,show t+(i-t)=i from by omega]
   ·refine absurd (fun j hj=>?_) z
    rw[eM]at hj;rw[zUS hj];have:=h.red.low i hi j (by omega);omega) (by
  unfold zSS;simp only
  rw[tS,zK];rfl)
 grind
theorem zFJ(hr:∀i,i<N->Row p c (A.getD i []))(hl:A.length=N):∃K pk,zZg p A (c:Int)=jf K/\f_Z p A (c:Int)=jf K/\Red p N K pk/\ ∀x,Sp p N K x↔ ∀j,j<c->(S N fun k=>at0 x k*ent A k j)%p=0:=by
 obtain⟨W,pv,t,h1,h2,h3⟩:=Nul.get hp fA hr hl;refine⟨nul c t W,_,?_,?_,h1.nred hp fA,fun x=>h1.nsp hp fA⟩
 ·grind[zZg,zSh,zSi]
 ·unfold f_Z
  rw[zEI fA hr hl,bs,h3,bs,zMO hp fA h1,bs,(zMN hp (by omega) (h1.nred hp fA)).2,bs]
end
section
variable {x:SPr} (h:Pres x)
 include h
theorem zUY:∀k,k<=x.zA.length->2*((Jd k).flatMap (R2 x)).length+k*k+k=2*(x.zA.length*k)
 |0,_=>by simp
 |k+1,hk=>by
  have ih:=zUY k (by omega);have t2:=(h.tl k (by omega)).2.1;have e:((Jd (k+1)).flatMap (R2 x)).length=((Jd k).flatMap (R2 x)).length+(x.zG.getD k []).length:=by grind[Kt,R2]
  grind
theorem zSj:2*(wN x).length=x.zA.length*(x.zA.length+1):=by
 have:=zUY h x.zA.length (Je _)
 grind[wN]
end
theorem zMP{α:Type}{F:α->List Int}{D c:Nat}(hc:c<D):∀(L:List α)(a:Nat)(q:α),(∀q∈L,(F q).length=D)->L[a]? =jf q->at0 ((L.map F).flatten) (a*D+c)=at0 (F q) c
 | [],a,q,_,h=>by simp at h
 |y::L,0,q,hF,h=>by grind
 |y::L,a+1,q,hF,h=>by have h1:=hF y (by simp);simp only[Jb9]at h;rw[Ju,Hr,zDc,K8,if_neg (by omega),show a*D+D+c-(F y).length=a*D+c from by omega];exact zMP hc L a q (by grind) h
theorem zFK{α:Type}{F:α->List Int}{D:Nat}:∀(L:List α),(∀q∈L,(F q).length=D)->((L.map F).flatten).length=L.length*D
 | [],_=>by simp
 |y::L,h=>by
  have:=zFK L fun q hq=>h q (by simp[hq])
  grind
def zJG{α:Type}(N:Nat)(F:Nat->α->List Int)(L:List α):Mx:=gl N fun k=>(L.map (F k)).flatten
section
variable {α:Type}{p:Int}{N D:Nat}{F:Nat->α->List Int} (hF:∀k,k<N-> ∀q,Row p D (F k q))
 include hF
theorem zFL(L:List α):∀k,k<N->Row p (L.length*D) ((zJG N F L).getD k []):=by
 intro k hk;rw[zJG,xJ hk];refine zQS.2 ⟨zFK L fun q _=>(hF k hk q).1,fun v hv=>?_⟩;obtain⟨r,h1,h2⟩:=List.mem_flatten.1 hv;obtain⟨q,_,rfl⟩:=Jc.1 h1
 grind[zQS]
end
def zGz(n D:Nat)(v:List Int):Mx:=gl n fun i=>mkv D fun j=>at0 v (i*D+j)
theorem zUZ{v:List Int}(h:a+D<=v.length):(v.drop a).take D=mkv D fun j=>at0 v (a+j):=by
 have hl:((v.drop a).take D).length=D:=by grind
 rw[vJ hl]
 grind[zX]
theorem zFM{v:List Int}(h:a+D<=v.length:=by omega):zS v (a:Int) ((a+D:Nat):Int)=jf (mkv D fun j=>at0 v (a+j)):=by unfold zS;rw[if_pos (by omega),J8,J8,H4,zUZ h]
theorem yBK{p:Int}{n:Nat}{v:List Int}(hv:Row p (n*D) v):VOk n p D (zGz n D v):=by
 refine⟨wL,fun i hi=>?_⟩;rw[zGz,xJ hi];refine⟨zU _ _,fun j hj=>?_⟩;rw[zW hj];have:i*D+D<=n*D:=by
  have:=Kc D (show i+1<=n by omega)
  grind
 exact hv.2 _ (by omega)
theorem zQY{n:Nat}(hi:i<n):i*D+D<=n*D:=by
 have:=Kc D (show i+1<=n by omega)
 grind
theorem zHT{n:Nat}(hD:1<=D){v:List Int}(hl:v.length=n*D)(hs:n*D<=100000:=by omega):zSI v (D:Int)=jf (zGz n D v):=by
 have hn:n<=n*D:=Jau n hD;have:=zO (body:=zNE v (D:Int)) (r:=zGz n D v) (fun i=>(gl i fun i=>mkv D fun j=>at0 v (i*D+j),((i*D:Nat):Int))) n (fun i hi=>by
  have h1:=zQY (D:=D) hi;unfold zNE;simp only
  rw[jk,zH,<-Hn,zB,bs,zFM,bs,jM (by grind[zU]),bs,zV (by rw[wL];simp;omega),bs,bs,zAE,<-K8]) (by
  unfold zNE;simp only
  rw[jj (by omega),zK];rfl)
 grind[zSI]
theorem zVa{n:Nat}(hD:1<=D)(hD3:D<=1000){v:List Int}(hl:v.length=n*D)(hs:n*D<=100000:=by omega):zXj v (D:Int)=jf (zGz n D v):=by
 have hn:n<=n*D:=Jau n hD;have:=zO (body:=zNL v (D:Int)) (r:=zGz n D v) (fun i=>(gl i fun i=>mkv D fun j=>at0 v (i*D+j),((i*D:Nat):Int))) n (fun i hi=>by
  have h1:=zQY (D:=D) hi;unfold zNL;simp only
  rw[<-Hn,zB,bs,jk,zH,bs,zFM,bs,tH (by grind[zU]),bs,zV (by rw[wL];simp;omega),bs,bs,zAE,<-K8]) (by
  unfold zNL;simp only
  rw[<-Hn,zB,bs,jj (by omega),zK];rfl)
 grind[zXj]
section
variable {x:SPr} (h:Pres x) {m:zF}{D:Nat} (hm:MOk x.zA.length m D)
 include h hm
section
variable {vals:Mx} (hv:VOk x.zA.length m.Prime D vals)
 include hv
theorem zOS:f_s x m vals=jf ((wN x).map (dfc m D vals)):=by
 have h6:=h.os.1;have h7:=hm.p.pos;have h3:=hm.d3;have pd:=h.pl;have gy:=h.cl;have hz:=zFH (p:=m.Prime) (D:=D);unfold f_s;rw[hm.d,yI,bs];have e1:=wI (body:=zXl x m vals D) x.zA.length (fun i=>dfc m D vals (r1 x i)) (fun i acc hi ha=>by
  obtain⟨p1,p2⟩:=zAi h.os (h.tl i hi).1;have ho:=(h.os.2 i hi).pos;unfold zXl;simp only
  rw[yP hi,zH];rw[uZ (S:=Row m.Prime D) (body:=zXk x m vals (acc,(i:Int))) (fun v=>v) (fun v=>stp m D vals v i) (at0 x.zA i) (by omega) (by grind[zB9]) (fun u q hu hq=>by
   unfold zXk;simp only
   rw[yJ hi,bs,jk hq,zH,zBr hm h6 hv hu hi,bs,zB,bs,cs]) (fun u hu=>by
   unfold zXk;simp only
   rw[yJ hi,bs,jj (by omega),zK]) hz,bs,zB,bs,yA [],bs,zGk hm h6 hv hz p1 p2,bs,<-zOF]
  have e1:f_x m.Prime (ev m D vals (z0 D) (J1 (at0 x.zA i).toNat i)) (m.Prime-1) (ev m D vals (z0 D) (nw 0 (x.zQ.getD i [])))=jf (dfc m D vals (r1 x i)):=by rw[uV hm.p (zDU hm h6 hv hz _) (zDU hm h6 hv hz _) (by omega) (by omega),zB8];rfl
  grind[zV,zB]) (fun acc=>by
  unfold zXl;simp)
 rw[e1,bs];have iK:=zKH h;have e2:=zO (body:=zXn x m vals D) (r:=(wN x).map (dfc m D vals)) (fun i=>(((Jd x.zA.length).map (fun i=>dfc m D vals (r1 x i)))++((Jd i).flatMap (R2 x)).map (dfc m D vals),(i:Int))) x.zA.length (fun i hi=>by
  have t2:=(h.tl i hi).2.1;have hfi:=iK i (by omega);unfold zXn;simp only
  rw[yP hi,zH,zB,bs,cs];have gK:=zO (body:=zXm x m vals D (((Jd x.zA.length).map (fun i=>dfc m D vals (r1 x i)))++((Jd i).flatMap (R2 x)).map (dfc m D vals),(i:Int)))
   (r:=((Jd x.zA.length).map (fun i=>dfc m D vals (r1 x i)))++((Jd (i+1)).flatMap (R2 x)).map (dfc m D vals))
   (fun j=>(((Jd x.zA.length).map (fun i=>dfc m D vals (r1 x i)))++((Jd i).flatMap (R2 x)).map (dfc m D vals)++(Jd j).map (fun j=>dfc m D vals (r2 x i j)),((i+1+j:Nat):Int))) (x.zG.getD i []).length (fun j hj=>by
   obtain⟨c1,c2⟩:=zAi h.os ((h.tl i hi).2.2 j hj);have fL:i+1+j<x.zA.length:=by omega
   have s1:=zBr hm h6 hv hz fL;have s2:=zBr hm h6 hv (zB9 hm h6 hv (v:=z0 D) (w:=i+1+j)) hi;have s3:=zBr hm h6 hv hz hi;have s4:=zGk hm h6 hv (zB9 hm h6 hv (v:=z0 D) (w:=i)) c1 c2;unfold zXm;simp only
   rw[yP fL,zH,s1,bs,s2,bs,s3,bs,yA [],bs,zB,bs,zB,bs,show(((i+1+j:Nat):Int)-(i:Int)-1)=(j:Int)from by omega,yA [] hj,bs,s4,bs,zB,bs];have e2:f_x m.Prime (stp m D vals (stp m D vals (z0 D) (i+1+j)) i) (m.Prime-1) (ev m D vals (stp m D vals (z0 D) i) (nw 0 ((x.zG.getD i []).getD j [])))=jf (dfc m D vals (r2 x i j)):=by
    rw[uV hm.p (zB9 hm h6 hv) (by grind[zDU,zB9]) (by omega) (by omega),zB8];simp only[dfc,r2,ev,Ug,List.foldl_nil]
    grind
   rw[e2,bs,zV (by grind[Jf]),bs,zB,bs,cs,Kt,K6,Jg];rfl) (by
   unfold zXm;simp only
   rw[show i+1+(x.zG.getD i []).length=x.zA.length from by omega,tS,zK,Kt (n:=i),U4,K6,<-Jg];simp[R2])
  simp_all) (by
  unfold zXn;simp only
  rw[tS,zK];simp only[wN,K6,Jaz];rfl)
 simp_all
end
def uv(n D k:Nat):Mx:=zGz n D (vC (n*D) k)
theorem zQZ:VOk x.zA.length m.Prime D (uv x.zA.length D k):=by have _:=h;have h7:=hm.p.pos;exact yBK (zSd h7.1)
theorem zOT:∀k,k<x.zA.length*D-> ∀q,Row m.Prime D (dfc m D (uv x.zA.length D k) q):=fun k _ q=>by have _:=h;exact qW hm.p
theorem zVb:zSI (vC (x.zA.length*D) k) (D:Int)=jf (uv x.zA.length D k):=by have h6:=h.os.1;have h3:=hm.d3;have fX:x.zA.length*D<=14*3:=Jr h6 h3;exact zHT hm.d1 (zU _ _)
theorem yBL:zXj (vC (x.zA.length*D) k) (D:Int)=jf (uv x.zA.length D k):=by have h6:=h.os.1;have h3:=hm.d3;have fX:x.zA.length*D<=14*3:=Jr h6 h3;exact zVa hm.d1 (by omega) (zU _ _)
theorem zHU{vals:Mx}{L:List Rl}:((L.map (dfc m D vals)).flatten).length=L.length*D:=by have _:=h;have _:=hm;grind[zFK,zMF]
theorem zG0:zXo x m=jf (zJG (x.zA.length*D) (fun k=>dfc m D (uv x.zA.length D k)) (wN x)):=by
 have h6:=h.os.1;have h3:=hm.d3;have fX:x.zA.length*D<=14*3:=Jr h6 h3;have cB:=zKJ h hm (zQZ h hm (k:=0));have aE:(wN x).length*D<=300*3:=Jr cB h3;unfold zXo;rw[hm.d,<-Up,zB,bs];rw[wI (body:=zNN x m ((x.zA.length*D:Nat):Int)) (x.zA.length*D) (fun k=>((wN x).map (dfc m D (uv x.zA.length D k))).flatten) (fun k acc hk ha=>by
  unfold zNN;simp only
  rw[yP hk,zH,qF hk,bs,hm.d,zVb h hm,bs,zKK h hm (zQZ h hm (k:=k)),bs,qQ (by simp;omega) (by rw[zHU h hm];omega),bs,zV (by simp;omega),bs,zB,bs,cs]) (fun acc=>by
  unfold zNN;simp),bs]
 rfl
theorem zSk:(J1 N (0:Int)).set k 1=vC N k:=by have _:=h;have _:=hm;rw[uD,sP,vC]
theorem zGm:zZq x m=jf (zJG (x.zA.length*D) (fun k=>dfc m D (uv x.zA.length D k)) (wN x)):=by
 have h6:=h.os.1;have h3:=hm.d3;have fX:x.zA.length*D<=14*3:=Jr h6 h3;have cB:=zKJ h hm (zQZ h hm (k:=0));have aE:(wN x).length*D<=300*3:=Jr cB h3;unfold zZq;rw[hm.d,<-Up,zB,bs];rw[wI (body:=zNM x m ((x.zA.length*D:Nat):Int)) (x.zA.length*D) (fun k=>((wN x).map (dfc m D (uv x.zA.length D k))).flatten) (fun k acc hk ha=>by
  unfold zNM;simp only
  rw[yP hk,zH,yI,bs,vH,K4,if_pos hk,bs,J8,zSk h hm,hm.d,yBL h hm,bs,zOS h hm (zQZ h hm (k:=k)),bs,zSc (by simp;omega) (by rw[zHU h hm];omega),bs,zV (by simp;omega),bs,zB,bs,cs]) (fun acc=>by
  unfold zNM;simp),bs]
 rfl
end
theorem zHV:(mkv N f).drop c=mkv (N-c) fun i=>f (c+i):=by
 have hl:((mkv N f).drop c).length=N-c:=by rw[Kl,zU]
 grind[vJ,zX,zHR,zW]
theorem kK{n:Nat}:xH n j=mkv n fun i=>if i=j then 1 else 0:=by rw[xH,show zeros n=J1 n (0:Int)from rfl,uD,sP]
theorem wJ{n:Nat}:at0 (zeros n) i=0:=by
 rcases Jo i n with g|g
 ·simp[zeros,at0,J2,g]
 ·simp[zeros,at0,J2,g]
theorem zDx.p(h:zDx x)(hl:x.zA.length<=14):Pres x:=⟨⟨hl,h.os.2⟩,h.pl,h.cl,h.tl⟩
structure ExB (n D:Nat) (x:SPr) (m:zF) (T:Mx):Prop where
 hn:n<=6
 o:x.zA.length=n
 p:x.zQ.length=n
 c:x.zG.length=n
 cl:∀i,i<n->(x.zG.getD i []).length=n-1-i
 t:T.length=base n n
 m:zUJ n m D
section
variable {D:Nat}{x:SPr}{m:zF}{T:Mx} (h:Pres x) (hE:ExB x.zA.length D x m T) (hT:∀i,i<T.length->Row m.Prime D (T.getD i []))
 include h hE hT
abbrev exx(D:Nat)(x:SPr)(m:zF)(T:Mx):SPr:=ext x.zA.length D x m T
theorem xX:(exx D x m T).zA.length=x.zA.length+D:=by have _:=h;have _:=hE;have _:=hT;simp[exx,ext]
theorem tF(hi:i<x.zA.length):at0 (exx D x m T).zA i=at0 x.zA i:=by
 have _:=h;have _:=hE;have _:=hT;show at0 (x.zA++J1 D m.Prime) i=_
 grind
theorem zBD(hi:x.zA.length<=i)(h2:i<x.zA.length+D):at0 (exx D x m T).zA i=m.Prime:=by
 have _:=h;have _:=hE;have _:=hT;show at0 (x.zA++J1 D m.Prime) i=_
 grind
theorem zOU{v t:List Int}(hv:v.length=x.zA.length)(hr:∀j,j<x.zA.length->0<=at0 v j/\at0 v j<=at0 x.zA j-1)(hz:∀j,j<=i->j<x.zA.length->at0 v j=0)(ht:Row m.Prime D t)(hi:i<x.zA.length):Exp (exx D x m T).zA (v++t) i:=by
 have hl:=xX h hE hT;refine⟨⟨by rw[J5,hv,ht.1,hl],fun j hj=>?_⟩,fun j hj=>?_⟩
 ·rw[J5,hv,ht.1]at hj
  rw[zDc,hv];split
  ·grind[tF]
  ·next g=>rw[zBD h hE hT (by omega) hj];exact ht.2 _ (by omega)
 grind
theorem zMQ(i:Nat)(hi:i<base x.zA.length x.zA.length):Row m.Prime D (T.getD i []):=by have _:=h;exact hT i (by rw[hE.t];exact hi)
theorem zEJ:zDx (exx D x m T):=by
 have hn:=hE.hn;have h3:=hE.m.d3;have h7:=hE.m.p.pos;have hl:=xX h hE hT;have hb:=wA x.zA.length (by omega);refine⟨⟨trivial,fun i hi=>?_⟩,by rw[hl];exact wL,by rw[hl];exact wL,fun i hi=>?_⟩
 ·rw[hl]at hi
  rcases Jo i x.zA.length with g|g
  ·rw[tF h hE hT g];exact h.os.2 i g
  ·rw[zBD h hE hT g hi];exact hE.m.p
 ·rw[hl]at hi
  have hP:(exx D x m T).zQ.getD i []=exP x.zA.length D x T i:=xJ hi;have hC:(exx D x m T).zG.getD i []=exC x.zA.length D x m T i:=by
   show(gl (x.zA.length+D) (exC x.zA.length D x m T)).getD i []=_
   grind
  refine⟨?_,?_,?_⟩
  ·rw[hP,exP]
   rcases Jo i x.zA.length with g|g
   ·rw[if_pos g]
    obtain⟨t1,_,_⟩:=h.tl i g;exact zOU h hE hT t1.1.1 (fun j hj=>t1.1.2 j (by rw[t1.1.1];exact hj)) (fun j hj _=>t1.2 j hj) (by grind[zMQ]) g
   ·rw[if_neg (by omega)]
    have hz:∀j,at0 (J1 (x.zA.length+D) (0:Int)) j=0:=fun j=>wJ
    refine⟨⟨by grind,fun j hj=>?_⟩,fun j _=>hz j⟩;rw[Jl]at hj;rw[hz];rcases Jo j x.zA.length with g2|g2
    ·rw[tF h hE hT g2];have:=(h.os.2 j g2).pos;omega
    grind[zBD]
  ·grind[exC,unC]
  ·rw[hC,exC]
   split
   ·next g=>
    intro j hj;rw[wL]at hj;rw[xJ hj,exF];split
    ·next g2=>
     have gy:=hE.cl i g;have fw:=zAd x.zA.length (by omega) i g;obtain⟨_,_,t3⟩:=h.tl i g;have t:=t3 j (by omega);exact zOU h hE hT t.1.1 (fun q hq=>t.1.2 q (by rw[t.1.1];exact hq)) (fun q hq _=>t.2 q hq) (by grind[zMQ]) g
    ·next g2=>
     have hz:∀j,at0 (J1 x.zA.length (0:Int)) j=0:=fun j=>wJ
     refine zOU h hE hT (by simp) (fun q hq=>?_) (fun q _ _=>hz q) ((hE.m.mat i g).2 _ (by omega)) g;rw[hz];have:=(h.os.2 q hq).pos;omega
   ·next g=>
    intro j hj;rw[unC,wL]at hj;rw[unC,xJ hj];refine⟨⟨by rw[hl];exact zU _ _,fun q hq=>?_⟩,fun q hq=>?_⟩
    ·rw[vC,zU]at hq
     rw[vC,zW hq];rcases Jo q x.zA.length with g2|g2
     ·rw[tF h hE hT g2];have:=(h.os.2 q g2).pos;omega
     grind[zBD]
    ·rw[vC,zW,if_neg (by omega)]
theorem zBt(hk:k<x.zA.length):(lvl (exx D x m T) k).o=at0 x.zA k:=tF h hE hT hk
theorem zHW(hk:k<x.zA.length):(lvl (exx D x m T) k).w=(lvl x k).w++T.getD k []:=by have t1:=(h.tl k hk).1.1.1;have _:=hE;have _:=hT;show((exx D x m T).zQ.getD k []).drop (k+1)=_;have hP:(exx D x m T).zQ.getD k []=exP x.zA.length D x T k:=xJ;rw[hP,exP,if_pos hk,Ku (by omega)];rfl
def eC1(x:SPr)(T:Mx)(k:Nat):List Vec:=gl (x.zA.length-1-k) fun j=>(lvl x k).cs.getD j []++T.getD (base x.zA.length k+j) []
def eC2(x:SPr)(m:zF)(D k:Nat):List Vec:=((gl D fun j=>(m.zM.getD k []).getD j []).map fun r=>zeros (x.zA.length-1-k)++r)
theorem zBE(hk:k<x.zA.length):(lvl (exx D x m T) k).cs=eC1 x T k++eC2 x m D k:=by
 have gy:=hE.cl k hk;have _:=hT;show((exx D x m T).zG.getD k []).map (·.drop (k+1))=_;have hC:(exx D x m T).zG.getD k []=exC x.zA.length D x m T k:=by
  show(gl (x.zA.length+D) (exC x.zA.length D x m T)).getD k []=_
  grind
 rw[hC,exC,if_pos hk];apply L4;intro j
 by_cases hj:j<x.zA.length+D-1-k
 ·have e1:((gl (x.zA.length+D-1-k) (exF x.zA.length x m T k)).map (·.drop (k+1)))[j]? =jf ((exF x.zA.length x m T k j).drop (k+1)):=by grind
  rw[e1,exF]
  by_cases g:j<x.zA.length-1-k
  ·rw[if_pos g,Jy (by grind[eC1])]
   have t:=(h.tl k hk).2.2 j (by omega);rw[Ku (by have:=t.1.1;omega)];have e2:(eC1 x T k)[j]? =jf ((lvl x k).cs.getD j []++T.getD (base x.zA.length k+j) []):=by simp[eC1,gl,g]
   rw[e2]
   congr 2
   simp only[lvl,J2,Jw]
   grind
  ·rw[if_neg g,Jk (by grind[eC1]),eC1,wL]
   have e2:(eC2 x m D k)[j-(x.zA.length-1-k)]? =jf (zeros (x.zA.length-1-k)++(m.zM.getD k []).getD (j-(x.zA.length-1-k)) []):=by simp[eC2,gl,show j-(x.zA.length-1-k)<D by omega]
   rw[e2,Ku (by simp;omega),Lm,show x.zA.length-(k+1)=x.zA.length-1-k from by omega];rfl
 ·rw[Li (by grind),Li (by simp[eC1,eC2,gl];omega)]
end
def tlv(p:Int):Nat->Pcp
 |0=>[]
 |d+1=>⟨p,zeros d,wC d⟩::tlv p d
theorem zGH{p:Int}:∀d,(tlv p d).length=d
 |0=>rfl
 |d+1=>by simp[tlv,zGH d]
theorem zD2{p:Int}:∀(d:Nat)(v:Vec),V (tlv p d) v↔Row p d v
 |0,v=>by
  constructor
  ·intro h
   obtain rfl:v=[]:=h;exact⟨rfl,fun i hi=>by omega⟩
  ·intro h
   have:=Kf h.1;subst this;exact rfl
 |d+1,v=>by
  cases v with
  |nil=>exact⟨fun h=>h.elim,fun h=>by have:=h.1;grind⟩
  |cons a v=>
   show((0<=a/\a<p)/\V (tlv p d) v)↔_;rw[zD2 d v];constructor
   ·rintro⟨⟨h0,h1⟩,h2⟩
    refine⟨by simp[h2.1],fun i hi=>?_⟩;cases i with
    |zero=>grind
    |succ i=>have:=h2.2 i (by omega);grind
   ·intro h
    have h0:=h.2 0 (by omega);simp only[at0,Gm]at h0;refine⟨⟨h0.1,by omega⟩,by have:=h.1;grind,fun i hi=>?_⟩;have:=h.2 (i+1) (by omega)
    grind
abbrev adv(p:Int)(D:Nat)(u v:List Int):List Int:=mkv D fun j=>(at0 u j+at0 v j)%p
theorem sQ{p:Int}{v:List Int}(hp:0<p:=by omega):Row p D (adv p D u v):=by refine⟨zU _ _,fun j hj=>?_⟩;rw[zW hj];have e1:=Kk (at0 u j+at0 v j) (show p≠0 by omega);have e2:=Kh (at0 u j+at0 v j) hp;omega
theorem zEK{p:Int}{D:Nat}{c:List Int}(hp:0<p):∀(k:Nat)(acc:List Int),Row p D acc->iter k (fun w=>adv p D w c) acc=mkv D fun j=>(at0 acc j+(k:Int)*at0 c j)%p
 |0,acc,ha=>by
  show acc=_
  conv=>lhs;rw[vJ ha.1]
  refine zX fun j hj=>?_
  have:=ha.2 j hj;rw[Int.natCast_zero,qc9,L9,Jq this.1 (by omega)]
 |k+1,acc,ha=>by
  show iter k (fun w=>adv p D w c) (adv p D acc c)=_;rw[zEK hp k _ (sQ hp)];refine zX fun j hj=>?_
  grind[zW,Ka,K3]
theorem yBM{n:Nat}:S (n+1) f=f 0+S n fun i=>f (i+1):=by
 rw[Nat.add_comm,zGG 1 n];simp only[S]
 grind
theorem zGI{p:Int}{D:Nat}(hp:0<p):∀(cs:List Vec)(v acc:Vec),v.length=cs.length->(∀i,i<v.length->0<=at0 v i)->Row p D acc->img (adv p D) cs v acc=mkv D fun j=>(at0 acc j+S cs.length fun k=>at0 v k*ent cs k j)%p
 | [],v,acc,hl,_,ha=>by
  show acc=_
  conv=>lhs;rw[vJ ha.1]
  refine zX fun j hj=>?_
  have:=ha.2 j hj;simp only[Jt,S];rw[L9,Jq this.1 (by omega)]
 |c::cs,[],acc,hl,_,_=>by simp at hl
 |c::cs,a::v,acc,hl,hv,ha=>by
  have h0:=hv 0 (by simp);simp only[at0,Gm]at h0;have gG:Row p D (iter a.toNat (fun w=>adv p D w c) acc):=vX (S:=Row p D) (fun _ _=>sQ hp) _ ha;show img (adv p D) cs v (iter a.toNat (fun w=>adv p D w c) acc)=_;rw[zGI hp cs v _ (by grind) (fun i hi=>by have:=hv (i+1) (by grind);grind) gG,zEK hp _ _ ha];refine zX fun j hj=>?_
  rw[zW hj,J7,yBM,Ka,K3,<-Ka,Ja2 h0,Int.add_assoc];rfl
theorem zDd{α:Type}{S:α->Prop}{m m':α->α->α}(hm:∀a b,S a->S b->m a b=m' a b)(hc:∀a b,S a->S b->S (m' a b)):∀(cs:List α)(v:Vec)(acc:α),(∀c∈cs,S c)->S acc->img m cs v acc=img m' cs v acc
 | [],_,_,_,_=>by simp[img]
 |c::cs,[],_,_,_=>by simp[img]
 |c::cs,a::v,acc,h1,h2=>by
  have mp:=h1 c (by simp);have e:∀k acc,S acc->iter k (fun w=>m w c) acc=iter k (fun w=>m' w c) acc/\S (iter k (fun w=>m' w c) acc):=by
   intro k
   induction k with
   |zero=>intro acc ha;exact⟨rfl,ha⟩
   |succ k ih=>
    intro acc ha;show iter k (fun w=>m w c) (m acc c)=iter k (fun w=>m' w c) (m' acc c)/\_;rw[hm acc c ha mp];exact ih _ (hc _ _ ha mp)
  show img m cs v (iter a.toNat (fun w=>m w c) acc)=img m' cs v (iter a.toNat (fun w=>m' w c) acc);rw[(e _ _ h2).1];exact zDd hm hc cs v _ (by grind) (e _ _ h2).2
theorem zDe{d:Nat}(hk:k<d)(hj:j<d):ent (wC d) k j=if j=k then 1 else 0:=by
 have e:(wC d).getD k []=xH d k:=by grind[wC]
 rw[ent,e,kK,zW hj]
theorem yX{p:Int}(hp:0<p:=by omega):Row p D (zeros D):=zFH hp
theorem qG{p:Int}(hp:2<=p):∀(d:Nat)(u v:Vec),Row p d u->Row p d v->mul (tlv p d) u v=adv p d u v
 |0,u,v,hu,_=>by rfl
 |d+1,u,v,hu,hv=>by
  have ih:=qG hp d;have fq:=(zD2 (d+1) u).2 hu;have mu:=(zD2 (d+1) v).2 hv;cases u with
  |nil=>exact fq.elim
  |cons a u=>
   cases v with
   |nil=>exact mu.elim
   |cons b v=>
    obtain⟨⟨a0,a1⟩,p7⟩:=fq;obtain⟨⟨b0,b1⟩,cu⟩:=mu;have hu3:=(zD2 d u).1 p7;have cZ:=(zD2 d v).1 cu;change a<p at a1;change b<p at b1;have eA:∀w,Row p d w->sig (tlv p d) ⟨p,zeros d,wC d⟩ w=w:=fun w hw=>by
     have dV:∀c∈wC d,Row p d c:=fun c hc=>by obtain⟨k,hk,rfl⟩:=Jc.1 hc;rw[kK];exact⟨zU _ _,by grind[zW]⟩
     unfold sig;rw[zGH,zDd (S:=Row p d) (m':=adv p d) (by omega) (fun _ _ _ _=>sQ) (wC d) w _ dV (yX),zGI (by omega) (wC d) w _ (by rw[hw.1];simp[wC]) (fun i hi=>(hw.2 i (by rw[<-hw.1];exact hi)).1) (yX)]
     conv=>rhs;rw[vJ hw.1]
     refine zX fun j hj=>?_
     have gU:(wC d).length=d:=by simp[wC]
     have:=hw.2 j hj;rw[gU,wJ,Kq,kI (k:=j) hj (fun k hk gc=>by rw[zDe hk hj,if_neg (Ne.symm gc),Lo]),zDe hj hj,if_pos rfl,L8,Jq this.1 (by omega)]
    have ej:∀k,iter k (sig (tlv p d) ⟨p,zeros d,wC d⟩) u=u:=by grind[zEH]
    show mul (⟨p,zeros d,wC d⟩::tlv p d) (a::u) (b::v)=_;rw[yK,ej,ih u v hu3 cZ];have hz:adv p d (zeros d) (adv p d u v)=adv p d u v:=by
     refine zX fun j hj=>?_
     rw[zW hj,wJ,Kq,K3]
    rw[ih _ _ (yX) (sQ),hz];have d6:adv p (d+1) (a::u) (b::v)=(a+b)%p::adv p d u v:=by
     simp only[adv,mkv,Qz,Ju,Jaz]
     congr 1
    rw[d6];split
    ·next g=>
     have g:a+b>=p:=g;have e:(a+b)%p=a+b-p:=by rw[show a+b=(a+b-p)+p from by omega,Uv,Jq (by omega) (by omega)];omega
     grind
    ·next g=>
     have g:¬a+b>=p:=g
     congr 1
     exact(Jq (by omega) (by omega)).symm
theorem zRa{α:Type}{m:α->α->α}:∀(c1:List α)(y:Vec)(c2:List α)(u:Vec)(acc:α),c1.length=y.length->img m (c1++c2) (y++u) acc=img m c2 u (img m c1 y acc)
 | [],[],_,_,_,_=>by rfl
 | [],_::_,_,_,_,h=>by simp at h
 |_::_,[],_,_,_,h=>by simp at h
 |c::c1,a::y,c2,u,acc,h=>zRa c1 y c2 u _ (by grind)
theorem zEL{α β:Type}{S:α->Prop}{m:α->α->α}{n:β->β->β}(φ:α->β)(hS:∀a b,S a->S b->S (m a b))(hm:∀a b,S a->S b->φ (m a b)=n (φ a) (φ b)):∀(cs:List α)(v:Vec)(a:α),(∀c∈cs,S c)->S a->φ (img m cs v a)=img n (cs.map φ) v (φ a)
 | [],v,a,_,_=>by rfl
 |_::_,[],_,_,_=>rfl
 |c::cs,t::v,a,hc,ha=>by
  have mp:=hc c (by simp);have e:∀k a,S a->φ (iter k (fun w=>m w c) a)=iter k (fun w=>n w (φ c)) (φ a)/\S (iter k (fun w=>m w c) a):=by
   intro k
   induction k with
   |zero=>intro a ha;exact⟨rfl,ha⟩
   |succ k ih=>
    intro a ha;have:=ih (m a c) (hS _ _ ha mp);rw[hm a c ha mp]at this;exact this
  show φ (img m cs v (iter t.toNat (fun w=>m w c) a))=img n (cs.map φ) v (iter t.toNat (fun w=>n w (φ c)) (φ a));rw[<-(e _ a ha).1];exact zEL φ hS hm cs v _ (by grind) (e _ a ha).2
theorem sZ{p:Int}(hr:Row p D r):xL p D r (idM D)=r:=by
 conv=>rhs;rw[vJ hr.1]
 refine zX fun j hj=>?_
 have:=hr.2 j hj;have e:∀l,l<D->ent (idM D) l j=if j=l then 1 else 0:=fun l hl=>by rw[ent,zAB hl,zW hj]
 rw[kI (k:=j) hj (by grind),e j hj,if_pos rfl,L8,tQ this]
theorem zEM{p:Int}{B:Mx}(hA:A.length=D):xL p D (xL p D r A) B=xL p D r (PM p D A B):=by
 refine zX fun j hj=>?_
 have e1:S D (fun l=>at0 (xL p D r A) l*ent B l j)%p=S D (fun l=>S D (fun i=>at0 r i*ent A i l)*ent B l j)%p:=kH (by grind[xL,zW,Jz,K3]);have e2:S D (fun l=>at0 r l*ent (PM p D A B) l j)%p=S D (fun i=>at0 r i*S D (fun l=>ent A i l*ent B l j))%p:=kH (by grind[zOB,Jz,K3]);rw[e1,e2]
 congr 1
 have e3:S D (fun l=>S D (fun i=>at0 r i*ent A i l)*ent B l j)=S D (fun l=>S D (fun i=>at0 r i*ent A i l*ent B l j)):=xV (by grind[zM4]);rw[e3,zHH];refine xV fun i _=>?_
 rw[<-zC3];exact xV (by grind)
theorem uA{p:Int}{v:List Int}(hv:Row p D v):adv p D (zeros D) v=v:=by
 conv=>rhs;rw[vJ hv.1]
 refine zX fun j hj=>?_
 rw[wJ,Kq,tQ (hv.2 j hj)]
theorem zAv{p:Int}{v:List Int}(hv:Row p D v):adv p D v (zeros D)=v:=by
 conv=>rhs;rw[vJ hv.1]
 refine zX fun j hj=>?_
 rw[wJ,L9,tQ (hv.2 j hj)]
theorem zVc{p:Int}{acc v:List Int}(hl:A.length=D):(mkv D fun j=>(at0 acc j+S A.length fun k=>at0 v k*ent A k j)%p)=adv p D acc (xL p D v A):=by grind[zX,xL,zW,Int.add_emod_emod]
theorem uX{p:Int}{v:List Int}:adv p D u v=adv p D v u:=by grind
theorem zY2{p:Int}{v w:List Int}(hv:Row p D v)(hw:Row p D w):adv p D u v=adv p D u w↔v=w:=by
 constructor
 ·intro h
  rw[vJ hv.1,vJ hw.1];refine zX fun j hj=>?_
  have e:at0 (adv p D u v) j=at0 (adv p D u w) j:=by rw[h]
  rw[adv,adv,zW hj,zW hj]at e;have h1:=hv.2 j hj;have h2:=hw.2 j hj;have h3:=Int.emod_emod_of_dvd (at0 u j+at0 v j) (Int.dvd_refl p);have e4:(at0 u j+at0 v j-at0 u j)%p=(at0 u j+at0 w j-at0 u j)%p:=by rw[Qg,e,<-Qg]
  rw[show at0 u j+at0 v j-at0 u j=at0 v j from by omega,show at0 u j+at0 w j-at0 u j=at0 w j from by omega,tQ h1,tQ h2]at e4;exact e4
 grind
section
variable {D:Nat}{x:SPr}{m:zF}{T:Mx} (h:Pres x) (hE:ExB x.zA.length D x m T) (hT:∀i,i<T.length->Row m.Prime D (T.getD i []))
 include h hE hT
theorem zAe:∀(d k:Nat),x.zA.length<=k->k+d=x.zA.length+D->suf (exx D x m T) k=tlv m.Prime d
 |0,k,hk,hd=>by rw[vO (by grind[xX])];rfl
 |d+1,k,hk,hd=>by
  have hl:=xX h hE hT;rw[zY,zAe d (k+1) (by omega) (by omega),tlv]
  congr 1
  have hP:(exx D x m T).zQ.getD k []=exP x.zA.length D x T k:=xJ;have hC:(exx D x m T).zG.getD k []=exC x.zA.length D x m T k:=by
   show(gl (x.zA.length+D) (exC x.zA.length D x m T)).getD k []=_
   grind
  unfold lvl;rw[hP,hC,exP,exC,if_neg (by omega),if_neg (by omega),zBD h hE hT hk (by omega),Lm,show x.zA.length+D-(k+1)=d from by omega]
  congr 1
  rw[unC,wC,gl,Jaz,show x.zA.length+D-1-k=d from by omega];refine Uu fun j hj=>?_
  have hj:=Lj.1 hj;show(vC (x.zA.length+D) (k+1+j)).drop (k+1)=xH d j;rw[vC,zHV,kK,show x.zA.length+D-(k+1)=d from by omega];simp
theorem tM:∀(d k:Nat),k+d=x.zA.length-> ∀v,V (suf (exx D x m T) k) v↔ ∃y u,v=y++u/\V (suf x k) y/\Row m.Prime D u
 |0,k,hk,v=>by
  rw[zAe h hE hT D k (by omega) (by omega),zD2,vO (x:=x) (k:=k)];constructor
  ·intro g;exact⟨[],v,rfl,rfl,g⟩
  ·rintro⟨y,u,rfl,hy,hu⟩
   obtain rfl:y=[]:=hy;exact hu
 |d+1,k,hk,v=>by
  have hl:=xX h hE hT;have ih:=tM d (k+1) (by omega);rw[zY (x:=exx D x m T),zY (x:=x)];cases v with
  |nil=>
   refine⟨fun g=>g.elim,?_⟩
   rintro⟨y,u,e,hy,hu⟩
   cases y with
   |nil=>exact hy.elim
   |cons a y=>simp at e
  |cons a v=>
   show((0<=a/\a<(lvl (exx D x m T) k).o)/\V (suf (exx D x m T) (k+1)) v)↔_;rw[zBt h hE hT (by omega),ih v];constructor
   ·rintro⟨g,y,u,rfl,hy,hu⟩
    exact⟨a::y,u,rfl,⟨g,hy⟩,hu⟩
   ·rintro⟨y,u,e,hy,hu⟩
    cases y with
    |nil=>exact hy.elim
    |cons b y=>
     simp only[K9,Qd.injEq]at e;obtain⟨rfl,rfl⟩:=e;exact⟨hy.1,y,u,rfl,hy.2,hu⟩
theorem zD3:∀(d k:Nat),k+d=x.zA.length-> ∀y u r,V (suf x k) y->Row m.Prime D u->Row m.Prime D r->mul (suf (exx D x m T) k) (y++u) (zeros d++r)=y++adv m.Prime D u r
 |0,k,hk,y,u,r,hy,hu,hr=>by have hp:=hE.m.p.pos;rw[vO (x:=x) (k:=k)]at hy;obtain rfl:y=[]:=hy;rw[zAe h hE hT D k (by omega) (by omega)];exact qG (by omega) D u r hu hr
 |d+1,k,hk,y,u,r,hy,hu,hr=>by
  have hl:=xX h hE hT;rw[zY (x:=x)]at hy;cases y with
  |nil=>exact hy.elim
  |cons a y=>
   obtain⟨⟨a0,a1⟩,hy⟩:=hy;change a<at0 x.zA k at a1;rw[zY (x:=exx D x m T)];show mul _ (a::(y++u)) (0::(zeros d++r))=_;rw[yK,zBt h hE hT (by omega),if_neg (by omega)];show(a+0)::mul _ (y++u) (zeros d++r)=_;rw[zD3 d (k+1) (by omega) y u r hy hu hr,L9];rfl
theorem uH(hk:k<=x.zA.length+D):Pc.Ok (suf (exx D x m T) k):=(zEJ h hE hT).okAt (by grind[xX])
theorem zOV{d k:Nat}(hk:k+d=x.zA.length):∀(rs:List Vec)(v:Vec)(y u:Vec),(∀r∈rs,Row m.Prime D r)->V (suf x k) y->Row m.Prime D u->img (mul (suf (exx D x m T) k)) (rs.map fun r=>zeros d++r) v (y++u)=y++img (adv m.Prime D) rs v u
 | [],v,y,u,_,_,_=>by rfl
 |_::_,[],_,_,_,_,_=>rfl
 |c::rs,t::v,y,u,hr,hy,hu=>by
  have hp:=hE.m.p.pos;have hc:=hr c (by simp);have e:∀q u,Row m.Prime D u->iter q (fun w=>mul (suf (exx D x m T) k) w (zeros d++c)) (y++u)=y++iter q (fun w=>adv m.Prime D w c) u:=by
   intro q
   induction q with
   |zero=>intro u _;rfl
   |succ q ih=>
    intro u hu;show iter q _ (mul _ (y++u) (zeros d++c))=_;rw[zD3 h hE hT d k hk y u c hy hu hc,ih _ (sQ)];rfl
  show img _ (rs.map fun r=>zeros d++r) v (iter t.toNat (fun w=>mul (suf (exx D x m T) k) w (zeros d++c)) (y++u))=_;rw[e _ _ hu,zOV hk rs v y _ (by grind) hy (vX (S:=Row m.Prime D) (fun _ _=>sQ) _ hu)];rfl
theorem yBN(hk:k<x.zA.length):(gl D fun j=>(m.zM.getD k []).getD j [])=m.zM.getD k []:=by
 have _:=h;have _:=hT;have hl:=(hE.m.mat k hk).1;apply L4
 grind
def sgG(D:Nat)(x:SPr)(m:zF)(T:Mx)(k:Nat)(y:Vec):Vec:=img (mul (suf (exx D x m T) (k+1))) (eC1 x T k) y (zeros (suf (exx D x m T) (k+1)).length)
theorem qH:(eC1 x T k).length=x.zA.length-1-k:=by have _:=h;have _:=hE;have _:=hT;grind[eC1]
theorem zRb(hk:k<x.zA.length):∀c∈eC1 x T k,V (suf (exx D x m T) (k+1)) c:=by intro c hc;have ok:=uH h hE hT (k:=k) (by omega);rw[zY (by grind[xX])]at ok;exact ok.2.2.2.1 c (by grind[zBE])
theorem zAS(hk:k<=x.zA.length):zeros (suf (exx D x m T) k).length=zeros (x.zA.length-k)++zeros D:=by grind[yC,xX,zeros,Jn]
theorem zHX(hk:k<x.zA.length):V (suf (exx D x m T) (k+1)) (sgG D x m T k y):=by have ok:=uH h hE hT (k:=k+1) (by omega);exact qE (yO ok) _ _ (zRb h hE hT hk) (wD ok)
theorem zBF(hk:k<x.zA.length){u:Vec}(hy:V (suf x (k+1)) y)(hu:Row m.Prime D u):
  sig (suf (exx D x m T) (k+1)) (lvl (exx D x m T) k) (y++u)=(sgG D x m T k y).take (x.zA.length-(k+1))++adv m.Prime D ((sgG D x m T k y).drop (x.zA.length-(k+1))) (xL m.Prime D u (m.zM.getD k [])):=by
 have hp:=hE.m.p.pos;have hA:=hE.m.mat k hk;have eD:=vB h (by omega) hy;unfold sig;rw[zBE h hE hT hk,zRa _ _ _ _ _ (by grind[qH])];show img _ (eC2 x m D k) u (sgG D x m T k y)=_;obtain⟨y1,u1,e,eE,cv⟩:=(tM h hE hT (x.zA.length-(k+1)) (k+1) (by omega) _).1 (zHX h hE hT hk (y:=y));have gL:=vB h (by omega) eE;rw[e,eC2,yBN h hE hT hk,show x.zA.length-1-k=x.zA.length-(k+1)from by omega,zOV h hE hT (by omega) _ _ _ _ (fun r hr=>?_) eE cv,zGI (by omega) _ _ _ (by rw[hA.1,hu.1]) (fun i hi=>(hu.2 i (by rw[<-hu.1];exact hi)).1) cv,zVc hA.1,Js gL,K1 gL];obtain⟨j,hj,rfl⟩:=Ld.1 hr;have bM:=hA.1;have:=hA.2 j (by omega)
 grind
theorem zGJ(hk:k<x.zA.length){u:Vec}(hu:Row m.Prime D u):
  sig (suf (exx D x m T) (k+1)) (lvl (exx D x m T) k) (zeros (x.zA.length-(k+1))++u)=zeros (x.zA.length-(k+1))++xL m.Prime D u (m.zM.getD k []):=by
 have hp:=hE.m.p.pos;have ok:=h.okAt (k:=k+1) (by omega);have hz:=wD ok;rw[yC]at hz;have e:sgG D x m T k (zeros (x.zA.length-(k+1)))=zeros (x.zA.length-(k+1))++zeros D:=by grind[sgG,tN,zAS]
 rw[zBF h hE hT hk hz hu,e,Js (zT _),K1 (zT _),uA (wZ)]
theorem zHY{k:Nat}(hk:k<x.zA.length):∀(q:Nat){u:Vec},Row m.Prime D u->
  iter q (sig (suf (exx D x m T) (k+1)) (lvl (exx D x m T) k)) (zeros (x.zA.length-(k+1))++u)=zeros (x.zA.length-(k+1))++iter q (fun u=>xL m.Prime D u (m.zM.getD k [])) u
 |0,u,_=>rfl
 |q+1,u,hu=>by have hp:=hE.m.p.pos;show iter q _ (sig _ _ _)=_;rw[zGJ h hE hT hk hu,zHY hk q (wZ)];rfl
end
theorem zFN{p:Int}{D:Nat}{A:Mx}(hA:Mat p D A)(hp:2<=p){r:List Int}(hr:Row p D r):∀q,iter q (fun u=>xL p D u A) r=xL p D r (pw (PM p D) (idM D) A q)
 |0=>(sZ hr).symm
 |q+1=>by
  have hm:Mat p D (pw (PM p D) (idM D) A q):=vX (S:=Mat p D) (fun _ hB=>zHI (by omega) hB.1) q (tL hp);unfold pw at*
  rw[xR,xR,zFN hA hp hr q];exact zEM hm.1
theorem zOW{p:Int}(hp:0<p:=by omega):iter p.toNat (fun w=>adv p D w r) (zeros D)=zeros D:=by
 rw[zEK hp _ _ (yX hp)];rw[show zeros D=mkv D fun _=>0 from uD D];refine zX fun j hj=>?_
 rw[zW hj,Ja2 (by omega),Kq,Int.mul_emod_right]
theorem zAw{p:Int}:xL p D (zeros D) A=zeros D:=by
 rw[show zeros D=mkv D fun _=>0 from uD D];refine zX fun j hj=>?_
 rw[xV (g:=fun _=>0) fun l hl=>by rw[zW hl,qc9],sX,Int.zero_emod]
theorem zSl{p:Int}(hq:q<D)(hA:Mat p D A):xL p D (xH D q) A=A.getD q []:=by
 have hr:=hA.2 q hq
 conv=>rhs;rw[vJ hr.1]
 refine zX fun j hj=>?_
 rw[kK,kI (k:=q) hq (fun i hi gc=>by rw[zW hi,if_neg gc,qc9]),zW hq,if_pos rfl,Gp,tQ (hr.2 j hj)]
theorem tR{p:Int}(hp:2<=p:=by omega):Row p D (xH D q):=by rw[kK];exact⟨zU _ _,by grind[zW]⟩
theorem zMR(hq:q<D:=by omega):xH (N+D) (N+q)=zeros N++xH D q:=by
 rw[zAb,zAb hq,<-Jg]
 grind[zeros,Jn]
def aM(m:zF)(D k:Nat)(v:Vec):Mx:=img (PM m.Prime D) (m.zM.drop k) v (idM D)
theorem zVd{p:Int}(hp:2<=p):Mon (Mat p D) (PM p D) (idM D):=
 ⟨fun ha _=>zHI (by omega) ha.1,tL,fun ha hb _=>zM5 ha.1 hb.1,fun ha=>zCX ha,fun ha=>zC4 ha⟩
section
variable {D:Nat}{x:SPr}{m:zF}{T:Mx} (h:Pres x) (hE:ExB x.zA.length D x m T) (hT:∀i,i<T.length->Row m.Prime D (T.getD i []))
 include h hE hT
theorem zVe(hk:k<x.zA.length):(eC1 x T k).map (·.take (x.zA.length-(k+1)))=(lvl x k).cs:=by
 have _:=hE;have _:=hT;have gy:=zAh h.w hk;apply L4;intro j
 by_cases g:j<x.zA.length-(k+1)
 ·obtain⟨c,_,_,c3,c4⟩:=zE7 h hk g
  have hl:=vB h (by omega) c3;have e1:((eC1 x T k).map (·.take (x.zA.length-(k+1))))[j]? =jf (((lvl x k).cs.getD j []++T.getD (base x.zA.length k+j) []).take (x.zA.length-(k+1))):=by simp[eC1,gl,show j<x.zA.length-1-k by omega]
  grind
 ·rw[Li (by simp[eC1,gl];omega),Li (by omega)]
theorem zMS(hk:k<x.zA.length):m.zM.drop k=m.zM.getD k []::m.zM.drop (k+1):=by
 have _:=h;have _:=hT;have hl:=hE.m.len
 grind[Hq]
theorem zY3(hk:k<x.zA.length){b:Int}:aM m D k (b::y)=PM m.Prime D (pw (PM m.Prime D) (idM D) (m.zM.getD k []) b.toNat) (aM m D (k+1) y):=by
 have M:=zVd hE.m.p.pos.1 (D:=D);unfold aM;rw[zMS h hE hT hk];refine sY M (hE.m.mat k hk) fun c hc=>?_
 obtain⟨i,hi,rfl⟩:=Ld.1 (List.mem_of_mem_drop hc);have:=hE.m.mat i (by rw[<-hE.m.len];exact hi)
 grind
theorem pwM(hk:k<x.zA.length):Mat m.Prime D (pw (PM m.Prime D) (idM D) (m.zM.getD k []) q):=by have _:=h;have _:=hT;have _:=hk;have hp:=hE.m.p.pos;exact vX (S:=Mat m.Prime D) (fun _ hB=>zHI (by omega) hB.1) q (tL)
theorem zMT:∀(d k:Nat),k+d=x.zA.length-> ∀r y v,Row m.Prime D r->V (suf x k) y->Row m.Prime D v->mul (suf (exx D x m T) k) (zeros d++r) (y++v)=y++adv m.Prime D (xL m.Prime D r (aM m D k y)) v
 |0,k,hk,r,y,v,hr,hy,hv=>by
  have hp:=hE.m.p.pos;rw[vO (x:=x) (k:=k)]at hy;obtain rfl:y=[]:=hy;rw[zAe h hE hT D k (by omega) (by omega)];have e:aM m D k []=idM D:=by unfold aM;cases m.zM.drop k<;>rfl
  rw[e,sZ hr];exact qG (by omega) D r v hr hv
 |d+1,k,hk,r,y,v,hr,hy,hv=>by
  have hl:=xX h hE hT;have hp:=hE.m.p.pos;have hA:=hE.m.mat k (by omega);rw[zY (x:=x)]at hy;cases y with
  |nil=>exact hy.elim
  |cons b y=>
   obtain⟨⟨b0,b1⟩,hy⟩:=hy;change b<at0 x.zA k at b1;rw[zY (x:=exx D x m T)];show mul _ (0::(zeros d++r)) (b::(y++v))=_;have e:=zHY h hE hT (k:=k) (by omega) b.toNat hr;rw[show x.zA.length-(k+1)=d from by omega]at e;rw[yK,zBt h hE hT (by omega),if_neg (by omega),e,zFN hA (by omega) hr,zMT d (k+1) (by omega) _ y v (wZ) hy hv,Kq,zY3 h hE hT (by omega),<-zEM (pwM h hE hT (by omega)).1];rfl
theorem zMU(hk:k<x.zA.length)(ih:∀a b,V (suf (exx D x m T) (k+1)) a->V (suf (exx D x m T) (k+1)) b->(mul (suf (exx D x m T) (k+1)) a b).take (x.zA.length-(k+1))=mul (suf x (k+1)) (a.take (x.zA.length-(k+1))) (b.take (x.zA.length-(k+1)))){v:Vec}(hv:V (suf (exx D x m T) (k+1)) v):
  (sig (suf (exx D x m T) (k+1)) (lvl (exx D x m T) k) v).take (x.zA.length-(k+1))=sig (suf x (k+1)) (lvl x k) (v.take (x.zA.length-(k+1))):=by
 have ok:=uH h hE hT (k:=k+1) (by omega);obtain⟨y,u,rfl,hy,hu⟩:=(tM h hE hT (x.zA.length-(k+1)) (k+1) (by omega) _).1 hv;have eD:=vB h (by omega) hy;obtain⟨y1,u1,e,eE,cv⟩:=(tM h hE hT (x.zA.length-(k+1)) (k+1) (by omega) _).1 (zHX h hE hT hk (y:=y));have gL:=vB h (by omega) eE;rw[zBF h hE hT hk hy hu,Js (by grind),Js eD];unfold sgG sig;rw[zEL (S:=V (suf (exx D x m T) (k+1))) (n:=mul (suf x (k+1))) (·.take (x.zA.length-(k+1))) (fun a b=>yO ok) ih _ _ _ (zRb h hE hT hk) (wD ok),zVe h hE hT hk,zAS h hE hT (by omega),Js (zT _),yC]
theorem zGK:∀(d k:Nat),k+d=x.zA.length-> ∀a b,V (suf (exx D x m T) k) a->V (suf (exx D x m T) k) b->(mul (suf (exx D x m T) k) a b).take d=mul (suf x k) (a.take d) (b.take d)
 |0,k,hk,a,b,_,_=>by rw[vO (x:=x),Kd];rfl
 |d+1,k,hk,a,b,ha,hb=>by
  have hl:=xX h hE hT;have ih:=zGK d (k+1) (by omega);have hd:d=x.zA.length-(k+1):=by omega
  have ok:=uH h hE hT (k:=k+1) (by omega);have ok0:=uH h hE hT (k:=k) (by omega);rw[hd]at ih;have hs:=fun v hv=>zMU h hE hT (k:=k) (by omega) ih (v:=v) hv
  rw[zY (x:=exx D x m T)]at ha hb ok0 ⊢
  rw[zY (x:=x)];cases a with
  |nil=>rfl
  |cons a u=>
  cases b with
  |nil=>rfl
  |cons b v=>
   have ej:∀q u,V (suf (exx D x m T) (k+1)) u->(iter q (sig (suf (exx D x m T) (k+1)) (lvl (exx D x m T) k)) u).take d=iter q (sig (suf x (k+1)) (lvl x k)) (u.take d)/\V (suf (exx D x m T) (k+1)) (iter q (sig (suf (exx D x m T) (k+1)) (lvl (exx D x m T) k)) u):=by
    intro q
    induction q with
    |zero=>intro u hu;exact⟨rfl,hu⟩
    |succ q ihq=>
     intro u hu;have:=ihq _ (zCu ok0 hu);rw[hd,hs u hu]at this;rw[hd];exact this
   obtain⟨aW,eR⟩:=ej b.toNat u ha.2;have hm:=yO ok eR hb.2;rw[yK,L5,L5,yK,zBt h hE hT (by omega),show(lvl x k).o=at0 x.zA k from rfl];have e1:=ih _ _ eR hb.2;rw[<-hd,aW]at e1;split
   ·rw[L5]
    have e2:=ih _ _ ok0.2.1 hm;rw[<-hd,e1]at e2;rw[e2]
    congr 2
    have ht:=(h.tl k (by omega)).1;have hw:=jC ht;have hwl:(lvl x k).w.length=x.zA.length-(k+1):=vB h (by omega) hw;rw[zHW h hE hT (by omega),Js (by omega)]
   grind
end
theorem zSm{p:Int}{d:Nat}(hp:2<=p):∀c∈wC d,Row p d c:=fun c hc=>by obtain⟨k,_,rfl⟩:=Jc.1 hc;exact tR hp
theorem zY4{p:Int}(hp:2<=p){d:Nat}{w:Vec}(hw:Row p d w):sig (tlv p d) ⟨p,zeros d,wC d⟩ w=w:=by
 unfold sig;rw[zGH,zDd (S:=Row p d) (m':=adv p d) (by grind[qG]) (fun _ _ _ _=>sQ) (wC d) w _ (zSm hp) (yX),zGI (by omega) (wC d) w _ (by rw[hw.1];simp[wC]) (fun i hi=>(hw.2 i (by rw[<-hw.1];exact hi)).1) (yX)]
 conv=>rhs;rw[vJ hw.1]
 refine zX fun j hj=>?_
 have gU:(wC d).length=d:=by simp[wC]
 rw[gU,wJ,Kq,kI (k:=j) hj (fun k hk gc=>by rw[zDe hk hj,if_neg (Ne.symm gc),Lo]),zDe hj hj,if_pos rfl,L8,tQ (hw.2 j hj)]
structure LCn (x e:SPr) (k:Nat):Prop where
 c1:∀j,k+1<=j->j<x.zA.length->pw (mul (suf e (k+1))) (zeros (suf e (k+1)).length) ((lvl e k).cs.getD (j-(k+1)) []) (at0 e.zA j).toNat=sig (suf e (k+1)) (lvl e k) ((e.zQ.getD j []).drop (k+1))
 c2:∀i,k+1<=i->i<x.zA.length-> ∀j,i+1<=j->j<x.zA.length->
  mul (suf e (k+1)) ((lvl e k).cs.getD (j-(k+1)) []) ((lvl e k).cs.getD (i-(k+1)) [])=mul (suf e (k+1)) ((lvl e k).cs.getD (i-(k+1)) []) (sig (suf e (k+1)) (lvl e k) (((e.zG.getD i []).getD (j-(i+1)) []).drop (k+1)))
 c3:sig (suf e (k+1)) (lvl e k) (lvl e k).w=(lvl e k).w
 c4:∀j,k+1<=j->j<x.zA.length->mul (suf e (k+1)) (lvl e k).w (iter (lvl e k).o.toNat (sig (suf e (k+1)) (lvl e k)) (xH (e.zA.length-(k+1)) (j-(k+1))))=mul (suf e (k+1)) (xH (e.zA.length-(k+1)) (j-(k+1))) (lvl e k).w
section
variable {D:Nat}{x:SPr}{m:zF}{T:Mx} (h:Pres x) (hE:ExB x.zA.length D x m T) (hT:∀i,i<T.length->Row m.Prime D (T.getD i []))
 include h hE hT
theorem zVf(hk:k<x.zA.length)(hj:x.zA.length<=j)(h2:j<x.zA.length+D):(lvl (exx D x m T) k).cs.getD (j-(k+1)) []=zeros (x.zA.length-(k+1))++(m.zM.getD k []).getD (j-x.zA.length) []:=by
 rw[zBE h hE hT hk,J2,Jk (by grind[qH]),qH h hE hT,eC2]
 grind
theorem zHZ(hk:k<x.zA.length)(hj:k+1<=j)(h2:j<x.zA.length):(lvl (exx D x m T) k).cs.getD (j-(k+1)) []=(lvl x k).cs.getD (j-(k+1)) []++T.getD (base x.zA.length k+(j-(k+1))) []:=by
 rw[zBE h hE hT hk,J2,Jy (by grind[qH]),eC1]
 grind
theorem zD4(hi:i<j)(hj:j<x.zA.length):Row m.Prime D (T.getD (base x.zA.length i+(j-(i+1))) []):=by have _:=h;have hn:=hE.hn;have hb:=zAd x.zA.length (by omega) i (by omega);exact hT _ (by rw[hE.t];omega)
theorem zBG(hi:i<x.zA.length):Row m.Prime D (T.getD i []):=by have _:=h;have hn:=hE.hn;have hb:=wA x.zA.length (by omega);exact hT _ (by rw[hE.t];omega)
theorem zDW(hj:k<=j)(h2:j<x.zA.length):((exx D x m T).zQ.getD j []).drop (k+1)=(x.zQ.getD j []).drop (k+1)++T.getD j []:=by have t1:=(h.tl j h2).1.1.1;have _:=hE;have _:=hT;have hP:(exx D x m T).zQ.getD j []=exP x.zA.length D x T j:=xJ;rw[hP,exP,if_pos h2,Ku (by omega)]
theorem yBO(hk:k<x.zA.length)(hj:x.zA.length<=j)(h2:j<x.zA.length+D):((exx D x m T).zQ.getD j []).drop (k+1)=zeros (x.zA.length-(k+1))++zeros D:=by
 have _:=h;have _:=hE;have _:=hT;have hP:(exx D x m T).zQ.getD j []=exP x.zA.length D x T j:=xJ;rw[hP,exP,if_neg (by omega),Lm]
 grind[zeros,Jn]
theorem zIa(hi:i<x.zA.length+D):(exx D x m T).zG.getD i []=exC x.zA.length D x m T i:=by
 have _:=h;have _:=hE;have _:=hT;show(gl (x.zA.length+D) (exC x.zA.length D x m T)).getD i []=_
 grind
theorem zFO(hk:k<=i)(hi:i<j)(hj:j<x.zA.length):(((exx D x m T).zG.getD i []).getD (j-(i+1)) []).drop (k+1)=((x.zG.getD i []).getD (j-(i+1)) []).drop (k+1)++T.getD (base x.zA.length i+(j-(i+1))) []:=by obtain⟨_,t2,t3⟩:=h.tl i (by omega);have t:=(t3 (j-(i+1)) (by omega)).1.1;rw[zIa h hE hT (by omega),exC,if_pos (by omega),xJ,exF,if_pos (by omega),Ku (by omega)]
theorem yBP(hk:k<x.zA.length)(hi:i<x.zA.length)(hj:x.zA.length<=j)(h2:j<x.zA.length+D):(((exx D x m T).zG.getD i []).getD (j-(i+1)) []).drop (k+1)=zeros (x.zA.length-(k+1))++(m.zM.getD i []).getD (j-x.zA.length) []:=by rw[zIa h hE hT (by omega),exC,if_pos (by omega),xJ,exF,if_neg (by omega),Ku (by simp;omega),Lm,show j-(i+1)-(x.zA.length-1-i)=j-x.zA.length from by omega];rfl
theorem yBQ(hk:k<x.zA.length)(hi:x.zA.length<=i)(hj:i<j)(h2:j<x.zA.length+D):(((exx D x m T).zG.getD i []).getD (j-(i+1)) []).drop (k+1)=zeros (x.zA.length-(k+1))++xH D (j-x.zA.length):=by
 rw[zIa h hE hT (by omega),exC,if_neg (by omega),unC,xJ,vC,zHV,<-zMR,kK]
 grind
theorem zY5(hr:zFF x m D)(hk:k<x.zA.length):pw (PM m.Prime D) (idM D) (m.zM.getD k []) (at0 x.zA k).toNat=aM m D (k+1) (lvl x k).w/\
  ∀i,k<i->i<x.zA.length->PM m.Prime D (m.zM.getD i []) (m.zM.getD k [])=PM m.Prime D (m.zM.getD k []) (aM m D (k+1) ((lvl x k).cs.getD (i-(k+1)) [])):=by
 have R:=zQX h hE.m hr (x.zA.length-k) k (by omega);rw[zY hk,zMS h hE hT hk]at R;obtain⟨r1,r2,_⟩:=R;refine⟨r1,fun i h1 h2=>?_⟩;have gy:=zAh h.w hk;have hl:=hE.m.len;refine r2 (i-(k+1)) _ _ ?_ ?_
 all_goals grind
theorem zv(hk:k<=x.zA.length):V (suf x k) (zeros (x.zA.length-k)):=by
 have _:=hE;have _:=hT;have:=wD (h.okAt hk)
 grind[yC]
theorem zVg(hr:zFF x m D)(hk:k<x.zA.length)(hc:LCn x (exx D x m T) k):LC (exx D x m T) k:=by
 have hp:=hE.m.p.pos;have hl:=xX h hE hT;have hA:=hE.m.mat k hk;obtain⟨r1,r2⟩:=zY5 h hE hT hr hk;have hz:=zv h hE hT (k:=k+1) (by omega);have di:Row m.Prime D (zeros D):=yX;have hw:=(zYt h hk).2;refine⟨fun j h1 h2=>?_,fun i h1 h2 j h3 h4=>?_,hc.c3,fun j h1 h2=>?_⟩
 ·rw[hl]at h2
  rcases Jo j x.zA.length with g|g
  ·exact hc.c1 j h1 g
  ·have hq:=hA.2 (j-x.zA.length) (by omega)
   rw[zVf h hE hT hk g h2,yBO h hE hT hk g h2,zGJ h hE hT hk di,zAw,zBD h hE hT g h2,zAS h hE hT (by omega)];have e:=zOV h hE hT (d:=x.zA.length-(k+1)) (k:=k+1) (by omega) [(m.zM.getD k []).getD (j-x.zA.length) []] [m.Prime] _ _ (by grind) hz di;have e2:iter m.Prime.toNat (fun w=>adv m.Prime D w ((m.zM.getD k []).getD (j-x.zA.length) [])) (zeros D)=zeros D:=zOW;unfold pw;refine e.trans ?_;show zeros _++iter m.Prime.toNat (fun w=>adv m.Prime D w ((m.zM.getD k []).getD (j-x.zA.length) [])) (zeros D)=_;rw[e2]
 ·rw[hl]at h4
  rcases Jo j x.zA.length with g|g
  ·exact hc.c2 i h1 (by omega) j h3 g
  ·have hq:=hA.2 (j-x.zA.length) (by omega)
   rw[zVf h hE hT hk g h4];rcases Jo i x.zA.length with gi|gi
   ·have hAi:=hE.m.mat i gi
    have dv:=hAi.2 (j-x.zA.length) (by omega);have eL:=(kF h hk h1 gi).2.2;have ht:=zD4 h hE hT (i:=k) (j:=i) (by omega) gi;rw[zHZ h hE hT hk h1 gi,yBP h hE hT hk gi g h4,zGJ h hE hT hk dv,zMT h hE hT _ (k+1) (by omega) _ _ _ hq eL ht,zD3 h hE hT _ (k+1) (by omega) _ _ _ eL ht (wZ),uX]
    congr 2
    rw[<-zB6 (by rw[hA.1];omega),<-zB6 (by rw[hAi.1];omega),r2 i (by omega) gi]
   ·have dv:=hA.2 (i-x.zA.length) (by omega)
    rw[zVf h hE hT hk gi (by omega),yBQ h hE hT hk gi (by omega) h4,zGJ h hE hT hk (tR),zSl (by omega) hA,zD3 h hE hT _ (k+1) (by omega) _ _ _ hz hq dv,zD3 h hE hT _ (k+1) (by omega) _ _ _ hz dv hq,uX]
 ·rw[hl]at h2 ⊢
  rcases Jo j x.zA.length with g|g
  ·have:=hc.c4 j h1 g
   grind
  ·have ht:=zBG h hE hT hk
   have hu:Row m.Prime D (xH D (j-x.zA.length)):=tR;rw[show x.zA.length+D-(k+1)=x.zA.length-(k+1)+D from by omega,show j-(k+1)=x.zA.length-(k+1)+(j-x.zA.length)from by omega,zMR,zBt h hE hT hk,zHY h hE hT hk _ hu,zHW h hE hT hk,zFN hA (by omega) hu,r1,zMT h hE hT _ (k+1) (by omega) _ _ _ hu hw ht,zD3 h hE hT _ (k+1) (by omega) _ _ _ hw ht (wZ),uX]
theorem yBR(hk:x.zA.length<=k)(h2:k<x.zA.length+D):LC (exx D x m T) k:=by
 have hp:=hE.m.p.pos;have hl:=xX h hE hT;have hs:=zAe h hE hT (x.zA.length+D-(k+1)) (k+1) (by omega) (by omega);have hL:=zAe h hE hT (x.zA.length+D-(k+1)+1) k (by omega) (by omega);rw[zY,hs,tlv]at hL;have bi:lvl (exx D x m T) k=⟨m.Prime,zeros (x.zA.length+D-(k+1)),wC (x.zA.length+D-(k+1))⟩:=(Qd.inj hL).1
 generalize hd:x.zA.length+D-(k+1)=d at*
 have eA:∀w,Row m.Prime d w->sig (tlv m.Prime d) ⟨m.Prime,zeros d,wC d⟩ w=w:=by grind[zY4]
 have bR:Row m.Prime d (zeros d):=yX;have dX:∀j,(wC d).getD j []=if j<d then xH d j else[]:=fun j=>by
  by_cases g:j<d
  ·rw[if_pos g,zHD g]
  ·rw[if_neg g,J2,Li (by grind[wC])];rfl
 refine⟨fun j h1 h3=>?_,fun i h1 h3 j h4 h5=>?_,?_,fun j h1 h3=>?_⟩
 ·rw[hl]at h3
  have hP:(exx D x m T).zQ.getD j []=exP x.zA.length D x T j:=xJ;rw[hs,bi,zBD h hE hT (by omega) h3,hP,exP,if_neg (by omega),Lm,hd];show pw (mul (tlv m.Prime d)) (zeros (tlv m.Prime d).length) ((wC d).getD (j-(k+1)) []) m.Prime.toNat=sig (tlv m.Prime d) ⟨m.Prime,zeros d,wC d⟩ (zeros d);rw[eA _ bR,dX,if_pos (by omega),zGH];have e:=zDd (S:=Row m.Prime d) (m':=adv m.Prime d) (fun a b ha hb=>qG (by omega) d a b ha hb) (fun _ _ _ _=>sQ) [xH d (j-(k+1))] [m.Prime] (zeros d) (by grind[tR]) bR;exact e.trans (zOW)
 ·rw[hl]at h3 h5
  rw[hs,bi,zIa h hE hT h3,exC,if_neg (by omega),unC,xJ,vC,zHV,hd];have e:(mkv d fun q=>if k+1+q=i+1+(j-(i+1))then(1:Int)else 0)=xH d (j-(k+1)):=by
   rw[kK]
   grind
  rw[e,eA _ (tR)];show mul (tlv m.Prime d) ((wC d).getD (j-(k+1)) []) ((wC d).getD (i-(k+1)) [])=mul (tlv m.Prime d) ((wC d).getD (i-(k+1)) []) (xH d (j-(k+1)));rw[dX,dX,if_pos (by omega),if_pos (by omega),qG (by omega) d _ _ (tR) (tR),qG (by omega) d _ _ (tR) (tR),uX]
 ·grind
 ·rw[hl]at h3 ⊢
  have hu:Row m.Prime d (xH d (j-(k+1))):=tR;rw[hs,bi,hd,zEH (eA _ hu),qG (by omega) d _ _ bR hu,qG (by omega) d _ _ hu bR,uX]
theorem zIb:∀(d k:Nat),x.zA.length<=k->k+d=x.zA.length+D->xC (suf (exx D x m T) k)
 |0,k,hk,hd=>by rw[vO (by grind[xX])];simp only[xC]
 |d+1,k,hk,hd=>(kG (zEJ h hE hT) (by rw[xX h hE hT];omega)).2 ⟨zIb d (k+1) (by omega) (by omega),by grind[yBR]⟩
theorem zRc(hr:zFF x m D):xC (suf (exx D x m T) 0)↔ ∀k,k<x.zA.length->LCn x (exx D x m T) k:=by
 have hl:=xX h hE hT;have key:∀(d k:Nat),k+d=x.zA.length->(xC (suf (exx D x m T) k)↔ ∀i,k<=i->i<x.zA.length->LCn x (exx D x m T) i):=by
  intro d
  induction d with
  |zero=>grind[zIb]
  |succ d ih=>
   intro k hk;rw[kG (zEJ h hE hT) (by omega),ih (k+1) (by omega)];constructor
   ·rintro⟨g1,g2⟩ i h1 h2
    rcases Jo k i with g|g
    ·grind
    ·obtain rfl:i=k:=by omega
     exact⟨fun j a b=>g2.c1 j a (by omega),fun i a b j c d=>g2.c2 i a (by omega) j c (by omega),g2.c3,fun j a b=>g2.c4 j a (by omega)⟩
   grind[zVg]
 simp_all
end
def prE(x:SPr)(k:Nat)(w:Vec):zC:=⟨fv k (w.take (x.zA.length-k)),w.drop (x.zA.length-k)⟩
theorem qI{u:Vec}(hy:y.length=x.zA.length-k):prE x k (y++u)=⟨fv k y,u⟩:=by grind[prE]
theorem zBH{α α':Type}{body:α×α'×Int->Option ((α×α'×Int)⊕(α×α'))}{S:β->Prop}(e1:β->α)(e2:β->α')(g:β->β)(n:Int)(hn:0<=n)(hS:∀a,S a->S (g a))
  (h:∀a(i:Nat),S a->(i:Int)<n->body (e1 a,e2 a,(i:Int))=jf (.inl (e1 (g a),e2 (g a),((i+1:Nat):Int))))(he:∀a,S a->body (e1 a,e2 a,n)=jf (.inr (e1 a,e2 a))){a:β}(ha:S a):
  zE body (e1 a,e2 a,0)=jf (e1 (iter n.toNat g a),e2 (iter n.toNat g a)):=by
 have ej:∀k,S (iter k g a):=fun k=>vX (S:=S) hS k ha
 exact zO (body:=body) (r:=(e1 (iter n.toNat g a),e2 (iter n.toNat g a))) (fun i=>(e1 (iter i g a),e2 (iter i g a),(i:Int))) n.toNat (by grind[xR]) (by grind)
structure Mv (D n:Nat) (m0 m:zF):Prop where
 pr:m0.Prime=m.Prime
 mv:∀k,k<n-> ∀u,Row m.Prime D u->zXf m0 u (k:Int)=jf (xL m.Prime D u (m.zM.getD k []))
section
variable {D:Nat}{x:SPr}{m0 m:zF}{T:Mx} (h:Pres x) (hE:ExB x.zA.length D x m T) (hT:∀i,i<T.length->Row m.Prime D (T.getD i []))
def zVh(D:Nat)(x:SPr)(m0 m:zF)(T:Mx)(k:Nat)(g:zP->Int->zC->zC->Option zC):Prop:=
 ∀a b,V (suf (exx D x m T) k) a->V (suf (exx D x m T) k) b->g ⟨x,m0,T⟩ k (prE x k a) (prE x k b)=jf (prE x k (mul (suf (exx D x m T) k) a b))
def zVi(D:Nat)(x:SPr)(m0 m:zF)(T:Mx)(k:Nat)(g:zP->Int->zC->Option zC):Prop:=
 ∀v,V (suf (exx D x m T) (k+1)) v->g ⟨x,m0,T⟩ k (prE x (k+1) v)=jf (prE x (k+1) (sig (suf (exx D x m T) (k+1)) (lvl (exx D x m T) k) v))
 include h hE hT
theorem zRd(hk:k<=i)(hi:i<j)(hj:j<x.zA.length):zL0 ⟨x,m0,T⟩ (i:Int) (j:Int)=jf (prE x (k+1) ((((exx D x m T).zG.getD i []).getD (j-(i+1)) []).drop (k+1)))/\V (suf (exx D x m T) (k+1)) ((((exx D x m T).zG.getD i []).getD (j-(i+1)) []).drop (k+1)):=by
 have hn:=hE.hn;have hb:=zAd x.zA.length (by omega) i (by omega);have ht:=hE.t;obtain⟨_,t2,t3⟩:=h.tl i (by omega);have tt:=t3 (j-(i+1)) (by omega);obtain⟨e1,e2⟩:=zC0 (k:=k+1) tt;have hl:=vB h (by omega) e2;have gy:=h.cl;have hr:=zD4 h hE hT hi hj;refine⟨?_,?_⟩
 ·rw[zFO h hE hT hk hi hj,qI hl,<-e1]
  unfold zL0;dsimp only
  rw[yA [],bs,zB,bs,zB,bs,show(j:Int)-(i:Int)-1=((j-(i+1):Nat):Int)from by omega,yA [],bs,zOM x.zA.length (by omega) j hj i hi,bs,yA [],bs,show j-i-1=j-(i+1)from by omega]
 ·rw[zFO h hE hT hk hi hj]
  exact(tM h hE hT (x.zA.length-(k+1)) (k+1) (by omega) _).2 ⟨_,_,rfl,e2,hr⟩
theorem zEN(hk:k<j)(hj:j<x.zA.length):zL0 ⟨x,m0,T⟩ (k:Int) (j:Int)=jf (prE x (k+1) ((lvl (exx D x m T) k).cs.getD (j-(k+1)) []))/\V (suf (exx D x m T) (k+1)) ((lvl (exx D x m T) k).cs.getD (j-(k+1)) []):=by
 have e:(lvl (exx D x m T) k).cs.getD (j-(k+1)) []=(((exx D x m T).zG.getD k []).getD (j-(k+1)) []).drop (k+1):=by
  have hC:((exx D x m T).zG.getD k []).length=x.zA.length+D-1-k:=by rw[zIa h hE hT (by omega),exC,if_pos (by omega),wL]
  simp only[lvl];rw[J2,Jw,J3 (by omega),J2 (l:=(exx D x m T).zG.getD k []),J3 (by omega)];rfl
 rw[e];exact zRd h hE hT (Je k) hk hj
theorem zKQ(hk:k<=j)(hj:j<x.zA.length):zPJ ⟨x,m0,T⟩ (j:Int)=jf (prE x (k+1) (((exx D x m T).zQ.getD j []).drop (k+1)))/\V (suf (exx D x m T) (k+1)) (((exx D x m T).zQ.getD j []).drop (k+1)):=by
 have hn:=hE.hn;have hb:=wA x.zA.length (by omega);have ht:=hE.t;have pd:=h.pl;have t1:=(h.tl j hj).1;obtain⟨e1,e2⟩:=zC0 (k:=k+1) t1;have hl:=vB h (by omega) e2;have hr:=zBG h hE hT hj;refine⟨?_,?_⟩
 ·rw[zDW h hE hT hk hj,qI hl,<-e1]
  grind[zPJ,yA]
 ·rw[zDW h hE hT hk hj]
  exact(tM h hE hT (x.zA.length-(k+1)) (k+1) (by omega) _).2 ⟨_,_,rfl,e2,hr⟩
theorem zKR(hk:k<=x.zA.length)(h0:0<x.zA.length):zI4 ⟨x,m0,T⟩=jf (prE x k (zeros (suf (exx D x m T) k).length)):=by
 have hn:=hE.hn;have h3:=hE.m.d3;have hb:=wA x.zA.length (by omega);have ht:=hE.t;have hr:=zBG h hE hT h0;have cB:=hr.1;unfold zI4;dsimp only
 have e0:ixO T 0=jf (T.getD 0 []):=by grind[yA]
 rw[jk,zH,e0,bs,yI,bs,yI,bs,zAS h hE hT hk,qI (zT _),cB,fv]
 grind[zeros,Jn]
theorem zVj{u v:Vec}(hu:Row m.Prime D u)(hv:Row m.Prime D v):f_x m.Prime u 1 v=jf (adv m.Prime D u v):=by
 have _:=h;have _:=hT;have h3:=hE.m.d3;rw[uV hE.m.p hu hv (by omega) (by omega)]
 congr 1
 exact zX (by simp)
theorem prV(hk:k<=x.zA.length){w:Vec}(hw:V (suf (exx D x m T) k) w):∃y u,w=y++u/\V (suf x k) y/\Row m.Prime D u/\prE x k w=⟨fv k y,u⟩/\y.length=x.zA.length-k:=by obtain⟨y,u,rfl,hy,hu⟩:=(tM h hE hT (x.zA.length-k) k (by omega) _).1 hw;have eD:=vB h hk hy;exact⟨y,u,rfl,hy,hu,qI eD,eD⟩
variable (hM:Mv D x.zA.length m0 m)
 include hM
theorem zMV(hk:k<x.zA.length){g:zP->Int->zC->zC->Option zC}(hg:zVh D x m0 m T (k+1) g):zVi D x m0 m T k (b_h g):=by
 intro v hv;have hn:=hE.hn;have hp:=hE.m.p.pos;have ok:=uH h hE hT (k:=k+1) (by omega);have hA:=hE.m.mat k hk;obtain⟨y,u,rfl,hy,hu,eh,eD⟩:=prV h hE hT (k:=k+1) (by omega) hv;obtain⟨_,hyr⟩:=zDP h.os (x.zA.length-(k+1)) (k+1) y (by omega) hy;have gy:=qH h hE hT (k:=k);have gY:=zRb h hE hT hk;have pP:∀i,i<x.zA.length-(k+1)->(eC1 x T k).getD i []=(lvl (exx D x m T) k).cs.getD i []:=fun i hi=>by rw[zBE h hE hT hk,J2,J2,Jy (by omega)]
 obtain⟨A,dJ⟩:∃A:Nat->Vec,∀i,A i=img (mul (suf (exx D x m T) (k+1))) ((eC1 x T k).take i) (y.take i) (zeros (suf (exx D x m T) (k+1)).length):=⟨_,fun _=>rfl⟩;have hI:∀i,V (suf (exx D x m T) (k+1)) (A i):=fun i=>by rw[dJ];exact qE (yO ok) _ _ (by grind) (wD ok)
 have hA0:A 0=zeros (suf (exx D x m T) (k+1)).length:=by grind[img]
 have hAn:A (x.zA.length-(k+1))=sgG D x m T k y:=by rw[dJ,Jx (by omega),Jx (by omega)];rfl
 rw[eh];unfold b_h;dsimp only
 rw[zKR h hE hT (k:=k+1) (by omega) (by omega),bs,zB,bs,cs];have:=zO (body:=zXg g ⟨x,m0,T⟩ k ⟨fv (k+1) y,u⟩) (r:=((prE x (k+1) (sgG D x m T k y)).x,(prE x (k+1) (sgG D x m T k y)).v))
  (fun i=>((prE x (k+1) (A i)).x,(prE x (k+1) (A i)).v,((k+1+i:Nat):Int))) (x.zA.length-(k+1)) (fun i hi=>by
  have hr:=hyr i hi;obtain⟨c1,c2⟩:=zEN h hE hT (k:=k) (j:=k+1+i) (by omega) (by omega);rw[show k+1+i-(k+1)=i from by omega]at c1 c2;unfold zXg;dsimp only
  rw[jk (by grind[zAQ]),zH];rw[zBH (S:=V (suf (exx D x m T) (k+1))) (fun w=>(prE x (k+1) w).x) (fun w=>(prE x (k+1) w).v) (fun w=>mul (suf (exx D x m T) (k+1)) w ((lvl (exx D x m T) k).cs.getD i [])) (at0 y i) hr.1 (by grind[yO]) (fun w q hw hq=>by
   unfold zZi;dsimp only
   rw[fv,zMy,bs,jk hq,zH,zB,bs,c1,bs,cs,show(zC.mk (prE x (k+1) w).x (prE x (k+1) w).v)=prE x (k+1) w from rfl,hg w _ hw c2,bs,zB,bs,cs]) (fun w hw=>by
   unfold zZi;dsimp only
   rw[fv,zMy,bs,jj (by omega),zK]) (hI i),bs,zB,bs,cs]
  rw[dJ (i+1),zBn _ _ _ _ (by omega) (by omega),pP i hi,<-dJ];rfl) (by
  unfold zXg;dsimp only
  rw[jj (by grind[zAQ]),zK,hAn])
 rw[hA0,Um]at this;rw[this,bs,hM.mv k hk _ hu,bs];obtain⟨y1,u1,e,eE,cv,i8,mS⟩:=prV h hE hT (k:=k+1) (by omega) (zHX h hE hT hk (y:=y));rw[zBF h hE hT hk hy hu,i8,e,Js mS,K1 mS,qI mS];dsimp only
 rw[hM.pr,zVj h hE hT cv (wZ),bs]
theorem zVk(hk:k<x.zA.length){g:zP->Int->zC->zC->Option zC}{gi:zP->Int->zC->Option zC}(hg:zVh D x m0 m T (k+1) g)(hi:zVi D x m0 m T k gi):zVh D x m0 m T k (b_b gi g):=by
 have _:=hM;intro a b ha hb;have hn:=hE.hn;have hl:=xX h hE hT;have hp:=(h.os.2 k hk).pos;have ok:=uH h hE hT (k:=k+1) (by omega);have ok0:=uH h hE hT (k:=k) (by omega);obtain⟨al,au,rfl,bH,hau,fH,pS⟩:=prV h hE hT (k:=k) (by omega) ha;obtain⟨bl,bu,rfl,fw,hbu,te,hbll⟩:=prV h hE hT (k:=k) (by omega) hb;rw[fH,te];rw[zY (x:=x) hk]at bH fw;rw[zY (x:=exx D x m T)]at ok0 ⊢
 obtain⟨a0,a,rfl⟩:∃a0 a',al=a0::a':=by cases al with|nil=>grind|cons p q=>simp
 obtain⟨b0,b,rfl⟩:∃a0 a',bl=a0::a':=by cases bl with|nil=>grind|cons p q=>simp
 obtain⟨⟨a1,a2⟩,bH⟩:=bH;obtain⟨⟨b1,b2⟩,fw⟩:=fw;change a0<at0 x.zA k at a2;change b0<at0 x.zA k at b2;have j6:=vB h (by omega) bH;have iY:=vB h (by omega) fw;have hA:=(tM h hE hT (x.zA.length-(k+1)) (k+1) (by omega) (a++au)).2 ⟨_,_,rfl,bH,hau⟩;have hB:=(tM h hE hT (x.zA.length-(k+1)) (k+1) (by omega) (b++bu)).2 ⟨_,_,rfl,fw,hbu⟩;have own:∀u,V (suf x (k+1)) u->f_z (fv (k+1) u)=jf (fv (k+1) u):=by grind[tH,zAQ]
 have own':∀(c:Int) u,V (suf x (k+1)) u->f_z (fv k (c::u))=jf (fv k (c::u)):=fun c u hu=>tH (by have:=vB h (by omega) hu;rw[fv,J5,zT,J7];omega)
 have eA:∀u,V (suf (exx D x m T) (k+1)) u->V (suf (exx D x m T) (k+1)) (sig (suf (exx D x m T) (k+1)) (lvl (exx D x m T) k) u):=by grind[zCu]
 have ej:V (suf (exx D x m T) (k+1)) (iter b0.toNat (sig (suf (exx D x m T) (k+1)) (lvl (exx D x m T) k)) (a++au)):=vX eA _ hA;have ea:(⟨fv (k+1) a,au⟩:zC)=prE x (k+1) (a++au):=(qI j6).symm;have eb:(⟨fv (k+1) b,bu⟩:zC)=prE x (k+1) (b++bu):=(qI iY).symm;unfold b_b;dsimp only
 rw[jj (by omega),zK,own' _ _ bH,bs,own' _ _ fw,bs,zBT,bs,zBT,bs,J8,zBS,zBS,jJ,jJ];have e1:zE (zSL gi ⟨x,m0,T⟩ k ⟨fv k (b0::b),bu⟩) (zeros (k+1)++a,au,0)=jf ((prE x (k+1) (iter b0.toNat (sig (suf (exx D x m T) (k+1)) (lvl (exx D x m T) k)) (a++au))).x,(prE x (k+1) (iter b0.toNat (sig (suf (exx D x m T) (k+1)) (lvl (exx D x m T) k)) (a++au))).v):=by
  have:=zBH (body:=zSL gi ⟨x,m0,T⟩ k ⟨fv k (b0::b),bu⟩) (S:=V (suf (exx D x m T) (k+1))) (fun w=>(prE x (k+1) w).x) (fun w=>(prE x (k+1) w).v) (sig (suf (exx D x m T) (k+1)) (lvl (exx D x m T) k)) b0 b1 eA (fun w q hw hq=>by
   unfold zSL;dsimp only
   rw[zBT,bs,jk hq,zH,show(zC.mk (prE x (k+1) w).x (prE x (k+1) w).v)=prE x (k+1) w from rfl,hi w hw,bs,zB,bs,cs]) (fun w hw=>by
   unfold zSL;dsimp only
   rw[zBT,bs,jj (by omega),zK]) hA
  grind
 rw[e1,bs,zB,bs,cs];dsimp only
 rw[show zeros (k+1)++b=fv (k+1) b from rfl,eb,show(zC.mk (prE x (k+1) (iter b0.toNat (sig (suf (exx D x m T) (k+1)) (lvl (exx D x m T) k)) (a++au))).x (prE x (k+1) (iter b0.toNat (sig (suf (exx D x m T) (k+1)) (lvl (exx D x m T) k)) (a++au))).v)=prE x (k+1) (iter b0.toNat (sig (suf (exx D x m T) (k+1)) (lvl (exx D x m T) k)) (a++au))from rfl,hg _ _ ej hB,bs,bs,bs,zB,bs,yJ hk,bs];have hm:=yO ok ej hB;show _=jf (prE x k (mul _ (a0::(a++au)) (b0::(b++bu))));rw[yK,zBt h hE hT hk]
 generalize mul (suf (exx D x m T) (k+1)) (iter b0.toNat (sig (suf (exx D x m T) (k+1)) (lvl (exx D x m T) k)) (a++au)) (b++bu)=r at hm ⊢
 have fin:∀(c:Int) w,V (suf (exx D x m T) (k+1)) w->((f_z (prE x (k+1) w).x).bind fun r22=>(ixO r22 (k:Int)).bind fun _=>jf (zC.mk (r22.set k c) (prE x (k+1) w).v))=jf (prE x k (c::w)):=fun c w hw=>by
  obtain⟨w1,w2,rfl,h1,h2,h3,h4⟩:=prV h hE hT (k:=k+1) (by omega) hw;have e3:prE x k (c::(w1++w2))=⟨fv k (c::w1),w2⟩:=by grind[qI]
  rw[h3,e3];dsimp only
  rw[own _ h1,bs,fv,<-jJ,zBT,bs,zBS]
 by_cases hge:a0+b0>=at0 x.zA k
 ·obtain⟨p1,p2⟩:=zKQ h hE hT (k:=k) (j:=k) (Je k) hk
  change V (suf (exx D x m T) (k+1)) (lvl (exx D x m T) k).w at p2;rw[jk hge,zH,if_pos hge,bs,zB,bs,bs,p1,bs];have e4:=hg _ _ p2 hm;rw[show(((exx D x m T).zQ.getD k []).drop (k+1))=(lvl (exx D x m T) k).w from rfl,e4,bs]
  grind[yO]
 ·rw[jj hge,zK,if_neg hge]
  grind
theorem zDX:∀(d k:Nat),k+d=x.zA.length->(∀q,2*d+1<=q->zVh D x m0 m T k (zPL q))/\(1<=d-> ∀q,2*d<=q->zVi D x m0 m T k (zPK q))
 |0,k,hk=>by
  refine⟨fun q hq a b ha hb=>?_,fun h=>by omega⟩;have hn:=hE.hn;have hp:=hE.m.p.pos;obtain⟨q,rfl⟩:∃m',q=m'+1:=⟨q-1,by omega⟩;rw[zAe h hE hT D k (by omega) (by omega)]at ha hb ⊢
  have pT:=(zD2 _ _).1 ha;have gZ:=(zD2 _ _).1 hb;show b_b _ _ ⟨x,m0,T⟩ k _ _=_;unfold b_b;have e:∀w:Vec,prE x k w=⟨zeros k,w⟩:=fun w=>by rw[prE,show x.zA.length-k=0 from by omega,Kd,Uf,fv,Jh]
  rw[e,e,e];dsimp only
  rw[jk,zH,yI,bs,hM.pr,zVj h hE hT pT gZ,bs,qG (by omega) D _ _ pT gZ,show x.zA.length=k from by omega];rfl
 |d+1,k,hk=>by
  obtain⟨h1,h2⟩:=zDX d (k+1) (by omega);have hI:∀q,2*(d+1)<=q->zVi D x m0 m T k (zPK q):=fun q hq=>by obtain⟨q,rfl⟩:∃m',q=m'+1:=⟨q-1,by omega⟩;exact zMV h hE hT hM (by omega) (h1 q (by omega))
  refine⟨fun q hq=>?_,fun _=>hI⟩;obtain⟨q,rfl⟩:∃m',q=m'+1:=⟨q-1,by omega⟩;exact zVk h hE hT hM (by omega) (h1 q (by omega)) (hI q (by omega))
theorem zEO(hk:k<=x.zA.length):zVh D x m0 m T k f_b:=fun a b ha hb=>
 zAr (2*(x.zA.length-k)+1) fun q hq=>(zDX h hE hT hM (x.zA.length-k) k (by omega)).1 q hq a b ha hb
theorem zAF(hk:k<x.zA.length):zVi D x m0 m T k f_h:=fun v hv=>
 zAr (2*(x.zA.length-k)) fun q hq=>(zDX h hE hT hM (x.zA.length-k) k (by omega)).2 (by omega) q hq v hv
end
structure GR (p:Int) (D:Nat) (Z:Vec->Prop) (L:Mx) (N:Nat) (C:Prop):Prop where
 len:L.length<=N
 row:∀r∈L,Row p D r
 iff:(∀r∈L,Z r)↔C
theorem GR.nil{p:Int}:GR p D Z [] N True:=⟨by simp,by simp,by simp⟩
theorem GR.app{p:Int}{M:Nat}{L L':Mx}{C':Prop}(h:GR p D Z L N C)(h':GR p D Z L' M C'):GR p D Z (L++L') (N+M) (C/\C'):=by
 refine⟨by have:=h.len;have:=h'.len;grind,fun r hr=>?_,?_⟩
 ·rcases Ja.1 hr with g|g
  ·exact h.row r g
  ·exact h'.row r g
 ·rw[<-h.iff,<-h'.iff]
  grind
theorem GR.one{p:Int}(hr:Row p D r)(h:Z r↔C):GR p D Z [r] 1 C:=
 ⟨by simp,by grind,by grind⟩
theorem GR.to{p:Int}{M:Nat}{L:Mx}{C':Prop}(h:GR p D Z L N C)(hN:N<=M)(hc:C↔C'):GR p D Z L M C':=⟨by have:=h.len;omega,h.row,h.iff.trans hc⟩
def c1E(e:SPr)(k j:Nat):Prop:=pw (mul (suf e (k+1))) (zeros (suf e (k+1)).length) ((lvl e k).cs.getD (j-(k+1)) []) (at0 e.zA j).toNat=sig (suf e (k+1)) (lvl e k) ((e.zQ.getD j []).drop (k+1))
def c2E(e:SPr)(k i j:Nat):Prop:=mul (suf e (k+1)) ((lvl e k).cs.getD (j-(k+1)) []) ((lvl e k).cs.getD (i-(k+1)) [])=mul (suf e (k+1)) ((lvl e k).cs.getD (i-(k+1)) []) (sig (suf e (k+1)) (lvl e k) (((e.zG.getD i []).getD (j-(i+1)) []).drop (k+1)))
def c4E(e:SPr)(k j:Nat):Prop:=mul (suf e (k+1)) (lvl e k).w (iter (lvl e k).o.toNat (sig (suf e (k+1)) (lvl e k)) (xH (e.zA.length-(k+1)) (j-(k+1))))=mul (suf e (k+1)) (xH (e.zA.length-(k+1)) (j-(k+1))) (lvl e k).w
def c1Q(Q:Nat->Vec->Vec->Prop)(e:SPr)(k j:Nat):Prop:=Q (k+1) (pw (mul (suf e (k+1))) (zeros (suf e (k+1)).length) ((lvl e k).cs.getD (j-(k+1)) []) (at0 e.zA j).toNat) (sig (suf e (k+1)) (lvl e k) ((e.zQ.getD j []).drop (k+1)))
def c2Q(Q:Nat->Vec->Vec->Prop)(e:SPr)(k i j:Nat):Prop:=Q (k+1) (mul (suf e (k+1)) ((lvl e k).cs.getD (j-(k+1)) []) ((lvl e k).cs.getD (i-(k+1)) [])) (mul (suf e (k+1)) ((lvl e k).cs.getD (i-(k+1)) []) (sig (suf e (k+1)) (lvl e k) (((e.zG.getD i []).getD (j-(i+1)) []).drop (k+1))))
def c4Q(Q:Nat->Vec->Vec->Prop)(e:SPr)(k j:Nat):Prop:=Q (k+1) (mul (suf e (k+1)) (lvl e k).w (iter (lvl e k).o.toNat (sig (suf e (k+1)) (lvl e k)) (xH (e.zA.length-(k+1)) (j-(k+1))))) (mul (suf e (k+1)) (xH (e.zA.length-(k+1)) (j-(k+1))) (lvl e k).w)
structure LCQ (Q:Nat->Vec->Vec->Prop) (x e:SPr) (k:Nat):Prop where
 c1:∀j,k+1<=j->j<x.zA.length->c1Q Q e k j
 c2:∀i,k+1<=i->i<x.zA.length-> ∀j,i+1<=j->j<x.zA.length->c2Q Q e k i j
 c3:Q (k+1) (sig (suf e (k+1)) (lvl e k) (lvl e k).w) (lvl e k).w
 c4:∀j,k+1<=j->j<x.zA.length->c4Q Q e k j
section
variable {D:Nat}{x:SPr}{m0 m:zF}{T:Mx} (h:Pres x) (hE:ExB x.zA.length D x m T) (hT:∀i,i<T.length->Row m.Prime D (T.getD i []))
 include h hE hT
theorem zBI(hk:k<=x.zA.length){a b:Vec}(ha:V (suf (exx D x m T) k) a)(hb:V (suf (exx D x m T) k) b):(mul (suf (exx D x m T) k) a b).take (x.zA.length-k)=mul (suf x k) (a.take (x.zA.length-k)) (b.take (x.zA.length-k)):=by grind[zGK]
theorem zDY(hk:k<x.zA.length){v:Vec}(hv:V (suf (exx D x m T) (k+1)) v):(sig (suf (exx D x m T) (k+1)) (lvl (exx D x m T) k) v).take (x.zA.length-(k+1))=sig (suf x (k+1)) (lvl x k) (v.take (x.zA.length-(k+1))):=
 by grind[zMU,zGK]
theorem zFP(hk:k<x.zA.length){v:Vec}(hv:V (suf (exx D x m T) (k+1)) v):V (suf (exx D x m T) (k+1)) (sig (suf (exx D x m T) (k+1)) (lvl (exx D x m T) k) v):=by
 have gz:=uH h hE hT (k:=k) (by omega);rw[zY (x:=exx D x m T) (by grind[xX])]at gz
 grind[zCu]
theorem zKS{k:Nat}(hk:k<x.zA.length):∀(q:Nat){v:Vec},V (suf (exx D x m T) (k+1)) v->(iter q (sig (suf (exx D x m T) (k+1)) (lvl (exx D x m T) k)) v).take (x.zA.length-(k+1))=iter q (sig (suf x (k+1)) (lvl x k)) (v.take (x.zA.length-(k+1)))
 |0,_,_=>rfl
 |q+1,v,hv=>by have:=zKS hk q (zFP h hE hT hk hv);rw[zDY h hE hT hk hv]at this;exact this
theorem zY6(hk:k<=x.zA.length):(zeros (suf (exx D x m T) k).length).take (x.zA.length-k)=zeros (suf x k).length:=by grind[zAS,zT,yC]
theorem yAr(hk:k<=x.zA.length){c:Vec}(hc:V (suf (exx D x m T) k) c)(q:Nat):(pw (mul (suf (exx D x m T) k)) (zeros (suf (exx D x m T) k).length) c q).take (x.zA.length-k)=pw (mul (suf x k)) (zeros (suf x k).length) (c.take (x.zA.length-k)) q:=by have ok:=uH h hE hT (k:=k) (by omega);have:=zEL (S:=V (suf (exx D x m T) k)) (n:=mul (suf x k)) (·.take (x.zA.length-k)) (fun a b=>yO ok) (by grind[zBI]) [c] [(q:Int)] (zeros (suf (exx D x m T) k).length) (by grind) (wD ok);simp only[Ju,Le,img,J8]at this;rw[zY6 h hE hT hk]at this;exact this
section
variable {k:Nat} (hk:k<x.zA.length)
 include hk
theorem zJH(h1:k+1<=j)(h2:j<x.zA.length):((lvl (exx D x m T) k).cs.getD (j-(k+1)) []).take (x.zA.length-(k+1))=(lvl x k).cs.getD (j-(k+1)) []:=by rw[zHZ h hE hT hk h1 h2,Js (vB h (by omega) (kF h hk h1 h2).2.2)]
theorem zIc(h1:k<=j)(h2:j<x.zA.length):(((exx D x m T).zQ.getD j []).drop (k+1)).take (x.zA.length-(k+1))=(x.zQ.getD j []).drop (k+1):=by
 have t1:=(h.tl j h2).1.1.1
 grind[zDW]
theorem zVl(h1:k+1<=i)(h2:i<j)(h3:j<x.zA.length):((((exx D x m T).zG.getD i []).getD (j-(i+1)) []).drop (k+1)).take (x.zA.length-(k+1))=((x.zG.getD i []).getD (j-(i+1)) []).drop (k+1):=by rw[zFO h hE hT (by omega) h2 h3,Js (vB h (by omega) (zUH h hk h1 h2 h3).2.2)]
theorem zVm(h1:k+1<=j)(h2:j<x.zA.length):xH ((exx D x m T).zA.length-(k+1)) (j-(k+1))=xH (x.zA.length-(k+1)) (j-(k+1))++zeros D:=by
 rw[xX h hE hT,zAb,zAb,Jg,K9]
 grind[zeros,Jn]
end
variable (hM:Mv D x.zA.length m0 m) {Z:Vec->Prop}{Q:Nat->Vec->Vec->Prop} (hZ:∀k,k<=x.zA.length-> ∀a b,V (suf (exx D x m T) k) a->V (suf (exx D x m T) k) b->a.take (x.zA.length-k)=b.take (x.zA.length-k)->(Z (uR m.Prime D (a.drop (x.zA.length-k)) (-1) (b.drop (x.zA.length-k)))↔Q k a b))
 include hM hZ
theorem zKT(hk:k<=x.zA.length){a b:Vec}(ha:V (suf (exx D x m T) k) a)(hb:V (suf (exx D x m T) k) b)(e:a.take (x.zA.length-k)=b.take (x.zA.length-k)):∃r,zI5 ⟨x,m0,T⟩ (prE x k a) (prE x k b)=jf r/\Row m.Prime D r/\(Z r↔Q k a b):=by
 have h7:=hE.m.p.pos;have h3:=hE.m.d3;obtain⟨y,u,rfl,hy,hu,eh,eD⟩:=prV h hE hT hk ha;obtain⟨z,v,rfl,hz,hv,i7,ck⟩:=prV h hE hT hk hb;have mr:=hZ k hk _ _ ha hb e;rw[K1 eD,K1 ck]at mr;unfold zI5;rw[eh,i7];dsimp only
 rw[hM.pr,zB,bs,uV hE.m.p hu hv (by omega) (by omega),bs,zB8];exact⟨_,rfl,qW hE.m.p,mr⟩
section
variable {k:Nat} (hk:k<x.zA.length) (hc:LC x k)
 include hk
 include hc
theorem yFO(h1:k+1<=j)(h2:j<x.zA.length){L0 L:Mx}(hL:GR m.Prime D Z L N C)(hN:N<=1000){f:Mx->Option (Mx×Int⊕Mx)}:∃L',((zI4 ⟨x,m0,T⟩).bind fun r2=>
  (zE (zSM ⟨x,m0,T⟩ (k:Int) (L0,(j:Int))) (r2.x,r2.v,0)).bind fun r8=>
  (zPJ ⟨x,m0,T⟩ (j:Int)).bind fun r9=>
  (f_h ⟨x,m0,T⟩ (k:Int) r9).bind fun r10=>
  (zI5 ⟨x,m0,T⟩ (zC.mk r8.1 r8.2) r10).bind fun r11=>
  (yH L [r11]).bind f)=f L'/\GR m.Prime D Z L' (N+1) (C/\c1Q Q (exx D x m T) k j):=by
 have ok:=uH h hE hT (k:=k+1) (by omega);have hn:=hE.hn;have hp:=(h.os.2 j h2).pos;have hz:=wD ok;obtain⟨c1,c2⟩:=zEN h hE hT (k:=k) (j:=j) (by omega) h2;obtain⟨p1,p2⟩:=zKQ h hE hT (k:=k) (j:=j) (by omega) h2;have hA:=zEO h hE hT hM (k:=k+1) (by omega);have hI:=zAF h hE hT hM hk;have iz:zE (zSM ⟨x,m0,T⟩ (k:Int) (L0,(j:Int))) ((prE x (k+1) (zeros (suf (exx D x m T) (k+1)).length)).x,(prE x (k+1) (zeros (suf (exx D x m T) (k+1)).length)).v,0)=jf ((prE x (k+1) (pw (mul (suf (exx D x m T) (k+1))) (zeros (suf (exx D x m T) (k+1)).length) ((lvl (exx D x m T) k).cs.getD (j-(k+1)) []) (at0 x.zA j).toNat)).x,(prE x (k+1) (pw (mul (suf (exx D x m T) (k+1))) (zeros (suf (exx D x m T) (k+1)).length) ((lvl (exx D x m T) k).cs.getD (j-(k+1)) []) (at0 x.zA j).toNat)).v):=
  zBH (S:=V (suf (exx D x m T) (k+1))) (fun w=>(prE x (k+1) w).x) (fun w=>(prE x (k+1) w).v) (fun w=>mul (suf (exx D x m T) (k+1)) w ((lvl (exx D x m T) k).cs.getD (j-(k+1)) [])) (at0 x.zA j) (by omega) (by grind[yO]) (fun w q hw hq=>by
   unfold zSM;dsimp only
   rw[yJ h2,bs,jk hq,zH,zB,bs,c1,bs,cs,show(zC.mk (prE x (k+1) w).x (prE x (k+1) w).v)=prE x (k+1) w from rfl,hA w _ hw c2,bs,zB,bs,cs]) (fun w hw=>by
   simp_all[zSM,yJ]) hz
 have tc:V (suf (exx D x m T) (k+1)) (pw (mul (suf (exx D x m T) (k+1))) (zeros (suf (exx D x m T) (k+1)).length) ((lvl (exx D x m T) k).cs.getD (j-(k+1)) []) (at0 x.zA j).toNat):=vX (by grind[yO]) _ hz;obtain⟨r,r1,r2,r3⟩:=zKT h hE hT hM hZ (k:=k+1) (by omega) tc (zFP h hE hT hk p2) (by rw[yAr h hE hT (by omega) c2,zDY h hE hT hk p2,zJH h hE hT hk h1 h2,zIc h hE hT hk (by omega) h2];exact hc.c1 j h1 h2)
 have iA:=hL.len;refine⟨L++[r],?_,hL.app (GR.one r2 (r3.trans ?_))⟩
 ·rw[zKR h hE hT (k:=k+1) (by omega) (by omega),bs,iz,bs,p1,bs,hI _ p2,bs]
  dsimp only
  rw[r1,bs,zV (by simp;omega),bs]
 ·unfold c1Q;rw[tF h hE hT h2]
theorem yFP(h1:k+1<=j)(h2:j<x.zA.length){L0 L:Mx}(hL:GR m.Prime D Z L N C)(hN:N<=1000):∃L',zE (zSN ⟨x,m0,T⟩ (k:Int) (L0,(j:Int))) (L,((j+1:Nat):Int))=jf L'/\GR m.Prime D Z L' (N+(x.zA.length-(j+1))) (C/\ ∀j2,j+1<=j2->j2<x.zA.length->c2Q Q (exx D x m T) k j j2):=by
 have ok:=uH h hE hT (k:=k+1) (by omega);have hn:=hE.hn;have hA:=zEO h hE hT hM (k:=k+1) (by omega);have hI:=zAF h hE hT hM hk;refine wY (fun i(s:Mx×Int)=>s.2=((j+1+i:Nat):Int)/\GR m.Prime D Z s.1 (N+i) (C/\ ∀j2,j+1<=j2->j2<j+1+i->c2Q Q (exx D x m T) k j j2)) (x.zA.length-(j+1)) (fun i s hi ⟨hs,hg⟩=>?_) (fun s ⟨hs,hg⟩=>?_) ⟨rfl,hL.to (by omega) (by grind)⟩
 ·left
  obtain⟨L1,s2⟩:=s;dsimp only at hs hg;subst hs;have g2:j+1+i<x.zA.length:=by omega
  obtain⟨a1,a2⟩:=zEN h hE hT (k:=k) (j:=j) (by omega) h2;obtain⟨b1,b2⟩:=zEN h hE hT (k:=k) (j:=j+1+i) (by omega) g2;obtain⟨d1,d2⟩:=zRd h hE hT (k:=k) (i:=j) (j:=j+1+i) (by omega) (by omega) g2;have hs:=zFP h hE hT hk d2;obtain⟨r,r1,r2,r3⟩:=zKT h hE hT hM hZ (k:=k+1) (by omega) (yO ok b2 a2) (yO ok a2 hs) (by rw[zBI h hE hT (by omega) b2 a2,zBI h hE hT (by omega) a2 hs,zDY h hE hT hk d2,zJH h hE hT hk h1 h2,zJH h hE hT hk (by omega) g2,zVl h hE hT hk h1 (by omega) g2];exact hc.c2 j h1 h2 (j+1+i) (by omega) g2)
  have iA:=hg.len;refine⟨(L1++[r],((j+1+i+1:Nat):Int)),?_,rfl,(hg.app (GR.one r2 r3)).to (by omega) ?_⟩
  ·unfold zSN
   dsimp only
   rw[jk,zH,a1,bs,b1,bs,d1,bs,hI _ d2,bs,zB,bs,cs,hA _ _ b2 a2,bs,bs,hA _ _ a2 hs,bs,r1,bs,zV (by simp;omega),bs,zB,bs,cs]
  ·constructor
   ·rintro⟨⟨g1,g3⟩,g4⟩
    refine⟨g1,fun j2 e1 e2=>?_⟩;rcases Jo j2 (j+1+i)with e|e
    ·grind
    ·obtain rfl:j2=j+1+i:=by omega
     exact g4
   ·rintro⟨g1,g3⟩
    exact⟨by grind,g3 (j+1+i) (by omega) (by omega)⟩
 ·obtain⟨L1,s2⟩:=s
  dsimp only at hs hg;subst hs;refine⟨L1,?_,hg.to (Je _) ?_⟩
  ·unfold zSN
   grind
  grind
theorem yFQ:∃L',zE (zXh ⟨x,m0,T⟩ (k:Int)) ([],((k+1:Nat):Int))=jf L'/\GR m.Prime D Z L' 100 (∀j,k+1<=j->j<x.zA.length->c1Q Q (exx D x m T) k j/\ ∀j2,j+1<=j2->j2<x.zA.length->c2Q Q (exx D x m T) k j j2):=by
 have hn:=hE.hn;refine wY (fun i(s:Mx×Int)=>s.2=((k+1+i:Nat):Int)/\GR m.Prime D Z s.1 (7*i) (∀j,k+1<=j->j<k+1+i->c1Q Q (exx D x m T) k j/\ ∀j2,j+1<=j2->j2<x.zA.length->c2Q Q (exx D x m T) k j j2)) (x.zA.length-(k+1)) (fun i s hi ⟨hs,hg⟩=>?_) (fun s ⟨hs,hg⟩=>?_) ⟨rfl,(GR.nil (N:=0)).to (by omega) (by grind)⟩
 ·left
  obtain⟨L1,s2⟩:=s;dsimp only at hs hg;subst hs;have g2:k+1+i<x.zA.length:=by omega
  obtain⟨L2,e2,hg2⟩:=yFO h hE hT hM hZ hk hc (j:=k+1+i) (by omega) g2 (L0:=L1) hg (by omega) (f:=fun v12=>(rng (((k+1+i:Nat):Int)+1)).bind fun v13=>
   (zE (zSN ⟨x,m0,T⟩ (k:Int) (L1,((k+1+i:Nat):Int))) (v12,v13)).bind fun r25=>
   (rng (((k+1+i:Nat):Int)+1)).bind fun v26=>jf (.inl (r25,v26)))
  obtain⟨L3,e3,hg3⟩:=yFP h hE hT hM hZ hk hc (j:=k+1+i) (by omega) g2 (L0:=L1) hg2 (by omega);refine⟨(L3,((k+1+i+1:Nat):Int)),?_,rfl,hg3.to (by omega) ?_⟩
  ·unfold zXh
   dsimp only
   rw[jk,zH,e2,zB,bs,cs,e3,bs,bs]
  grind
 ·obtain⟨L1,s2⟩:=s
  dsimp only at hs hg;subst hs;refine⟨L1,?_,hg.to (by omega) ?_⟩
  ·unfold zXh
   grind
  grind
theorem zVn(h1:k+1<=j)(h2:j<x.zA.length):∃r,zI4 ⟨x,m0,T⟩=jf r/\ixO r.x (j:Int)=jf 0/\r.x.set j 1=(prE x (k+1) (xH (x.zA.length-(k+1)) (j-(k+1))++zeros D)).x/\r.v=(prE x (k+1) (xH (x.zA.length-(k+1)) (j-(k+1))++zeros D)).v:=by
 have _:=hM;have _:=hZ;have _:=hc;have hn:=hE.hn;have gU:(xH (x.zA.length-(k+1)) (j-(k+1))).length=x.zA.length-(k+1):=by rw[kK,zU]
 refine⟨_,zKR h hE hT (k:=k+1) (by omega) (by omega),?_,?_,?_⟩
 ·rw[zAS h hE hT (by omega),qI (zT _)]
  dsimp only
  simp only[fv,zeros,Jn];rw[vH,K4,if_pos (by omega)]
 ·rw[zAS h hE hT (by omega),qI (zT _),qI gU]
  dsimp only
  have e1:fv (k+1) (zeros (x.zA.length-(k+1)))=zeros j++0::zeros (x.zA.length-(k+1)-(j-(k+1)+1)):=by
   simp only[fv,zeros];rw[<-Jv,Jn,Jn]
   grind
  rw[e1,zBS,fv,zAb,<-Jg]
  grind[zeros,Jn]
 grind[zAS,qI,zT]
theorem yFR{L:Mx}(hL:GR m.Prime D Z L N C)(hN:N<=1000):∃L',zE (zSO ⟨x,m0,T⟩ (k:Int) (prE x (k+1) (((exx D x m T).zQ.getD k []).drop (k+1)))) (L,((k+1:Nat):Int))=jf L'/\GR m.Prime D Z L' (N+(x.zA.length-(k+1))) (C/\ ∀j,k+1<=j->j<x.zA.length->c4Q Q (exx D x m T) k j):=by
 have hn:=hE.hn;have hpk:=(h.os.2 k hk).pos;have h7:=hE.m.p.pos;have ok:=uH h hE hT (k:=k+1) (by omega);have hA:=zEO h hE hT hM (k:=k+1) (by omega);have hI:=zAF h hE hT hM hk;obtain⟨p1,p2⟩:=zKQ (m0:=m0) h hE hT (k:=k) (j:=k) (Je k) hk;change V (suf (exx D x m T) (k+1)) (lvl (exx D x m T) k).w at p2;change∃L',zE (zSO ⟨x,m0,T⟩ (k:Int) (prE x (k+1) (lvl (exx D x m T) k).w)) (L,((k+1:Nat):Int))=jf L'/\_;have dY:(lvl (exx D x m T) k).w.take (x.zA.length-(k+1))=(lvl x k).w:=zIc h hE hT hk (Je k) hk;have ho:(lvl (exx D x m T) k).o=at0 x.zA k:=zBt h hE hT hk;refine wY (fun i(s:Mx×Int)=>s.2=((k+1+i:Nat):Int)/\GR m.Prime D Z s.1 (N+i) (C/\ ∀j,k+1<=j->j<k+1+i->c4Q Q (exx D x m T) k j)) (x.zA.length-(k+1)) (fun i s hi ⟨hs,hg⟩=>?_) (fun s ⟨hs,hg⟩=>?_) ⟨rfl,hL.to (by omega) (by grind)⟩
 ·left
  obtain⟨L1,s2⟩:=s;dsimp only at hs hg;subst hs;have g2:k+1+i<x.zA.length:=by omega
  obtain⟨r33,z1,z2,z3,z4⟩:=zVn h hE hT hM hZ hk hc (j:=k+1+i) (by omega) g2;have hue:=zVm h hE hT hk (j:=k+1+i) (by omega) g2;have hux:V (suf x (k+1)) (xH (x.zA.length-(k+1)) (k+1+i-(k+1))):=by
   have:=zCt (h.okAt (k:=k+1) (by omega)) (j:=k+1+i-(k+1)) (by grind[yC])
   grind[yC]
  have gU:=vB h (by omega) hux;have bW:V (suf (exx D x m T) (k+1)) (xH (x.zA.length-(k+1)) (k+1+i-(k+1))++zeros D):=(tM h hE hT (x.zA.length-(k+1)) (k+1) (by omega) _).2 ⟨_,_,rfl,hux,yX⟩;have ej:V (suf (exx D x m T) (k+1)) (iter (at0 x.zA k).toNat (sig (suf (exx D x m T) (k+1)) (lvl (exx D x m T) k)) (xH (x.zA.length-(k+1)) (k+1+i-(k+1))++zeros D)):=vX (fun w hw=>zFP h hE hT hk hw) _ bW;have iz:zE (zXi ⟨x,m0,T⟩ (k:Int)) ((prE x (k+1) (xH (x.zA.length-(k+1)) (k+1+i-(k+1))++zeros D)).x,(prE x (k+1) (xH (x.zA.length-(k+1)) (k+1+i-(k+1))++zeros D)).v,0)=jf ((prE x (k+1) (iter (at0 x.zA k).toNat (sig (suf (exx D x m T) (k+1)) (lvl (exx D x m T) k)) (xH (x.zA.length-(k+1)) (k+1+i-(k+1))++zeros D))).x,(prE x (k+1) (iter (at0 x.zA k).toNat (sig (suf (exx D x m T) (k+1)) (lvl (exx D x m T) k)) (xH (x.zA.length-(k+1)) (k+1+i-(k+1))++zeros D))).v):=
   zBH (S:=V (suf (exx D x m T) (k+1))) (fun w=>(prE x (k+1) w).x) (fun w=>(prE x (k+1) w).v) (sig (suf (exx D x m T) (k+1)) (lvl (exx D x m T) k)) (at0 x.zA k) (by omega) (fun w hw=>zFP h hE hT hk hw) (fun w q hw hq=>by
    unfold zXi;dsimp only
    rw[yJ hk,bs,jk hq,zH,show(zC.mk (prE x (k+1) w).x (prE x (k+1) w).v)=prE x (k+1) w from rfl,hI w hw,bs,zB,bs,cs]) (fun w hw=>by
    simp_all[zXi,yJ]) bW
  obtain⟨r,r1,r2,r3⟩:=zKT h hE hT hM hZ (k:=k+1) (by omega) (yO ok p2 ej) (yO ok bW p2) (by rw[zBI h hE hT (by omega) p2 ej,zBI h hE hT (by omega) bW p2,zKS h hE hT hk _ bW,dY,Js gU];exact hc.c4 (k+1+i) (by omega) g2)
  have iA:=hg.len;refine⟨(L1++[r],((k+1+i+1:Nat):Int)),?_,rfl,(hg.app (GR.one r2 r3)).to (by omega) ?_⟩
  ·unfold zSO
   dsimp only
   rw[jk,zH,z1,bs,z2,bs,J8,z3,z4,iz,bs,zB,bs,cs];dsimp only
   have e1:=hA _ _ p2 ej;have e2:=hA _ _ bW p2;rw[show∀w,(zC.mk (prE x (k+1) w).x (prE x (k+1) w).v)=prE x (k+1) w from fun _=>rfl,show∀w,(zC.mk (prE x (k+1) w).x (prE x (k+1) w).v)=prE x (k+1) w from fun _=>rfl,e1,bs,bs,e2,bs,r1,bs,zV (by simp;omega),bs,zB,bs,cs]
  ·have e4:c4Q Q (exx D x m T) k (k+1+i)↔Q (k+1) (mul (suf (exx D x m T) (k+1)) (lvl (exx D x m T) k).w (iter (at0 x.zA k).toNat (sig (suf (exx D x m T) (k+1)) (lvl (exx D x m T) k)) (xH (x.zA.length-(k+1)) (k+1+i-(k+1))++zeros D))) (mul (suf (exx D x m T) (k+1)) (xH (x.zA.length-(k+1)) (k+1+i-(k+1))++zeros D) (lvl (exx D x m T) k).w):=by
    grind[c4Q]
   rw[<-e4];constructor
   ·grind
   grind
 ·obtain⟨L1,s2⟩:=s
  dsimp only at hs hg;subst hs;refine⟨L1,?_,hg.to (Je _) ?_⟩
  ·unfold zSO
   grind
  grind
theorem yBS:∃L,f_l ⟨x,m0,T⟩ (k:Int)=jf L/\GR m.Prime D Z L 120 (LCQ Q x (exx D x m T) k):=by
 have hn:=hE.hn;have hI:=zAF h hE hT hM hk;obtain⟨p1,p2⟩:=zKQ h hE hT (k:=k) (j:=k) (Je k) hk;obtain⟨L1,e1,g1⟩:=yFQ h hE hT hM hZ hk hc;have hs:=zFP h hE hT hk p2;obtain⟨r,r1,r2,r3⟩:=zKT h hE hT hM hZ (k:=k+1) (by omega) hs p2 (by rw[zDY h hE hT hk p2,zIc h hE hT hk (Je k) hk];exact hc.c3)
 obtain⟨L2,e2,g2⟩:=yFR h hE hT hM hZ hk hc (g1.app (GR.one r2 r3)) (by omega);have iA:=g1.len;refine⟨L2,?_,g2.to (by omega) ?_⟩
 ·unfold f_l
  rw[zB,bs,cs,e1,bs,p1,bs,hI _ p2,bs,r1,bs,zV (by simp;omega),bs,bs,e2,bs]
 ·constructor
  ·rintro⟨⟨a1,a2⟩,a3⟩
   exact⟨by grind,by grind,a2,a3⟩
  ·intro a
   exact⟨⟨fun j b1 b2=>⟨a.c1 j b1 b2,fun j2 b3 b4=>a.c2 j b1 b2 j2 b3 b4⟩,a.c3⟩,a.c4⟩
end
theorem yBT(hx:xC (suf x 0)):∃L,zL1 ⟨x,m0,T⟩=jf L/\GR m.Prime D Z L 1000 (∀k,k<x.zA.length->LCQ Q x (exx D x m T) k):=by
 have hn:=hE.hn;have h3:=hE.m.d3;have pf:∀k,k<x.zA.length->LC x k:=fun k hk=>((kG h.w hk).1 (tO hx k)).2
 obtain⟨L,e,g⟩:=wY (body:=zJX ⟨x,m0,T⟩) (Q:=fun L=>GR m.Prime D Z L 1000 (∀k,k<x.zA.length->LCQ Q x (exx D x m T) k)) (fun i(s:Mx×Int)=>s.2=(i:Int)/\GR m.Prime D Z s.1 (120*i) (∀k,k<i->LCQ Q x (exx D x m T) k)) x.zA.length (fun i s hi ⟨hs,hg⟩=>by
  left;obtain⟨L1,s2⟩:=s;dsimp only at hs hg;subst hs;obtain⟨L2,e2,g2⟩:=yBS h hE hT hM hZ hi (pf i hi);have l1:=hg.len;have l2:=g2.len;refine⟨(L1++L2,((i+1:Nat):Int)),?_,rfl,(hg.app g2).to (by omega) ?_⟩
  ·unfold zJX
   dsimp only
   rw[yP hi,zH,e2,bs,zV,bs,zB,bs,cs]
  grind) (fun s ⟨hs,hg⟩=>by
  obtain⟨L1,s2⟩:=s;dsimp only at hs hg;subst hs;refine⟨L1,?_,hg.to (by omega) Iff.rfl⟩
  simp_all[zJX]) (s:=([],0)) ⟨rfl,(GR.nil (N:=0)).to (by omega) (by simp)⟩
 grind[zL1]
end
theorem zEP(h:Pres x)(_h6:x.zA.length<=6):(wN x).length=base x.zA.length x.zA.length:=by grind[zSj,base]
abbrev zC9(x:SPr)(m:zF)(D:Nat):Mx:=zJG (x.zA.length*D) (fun k=>dfc m D (uv x.zA.length D k)) (wN x)
section
variable {x:SPr}{m:zF}{D:Nat} (hx:zAA x) (hD:MOk x.zA.length m D)
 include hx hD
theorem zOX:∃R pv,zPO x m=jf R/\zXo x m=jf (zC9 x m D)/\f_i m.Prime (zC9 x m D)=jf R/\Red m.Prime (base x.zA.length x.zA.length*D) R pv/\R.length<=63/\base x.zA.length x.zA.length*D<=63:=by have h6:=hx.n6;have h3:=hD.d3;have hb:=wA x.zA.length (by omega);have hl:=zEP hx.toPres h6;have fX:x.zA.length*D<=6*3:=Jr h6 h3;have aE:base x.zA.length x.zA.length*D<=21*3:=Jr hb.2.1 h3;have pd:(zC9 x m D).length=x.zA.length*D:=wL;obtain⟨R,pv,r1,r2,r3,_⟩:=uW hD.p (n:=(wN x).length*D) (by grind) (rows:=zC9 x m D) (by omega) (by rw[pd];exact zFL (zOT hx.toPres hD) (wN x));rw[hl]at r3;have hR:=r3.len_le;refine⟨R,pv,?_,zG0 hx.toPres hD,r2,r3,by omega,aE⟩;unfold zPO;rw[zGm hx.toPres hD,bs,r1,bs]
end
section
variable {x:SPr}{m:zF}{D:Nat} (hx:zAA x) (hD:MOk x.zA.length m D)
 include hx hD
theorem zSn(hi:i<x.zA.length*D):Row m.Prime (base x.zA.length x.zA.length*D) ((zC9 x m D).getD i []):=by have hl:=zEP hx.toPres hx.n6;rw[<-hl];exact zFL (zOT hx.toPres hD) (wN x) i hi
theorem zVo:∃R pv,zPO x m=jf R/\Red m.Prime (base x.zA.length x.zA.length*D) R pv/\(∀v,Sp m.Prime (base x.zA.length x.zA.length*D) R v↔Sp m.Prime (base x.zA.length x.zA.length*D) (zC9 x m D) v)/\R.length<=63:=by have h6:=hx.n6;have h3:=hD.d3;have hb:=wA x.zA.length (by omega);have hl:=zEP hx.toPres h6;have fX:x.zA.length*D<=6*3:=Jr h6 h3;have aE:base x.zA.length x.zA.length*D<=21*3:=Jr hb.2.1 h3;have pd:(zC9 x m D).length=x.zA.length*D:=wL;obtain⟨R,pv,r1,r2,r3,r4⟩:=uW hD.p (n:=(wN x).length*D) (by grind) (rows:=zC9 x m D) (by omega) (by rw[pd];exact zFL (zOT hx.toPres hD) (wN x));rw[hl]at r3 r4;have hR:=r3.len_le;refine⟨R,pv,?_,r3,fun v=>r4.iff,by omega⟩;unfold zPO;rw[zGm hx.toPres hD,bs,r1,bs]
end
abbrev zCA:=Nat×List Nat×List Nat
section
variable (x:SPr)
abbrev yD(a:Nat):Nat:=(at0 x.zA a).toNat
abbrev lcj(i j:Nat):List Int:=(x.zG.getD i []).getD (j-(i+1)) []
def swp:List Nat->Option zCA
 |a::b::s=>if b<a then jf (base x.zA.length b+(a-(b+1)),s,b::(nw 0 (lcj x b a)++s))else jg
 |_=>jg
def pws:List Nat->Option zCA
 |a::w=>if(a::w).take (yD x a)=J1 (yD x a) a then jf (a,(a::w).drop (yD x a),nw 0 (x.zQ.getD a [])++(a::w).drop (yD x a))else jg
 | []=>jg
def hdS(w:List Nat):Option zCA:=match swp x w with
 |some r=>jf r
 |none=>pws x w
def stS:List Nat->Option zCA
 | []=>jg
 |a::w=>match hdS x (a::w)with
  |some r=>jf r
  |none=>(stS w).map fun r=>(r.1,r.2.1,a::r.2.2)
end
section
variable {x:SPr}
theorem zY7{w s:List Nat}{r:zCA}(h:swp x w=jf r):swp x (w++s)=jf (r.1,r.2.1++s,r.2.2++s):=by
 match w,h with
 | [],h=>cases h
 | [_],h=>cases h
 |a::b::w,h=>
  simp only[swp]at h
  by_cases g:b<a
  ·rw[if_pos g]at h
   cases h;simp only[K9,swp,if_pos g,Jg]
  grind
theorem zBu{w:List Nat}{o:Nat}(h:w.take o=J1 o a):o<=w.length:=by
 have:=congrArg Qf h
 grind
theorem zY8{w s:List Nat}{r:zCA}(h:pws x w=jf r):pws x (w++s)=jf (r.1,r.2.1++s,r.2.2++s):=by
 match w,h with
 | [],h=>cases h
 |a::w,h=>
  simp only[pws]at h
  by_cases g:(a::w).take (yD x a)=J1 (yD x a) a
  ·rw[if_pos g]at h
   cases h;have hl:=zBu g;have e1:(a::(w++s)).take (yD x a)=(a::w).take (yD x a):=by grind
   have e2:(a::(w++s)).drop (yD x a)=(a::w).drop (yD x a)++s:=by grind
   simp only[K9,pws]
   grind
  grind
theorem zEQ{b:Nat}{s s2:List Nat}(h:swp x (a::b::s)=jg):swp x (a::b::s2)=jg:=by
 simp only[swp]at h ⊢
 grind
theorem zRe{w:List Nat}(h:hdS x w=jg):swp x w=jg/\pws x w=jg:=by
 unfold hdS at h
 grind
theorem zVp{w:List Nat}(h1:swp x w=jg)(h2:pws x w=jg):hdS x w=jg:=by grind[hdS]
theorem yBU{w s:List Nat}(hw:∀a∈w,2<=yD x a){r:zCA}(h:hdS x w=jf r):hdS x (w++s)=jf (r.1,r.2.1++s,r.2.2++s):=by
 unfold hdS at h ⊢
 cases e:swp x w with
 |some q=>
  grind[zY7]
 |none=>
  rw[e]at h;have e2:swp x (w++s)=jg:=by
   match w,h with
   | [],h=>cases h
   | [a],h=>
    have h2:=hw a (by simp);simp only[pws]at h
    by_cases g:[a].take (yD x a)=J1 (yD x a) a
    ·have h4:=zBu g;grind
    grind
   |a::b::w,h=>exact zEQ e
  grind[zY8]
theorem zDZ{k a:Nat}(hk:k<yD x a):∀j,j<=k-> ∀{w:List Nat},(∀b,w.head? =jf b->a<b)->stS x (J1 j a++w)=(stS x w).map fun r=>(r.1,r.2.1,J1 j a++r.2.2)
 |0,_,w,_=>by simp
 |j+1,hj,w,hw=>by
  have ih:=zDZ hk j (by omega) hw;rw[Jv,K9];have h1:swp x (a::(J1 j a++w))=jg:=by
   cases j with
   |succ j=>simp only[Jv,K9,swp,if_neg (Jam a)]
   |zero=>
    simp only[H0,K0];cases w with
    |nil=>rfl
    |cons b w=>
     have:=hw b rfl;simp only[swp,if_neg (show¬b<a by omega)]
  have h2:pws x (a::(J1 j a++w))=jg:=by
   simp only[pws];refine if_neg fun g=>?_
   have hl:=zBu g;have:=congrArg (fun l=>l[j+1]?) g;rw[Gx (by omega),<-K9,<-Jv,Jk (by simp),Jl,Ko,Us (by omega)]at this
   grind[List.head?_eq_getElem?]
  simp only[stS];rw[zVp h1 h2,ih];cases stS x w with
  |none=>rfl
  |some r=>rfl
theorem yBV(hk:k<yD x a):stS x (J1 k a)=jg:=by
 have:=zDZ hk k (Je _) (w:=[]) (by simp)
 grind[stS]
theorem zKU:∀{u s:List Nat},(∀a∈u,2<=yD x a)-> ∀{r:zCA},stS x u=jf r->stS x (u++s)=jf (r.1,r.2.1++s,r.2.2++s)
 | [],_,_,_,h=>by cases h
 |a::w,s,hu,r,h=>by
  simp only[stS]at h;rw[K9];simp only[stS];cases e:hdS x (a::w)with
  |some q=>
   grind[yBU]
  |none=>
   rw[e]at h;cases e2:stS x w with
   |none=>grind
   |some q=>
    rw[e2]at h;cases h;obtain⟨n1,n2⟩:=zRe e;have m1:swp x (a::(w++s))=jg:=by
     cases w with
     |nil=>cases e2
     |cons b w=>exact zEQ n1
    have m2:pws x (a::(w++s))=jg:=by
     simp only[pws]at n2 ⊢
     refine if_neg fun g=>?_
     by_cases hl:yD x a<=(a::w).length
     ·grind
     ·have:a::w=J1 (a::w).length a:=by
       have g':=congrArg (Jaa (a::w).length) g
       grind
      grind[yBV]
    rw[zVp m1 m2,zKU (s:=s) (by grind) e2];rfl
theorem zGn{u s:List Nat}(hu:∀a∈u,2<=yD x a)(h:stS x (u++s)=jg):stS x u=jg:=by
 cases e:stS x u with
 |none=>rfl
 |some r=>grind[zKU]
theorem zVq:∀{u:List Nat}{l i:Nat}{z:List Nat},(∀a∈u,i<a)->i<l->stS x (u++[l])=jg->stS x (u++l::i::z)=jf (base x.zA.length i+(l-(i+1)),z,u++i::(nw 0 (lcj x i l)++z))
 | [],l,i,z,_,hl,_=>by simp only[K0,stS,hdS,swp,if_pos hl]
 |a::u,l,i,z,hu,hl,hn=>by
  rw[K9]at hn ⊢
  simp only[stS]at hn ⊢
  cases e:hdS x (a::(u++[l]))with
  |some q=>grind
  |none=>
   rw[e]at hn;have bg:stS x (u++[l])=jg:=by simp_all
   obtain⟨n1,n2⟩:=zRe e;have m1:swp x (a::(u++l::i::z))=jg:=by
    cases u with
    |nil=>exact zEQ n1
    |cons b u=>exact zEQ n1
   have m2:pws x (a::(u++l::i::z))=jg:=by
    simp only[pws]at n2 ⊢
    refine if_neg fun g=>?_
    have ea:a::(u++l::i::z)=(a::(u++[l]))++i::z:=by simp
    by_cases ho:yD x a<=(a::(u++[l])).length
    ·grind
    ·have g':=congrArg (fun w=>w[(a::(u++[l])).length]?) g
     rw[Gx (by omega),ea,Jk (Je _),Ko,Us (by omega)]at g';have:i=a:=by grind
     simp_all
   rw[zVp m1 m2,zVq (by grind) hl bg];rfl
theorem yAs(ha:2<=yD x a)(w:List Nat):stS x (J1 (yD x a) a++w)=jf (a,w,nw 0 (x.zQ.getD a [])++w):=by
 obtain⟨k,hk⟩:∃k,yD x a=k+2:=⟨yD x a-2,by omega⟩;have e:J1 (yD x a) a++w=a::a::(J1 k a++w):=by grind
 have h1:swp x (J1 (yD x a) a++w)=jg:=by rw[e];simp only[swp,if_neg (Jam a)]
 have h2:pws x (J1 (yD x a) a++w)=jf (a,w,nw 0 (x.zQ.getD a [])++w):=by
  have et:(J1 (yD x a) a++w).take (yD x a)=J1 (yD x a) a:=by simp
  have ed:(J1 (yD x a) a++w).drop (yD x a)=w:=by simp
  rw[e]at et ed ⊢
  simp only[pws]
  grind
 have h3:hdS x (J1 (yD x a) a++w)=jf (a,w,nw 0 (x.zQ.getD a [])++w):=by grind[hdS]
 grind[stS]
end
theorem zDf{p:Int}{v w:List Int}:adv p D (adv p D u v) w=adv p D u (adv p D v w):=by
 refine zX fun j hj=>?_
 grind[zW,Int.add_emod_emod]
theorem zER{p:Int}{v:List Int}:xL p D (adv p D u v) A=adv p D (xL p D u A) (xL p D v A):=by
 refine zX fun j hj=>?_
 rw[xL,xL,zW hj,zW hj,<-Ka,<-zC2];refine kH fun l hl=>?_
 rw[zW hl,<-Jbo,Jz,K3,<-Jz]
theorem zMW{α:Type}(m:α->α->α)(z:α):∀(cs:List α)(j n:Nat)(acc:α),j<cs.length->j<n->img m cs (xH n j) acc=m acc (cs.getD j z)
 | [],_,_,_,h,_=>by simp at h
 |c::cs,0,n+1,acc,_,_=>by grind[zCV,img,iter,tN]
 |c::cs,j+1,n+1,acc,h,h2=>by rw[zF2];show img m cs (xH n j) (iter (0:Int).toNat (fun v=>m v c) acc)=_;rw[show iter (0:Int).toNat (fun v=>m v c) acc=acc from rfl,zMW m z cs j n acc (by grind) (by omega),List.getD_cons_succ]
 |_::_,0,0,_,_,h=>by omega
 |_::_,_+1,0,_,_,h=>by omega
theorem zFQ(n d:Nat):zeros (n+d)=zeros n++zeros d:=by grind[zeros,Jn]
theorem zVr{n d:Nat}(hj:j<n:=by omega):xH (n+d) j=xH n j++zeros d:=by grind[xH,zFQ,zT]
def fo(e:SPr)(k:Nat)(u:Vec)(w:List Nat):Vec:=w.foldl (fun u a=>mul (suf e k) u (xH (e.zA.length-k) (a-k))) u
theorem zCB{e:SPr}{u:Vec}{v w:List Nat}:fo e k u (v++w)=fo e k (fo e k u v) w:=by simp[fo,Gu]
theorem tZ{e:SPr}{u:Vec}{w:List Nat}:fo e k u (a::w)=fo e k (mul (suf e k) u (xH (e.zA.length-k) (a-k))) w:=rfl
theorem yBW{e:SPr}(ha:k<a)(hn:a<e.zA.length){b:Int}(hb:b<at0 e.zA k):mul (suf e k) (b::y) (xH (e.zA.length-k) (a-k))=b::mul (suf e (k+1)) y (xH (e.zA.length-(k+1)) (a-(k+1))):=by obtain⟨t,ht⟩:∃t,a-k=t+1:=⟨a-(k+1),by omega⟩;obtain⟨s,hs⟩:∃s,e.zA.length-k=s+1:=⟨e.zA.length-(k+1),by omega⟩;rw[zY (x:=e),ht,hs,zF2,yK,if_neg (by show¬(b+0>=at0 e.zA k);omega),show a-(k+1)=t from by omega,show e.zA.length-(k+1)=s from by omega,L9];rfl
theorem yBX{e:SPr}(hn:k<e.zA.length){b:Int}:mul (suf e k) (b::y) (xH (e.zA.length-k) (k-k))=if b+1>=at0 e.zA k then(b+1-at0 e.zA k)::mul (suf e (k+1)) (lvl e k).w (mul (suf e (k+1)) (sig (suf e (k+1)) (lvl e k) y) (zeros (e.zA.length-(k+1))))else(b+1)::mul (suf e (k+1)) (sig (suf e (k+1)) (lvl e k) y) (zeros (e.zA.length-(k+1))):=by obtain⟨s,hs⟩:∃s,e.zA.length-k=s+1:=⟨e.zA.length-(k+1),by omega⟩;rw[zY (x:=e) hn,hs,Ko,zCV,yK,show e.zA.length-(k+1)=s from by omega];rfl
section
variable {D:Nat}{x:SPr}{m:zF}{T:Mx} (h:Pres x) (hE:ExB x.zA.length D x m T) (hT:∀i,i<T.length->Row m.Prime D (T.getD i []))
 include h hE hT
theorem yBY(hk:k<=x.zA.length)(he:V (suf (exx D x m T) k) e):mul (suf (exx D x m T) k) e (zeros ((exx D x m T).zA.length-k))=e:=by have hp:=hE.m.p.pos;obtain⟨y,u,rfl,hy,hu⟩:=(tM h hE hT (x.zA.length-k) k (by omega) _).1 he;have:=zD3 h hE hT (x.zA.length-k) k (by omega) y u (zeros D) hy hu (yX);rw[zAv hu]at this;rw[xX h hE hT,show x.zA.length+D-k=(x.zA.length-k)+D from by omega,zFQ];exact this
def adK(p:Int)(D N:Nat)(e d:Vec):Vec:=e.take N++adv p D (e.drop N) d
theorem zKV(hk:k<=x.zA.length)(he:V (suf (exx D x m T) k) e)(hd:Row m.Prime D d):adK m.Prime D (x.zA.length-k) e d=mul (suf (exx D x m T) k) e (zeros (x.zA.length-k)++d):=by
 obtain⟨y,u,rfl,hy,hu⟩:=(tM h hE hT (x.zA.length-k) k (by omega) _).1 he
 grind[vB,zD3,adK]
theorem yBZ(hk:k<=x.zA.length)(he:V (suf (exx D x m T) k) e):V (suf (exx D x m T) k) (adK m.Prime D (x.zA.length-k) e d):=by have hp:=hE.m.p.pos;obtain⟨y,u,rfl,hy,hu⟩:=(tM h hE hT (x.zA.length-k) k (by omega) _).1 he;have eD:=vB h (by omega) hy;rw[adK,Js eD,K1 eD];exact(tM h hE hT (x.zA.length-k) k (by omega) _).2 ⟨y,_,rfl,hy,sQ⟩
theorem yAt(hk:k<=x.zA.length){d':Vec}(he:V (suf (exx D x m T) k) e):adK m.Prime D (x.zA.length-k) (adK m.Prime D (x.zA.length-k) e d) d'=adK m.Prime D (x.zA.length-k) e (adv m.Prime D d d'):=by obtain⟨y,u,rfl,hy,hu⟩:=(tM h hE hT (x.zA.length-k) k (by omega) _).1 he;have eD:=vB h (by omega) hy;simp only[adK,Js eD,K1 eD,zDf]
theorem zAG(hk:k<x.zA.length){b:Int}:adK m.Prime D (x.zA.length-k) (b::e) d=b::adK m.Prime D (x.zA.length-(k+1)) e d:=by have _:=h;have _:=hE;have _:=hT;rw[show x.zA.length-k=x.zA.length-(k+1)+1 from by omega];rfl
theorem zD(hk:k<=x.zA.length)(hd:Row m.Prime D d):V (suf (exx D x m T) k) (zeros (x.zA.length-k)++d):=
 (tM h hE hT (x.zA.length-k) k (by omega) _).2 ⟨_,d,rfl,zv h hE hT hk,hd⟩
theorem yAu(hk:k<=a)(ha:a<x.zA.length):V (suf x k) (xH (x.zA.length-k) (a-k)):=by
 have _:=hE;have _:=hT;have:=zCt (h.okAt (k:=k) (by omega)) (j:=a-k) (by grind[yC])
 grind[yC]
theorem zSo(hk:k<=a)(ha:a<x.zA.length):xH ((exx D x m T).zA.length-k) (a-k)=xH (x.zA.length-k) (a-k)++zeros D:=by rw[xX h hE hT,show x.zA.length+D-k=x.zA.length-k+D from by omega,zVr]
theorem zCC(hk:k<=a)(ha:a<x.zA.length):V (suf (exx D x m T) k) (xH ((exx D x m T).zA.length-k) (a-k)):=by have hp:=hE.m.p.pos;rw[zSo h hE hT hk ha];exact(tM h hE hT (x.zA.length-k) k (by omega) _).2 ⟨_,_,rfl,yAu h hE hT hk ha,yX⟩
theorem zY9(hk:k<=a)(ha:a<x.zA.length):aM m D k (xH (x.zA.length-k) (a-k))=m.zM.getD a []:=by have _:=h;have _:=hT;have hA:=hE.m.mat a ha;have hl:=hE.m.len;unfold aM;rw[zMW (PM m.Prime D) [] _ _ _ _ (by grind) (by omega),J2,Ly,show k+(a-k)=a from by omega,<-J2,zCX hA]
variable {k:Nat} (hk:k<x.zA.length) (hc:xC (suf (exx D x m T) (k+1)))
 include hk hc
theorem yAv(h1:k+1<=a)(ha:a<x.zA.length)(he:V (suf (exx D x m T) (k+1)) e)(hd:Row m.Prime D d):
  mul (suf (exx D x m T) (k+1)) (adK m.Prime D (x.zA.length-(k+1)) e d) (xH ((exx D x m T).zA.length-(k+1)) (a-(k+1)))=adK m.Prime D (x.zA.length-(k+1)) (mul (suf (exx D x m T) (k+1)) e (xH ((exx D x m T).zA.length-(k+1)) (a-(k+1)))) (xL m.Prime D d (m.zM.getD a [])):=by
 have hp:=hE.m.p.pos;have gz:=uH h hE hT (k:=k+1) (by omega);have G:=(zBQ _ gz hc).toMon;have hg:=zCC h hE hT h1 ha;have hgv:=yAu h hE hT h1 ha;have hz:=zD h hE hT (k:=k+1) (by omega) hd;have eW:=zD h hE hT (k:=k+1) (by omega) (wZ (p:=m.Prime) (D:=D) (r:=d) (B:=m.zM.getD a []));rw[zKV h hE hT (by omega) he hd,G.assoc he hz hg,zSo h hE hT h1 ha,zMT h hE hT _ (k+1) (by omega) _ _ _ hd hgv (yX),zAv (wZ),zY9 h hE hT h1 ha,<-zSo h hE hT h1 ha,zKV h hE hT (by omega) (G.cl he hg) (wZ),G.assoc he hg eW,zSo h hE hT h1 ha,zD3 h hE hT _ (k+1) (by omega) _ _ _ hgv (yX) (wZ),uA (wZ)]
 omit hc in
theorem zId(he:V (suf (exx D x m T) (k+1)) e)(_hd:Row m.Prime D d):
    sig (suf (exx D x m T) (k+1)) (lvl (exx D x m T) k) (adK m.Prime D (x.zA.length-(k+1)) e d)=adK m.Prime D (x.zA.length-(k+1)) (sig (suf (exx D x m T) (k+1)) (lvl (exx D x m T) k) e) (xL m.Prime D d (m.zM.getD k [])):=by
  have hp:=hE.m.p.pos;obtain⟨y,u,rfl,hy,hu⟩:=(tM h hE hT (x.zA.length-(k+1)) (k+1) (by omega) _).1 he;have eD:=vB h (by omega) hy;obtain⟨y1,u1,e,eE,cv⟩:=(tM h hE hT (x.zA.length-(k+1)) (k+1) (by omega) _).1 (zHX h hE hT hk (y:=y));have gL:=vB h (by omega) eE;have e0:adK m.Prime D (x.zA.length-(k+1)) (y++u) d=y++adv m.Prime D u d:=by grind[adK]
  rw[e0,zBF h hE hT hk hy (sQ),zBF h hE hT hk hy hu,e,Js gL,K1 gL,adK,Js gL,K1 gL,zER,zDf]
theorem zMX{z:Vec}(hz:V (suf (exx D x m T) (k+1)) z)(hd:Row m.Prime D d){w:Vec}(hw:V (suf (exx D x m T) (k+1)) w):
  mul (suf (exx D x m T) (k+1)) w (adK m.Prime D (x.zA.length-(k+1)) z d)=adK m.Prime D (x.zA.length-(k+1)) (mul (suf (exx D x m T) (k+1)) w z) d:=by
 have gz:=uH h hE hT (k:=k+1) (by omega);have G:=(zBQ _ gz hc).toMon;rw[zKV h hE hT (by omega) hz hd,zKV h hE hT (by omega) (G.cl hw hz) hd,G.assoc hw hz (by grind[zD])]
 omit hc in
theorem zSp:V (suf (exx D x m T) (k+1)) (lvl (exx D x m T) k).w:=by
  have gz:=uH h hE hT (k:=k) (by omega);rw[zY (x:=exx D x m T) (by grind[xX])]at gz;exact gz.2.1
 omit hc in
theorem zAx(he:V (suf (exx D x m T) (k+1)) e):V (suf (exx D x m T) (k+1)) (sig (suf (exx D x m T) (k+1)) (lvl (exx D x m T) k) e):=by
  have gz:=uH h hE hT (k:=k) (by omega);rw[zY (x:=exx D x m T) (by grind[xX])]at gz
  grind[zCu]
theorem zGo{b:Int}(he:V (suf (exx D x m T) (k+1)) e):mul (suf (exx D x m T) k) (b::e) (xH ((exx D x m T).zA.length-k) (k-k))=if b+1>=at0 x.zA k then(b+1-at0 x.zA k)::mul (suf (exx D x m T) (k+1)) (lvl (exx D x m T) k).w (sig (suf (exx D x m T) (k+1)) (lvl (exx D x m T) k) e)else(b+1)::sig (suf (exx D x m T) (k+1)) (lvl (exx D x m T) k) e:=by have _:=hc;rw[yBX (by grind[xX]),yBY h hE hT (by omega) (zAx h hE hT hk he),tF h hE hT hk]
theorem zMY(h1:k<a)(ha:a<x.zA.length){b:Int}(hb:b<at0 x.zA k):mul (suf (exx D x m T) k) (b::e) (xH ((exx D x m T).zA.length-k) (a-k))=b::mul (suf (exx D x m T) (k+1)) e (xH ((exx D x m T).zA.length-(k+1)) (a-(k+1))):=by have _:=hc;grind[yBW,xX,tF]
theorem yFS(h1:k<=a)(ha:a<x.zA.length){b:Int}(hb:b<at0 x.zA k)(he:V (suf (exx D x m T) (k+1)) e)(hd:Row m.Prime D d):
  mul (suf (exx D x m T) k) (b::adK m.Prime D (x.zA.length-(k+1)) e d) (xH ((exx D x m T).zA.length-k) (a-k))=adK m.Prime D (x.zA.length-k) (mul (suf (exx D x m T) k) (b::e) (xH ((exx D x m T).zA.length-k) (a-k))) (xL m.Prime D d (m.zM.getD a [])):=by
 have hp:=hE.m.p.pos;rcases Jo k a with g|g
 ·rw[zMY h hE hT hk hc g ha hb,zMY h hE hT hk hc g ha hb,yAv h hE hT hk hc g ha he hd,zAG h hE hT hk]
 ·obtain rfl:a=k:=by omega
  rw[zGo h hE hT hk hc (by grind[yBZ]),zGo h hE hT hk hc he,zId h hE hT hk he hd];split
  ·rw[zMX h hE hT hk hc (zAx h hE hT hk he) (wZ) (zSp h hE hT hk),zAG h hE hT hk]
  grind[zAG]
theorem yE0(h1:k<=a)(ha:a<x.zA.length)(he:V (suf (exx D x m T) k) e):V (suf (exx D x m T) k) (mul (suf (exx D x m T) k) e (xH ((exx D x m T).zA.length-k) (a-k))):=by have _:=hc;grind[yO,uH,zCC]
theorem yFT:∀{w:List Nat},(∀a∈w,k<=a/\a<x.zA.length)-> ∀{e:Vec},V (suf (exx D x m T) k) e->V (suf (exx D x m T) k) (fo (exx D x m T) k e w)
 | [],_,_,he=>he
 |a::w,hw,e,he=>by rw[tZ];exact yFT (by grind) (by grind[yE0])
theorem zRf:∀{w:List Nat},(∀a∈w,k<=a/\a<x.zA.length)-> ∀{e d:Vec},V (suf (exx D x m T) k) e->Row m.Prime D d->fo (exx D x m T) k (adK m.Prime D (x.zA.length-k) e d) w=adK m.Prime D (x.zA.length-k) (fo (exx D x m T) k e w) (xL m.Prime D d (wM m.Prime D m.zM w (idM D)))
 | [],_,e,d,_,hd=>by show adK _ _ _ e d=adK _ _ _ e (xL m.Prime D d (idM D));rw[sZ hd]
 |a::w,hw,e,d,he,hd=>by
  have hp:=hE.m.p.pos;obtain⟨a1,a2⟩:=hw a (by simp);have hA:=hE.m.mat a a2;have iP:=he;rw[zY (x:=exx D x m T) (by grind[xX])]at iP;cases e with
  |nil=>exact iP.elim
  |cons b e=>
   obtain⟨⟨b0,b1⟩,he1⟩:=iP;have b2:b<at0 x.zA k:=by rw[<-tF h hE hT hk];exact b1
   rw[tZ,tZ,zAG h hE hT hk,yFS h hE hT hk hc a1 a2 b2 he1 hd,zRf (by grind) (by grind[yE0]) (wZ),zEM hA.1]
   congr 2
   show PM _ _ _ (wM m.Prime D m.zM w (idM D))=wM m.Prime D m.zM w (PM m.Prime D (idM D) (m.zM.getD a []));rw[<-zKG (by omega) hA.1 w (tL),zC4 hA,zCX hA]
end
inductive Col (x:SPr) (k:Nat):List Nat->List (Nat×List Nat)->List Nat->Prop where
 |refl (w:List Nat):Col x k w [] w
 |step {w w1 w' s:List Nat}{r:Nat}{tr:List (Nat×List Nat)} (hw:∀a∈w,k<=a/\a<x.zA.length) (hs:stS x w=jf (r,s,w1)) (h:Col x k w1 tr w'):Col x k w ((r,s)::tr) w'
theorem Col.trans{w w1 w2:List Nat}(h:Col x k w t1 w1)(h2:Col x k w1 t2 w2):Col x k w (t1++t2) w2:=by
 induction h with
 |refl w=>exact h2
 |step hw hs _ ih=>exact .step hw hs (ih h2)
def tv(p:Int)(D:Nat)(m:zF)(T:Mx):List (Nat×List Nat)->Vec
 | []=>zeros D
 |(r,s)::t=>adv p D (xL p D (T.getD r []) (wM p D m.zM s (idM D))) (tv p D m T t)
section
variable {p:Int}{D:Nat}{m:zF}{T:Mx} (hp:2<=p)
 include hp
theorem zKW:∀t,Row p D (tv p D m T t)
 | []=>yX
 |(_,_)::_=>sQ
theorem zIe:∀t u,tv p D m T (t++u)=adv p D (tv p D m T t) (tv p D m T u)
 | [],u=>(uA (zKW hp u)).symm
 |(r,s)::t,u=>by show adv p D _ (tv p D m T (t++u))=adv p D (adv p D _ _) _;rw[zIe t u,zDf]
theorem yCa{A:List Mx}{u v:List Nat}:wM p D A (u++v) (idM D)=PM p D (wM p D A u (idM D)) (wM p D A v (idM D)):=by have hu:=zHL (D:=D) (A:=A) (show 0<p by omega) u (tL hp);rw[zFE,<-zKG (by omega) hu.1 v (tL hp),zC4 hu]
theorem zES{A:List Mx}{u v:List Nat}{r:Vec}:xL p D r (wM p D A (u++v) (idM D))=xL p D (xL p D r (wM p D A u (idM D))) (wM p D A v (idM D)):=by have hu:=zHL (D:=D) (A:=A) (show 0<p by omega) u (tL hp);rw[yCa hp,zEM hu.1]
theorem zVs(z:List Nat):∀t,tv p D m T (t.map fun q=>(q.1,q.2++z))=xL p D (tv p D m T t) (wM p D m.zM z (idM D))
 | []=>zAw.symm
 |(r,s)::t=>by show adv p D (xL p D (T.getD r []) (wM p D m.zM (s++z) (idM D))) (tv p D m T (t.map fun q=>(q.1,q.2++z)))=xL p D (adv p D _ (tv p D m T t)) _;rw[zVs z t,zER,zES hp]
end
section
variable {x:SPr} (h:Pres x)
 include h
theorem zMZ(ha:a<x.zA.length):2<=yD x a:=by
 have:=(h.os.2 a ha).pos
 grind
theorem tA{v:List Int}(hv:Exp x.zA v i)(hi:i<x.zA.length):nw 0 v=nw (i+1) (v.drop (i+1))/\ ∀a∈nw 0 v,i+1<=a/\a<x.zA.length:=by
 have _:=h;have e:=zAg hv hi;have e1:nw 0 v=nw (i+1) (v.drop (i+1)):=by rw[e,zCY,zC8,zT,K0,Ji,K1 (by rw[zT])]
 refine⟨e1,fun a ha=>?_⟩;rw[e1]at ha;refine⟨?_,zMA (n:=x.zA.length) (i+1) _ (by rw[Kl,hv.1.1];omega) a ha⟩
 clear e e1 hv
 generalize v.drop (i+1)=y at ha
 generalize i+1=o at ha ⊢
 clear hi
 induction y generalizing o with
 |nil=>grind[nw]
 |cons b y ih=>
  grind[nw]
theorem uE(hi:i<j)(hj:j<x.zA.length):Exp x.zA (lcj x i j) i:=by have g:=(h.tl i (by omega)).2.1;exact(h.tl i (by omega)).2.2 (j-(i+1)) (by omega)
theorem sS(hi:i<x.zA.length):Exp x.zA (x.zQ.getD i []) i:=(h.tl i hi).1
theorem zVt:∀(o:Nat)(y:Vec),∀a∈nw o y,o<=a
 |_,[],a,ha=>by grind[nw]
 |o,b::y,a,ha=>by
  have _:=h;simp only[nw,Ja]at ha;rcases ha with ha|ha
  ·grind
  ·have:=zVt (o+1) y a ha;omega
theorem zRg(hk:k<=x.zA.length)(hy:V (suf x k) y):∀a∈nw k y,k<=a/\a<x.zA.length:=fun a ha=>
 ⟨zVt h k y a ha,zMA (n:=x.zA.length) k y (by grind[vB]) a ha⟩
theorem zFR:∀(d k:Nat),k+d=x.zA.length-> ∀y,V (suf x k) y->stS x (nw k y)=jg
 |0,k,hk,y,hy=>by rw[vO (x:=x) (k:=k)]at hy;obtain rfl:y=[]:=hy;rfl
 |d+1,k,hk,y,hy=>by
  rw[zY (x:=x)]at hy;cases y with
  |nil=>rfl
  |cons b y=>
   obtain⟨⟨b0,b1⟩,hy⟩:=hy;change b<at0 x.zA k at b1;simp only[nw];have gC:b.toNat<yD x k:=by grind
   rw[zDZ gC b.toNat (Je _) fun a ha=>?_,zFR d (k+1) (by omega) y hy]
   ·rfl
   ·have:=zVt h (k+1) y a (by grind[Ja5])
    omega
theorem Col.ctx(hi:i<x.zA.length)(ha:a<yD x i){s:List Nat}(hs:∀b∈s,i<=b/\b<x.zA.length){w w':List Nat}{tr:List (Nat×List Nat)}(hc:Col x (i+1) w tr w'):
  Col x i (J1 a i++(w++s)) (tr.map fun q=>(q.1,q.2++s)) (J1 a i++(w'++s)):=by
 induction hc with
 |refl w=>exact .refl _
 | @step w w1 w' s1 r tr hw gA _ ih=>
  refine .step (fun b hb=>?_) ?_ ih
  ·grind
  ·rw[zDZ ha a (Je _) fun b hb=>?_,zKU (by grind[zMZ]) gA]
   ·rfl
   ·cases w with
    |nil=>cases gA
    |cons c w=>
     simp only[K9,Jb8,Hm.injEq]at hb;have:=hw c (by simp);omega
def cwd(x:SPr)(i:Nat):List Nat->List Nat
 | []=>[]
 |l::ur=>cwd x i ur++nw 0 (lcj x i l)
def mtr(x:SPr)(i:Nat):List Nat->List Nat->List (Nat×List Nat)
 | [],_=>[]
 |l::ur,z=>(base x.zA.length i+(l-(i+1)),z)::mtr x i ur (nw 0 (lcj x i l)++z)
theorem zKX{i:Nat}:∀{ur:List Nat},(∀b∈ur,i+1<=b/\b<x.zA.length)-> ∀b∈cwd x i ur,i+1<=b/\b<x.zA.length
 | [],_,b,hb=>by grind[cwd]
 |l::ur,hu,b,hb=>by
  simp only[cwd,Ja]at hb;obtain⟨l1,l2⟩:=hu l (by simp);rcases hb with hb|hb
  ·exact zKX (by grind) b hb
  ·exact(tA h (uE h (by omega) l2) (by omega)).2 b hb
theorem Col.move{i a:Nat}(hi:i<x.zA.length)(ha:a<yD x i):∀{ur:List Nat},(∀b∈ur,i+1<=b/\b<x.zA.length)->stS x ur.reverse=jg-> ∀{z:List Nat},(∀b∈z,i<=b/\b<x.zA.length)->
  Col x i (J1 a i++(ur.reverse++i::z)) (mtr x i ur z) (J1 (a+1) i++(cwd x i ur++z))
 | [],_,_,z,_=>by
  have e:J1 a i++(([]:List Nat).reverse++i::z)=J1 (a+1) i++(cwd x i []++z):=by grind[Lw,cwd]
  rw[e];exact .refl _
 |l::ur,hu,hn,z,hz=>by
  obtain⟨l1,l2⟩:=hu l (by simp);have p7:∀b∈ur,i+1<=b/\b<x.zA.length:=by grind
  have cU:=tA h (uE h (show i<l by omega) l2) hi;rw[G8]at hn ⊢
  have bg:=zGn (by grind[zMZ]) hn;have eW:∀b∈nw 0 (lcj x i l)++z,i<=b/\b<x.zA.length:=by grind
  have ih:=Col.move hi ha p7 bg eW;rw[show cwd x i (l::ur)++z=cwd x i ur++(nw 0 (lcj x i l)++z)from by simp[cwd]];have e1:ur.reverse++[l]++i::z=ur.reverse++l::i::z:=by simp
  rw[e1];refine .step (fun b hb=>?_) ?_ ih
  ·simp only[Ja,J9,List.mem_reverse]at hb
   rcases hb with hb|hb|hb|hb|hb
   ·grind
   ·grind
   ·omega
   all_goals grind
  ·rw[zDZ ha a (Je _) fun b hb=>?_,zVq (by grind) (by omega) hn]
   ·rfl
   ·have:b∈ur.reverse++l::i::z:=by grind[Ja5]
    cases e:ur.reverse with
    |nil=>grind
    |cons c t=>
     grind
end
theorem zIf{α:Type}(m:α->α->α)(c:Nat->α)(z:α):∀(cs:List α)(v:Vec)(o:Nat)(acc:α),(∀j,j<cs.length->cs.getD j z=c (o+j))->v.length<=cs.length->img m cs v acc=(nw o v).foldl (fun acc j=>m acc (c j)) acc
 |cs,[],o,acc,_,_=>by cases cs<;>rfl
 | [],_::_,_,_,_,h=>by simp at h
 |a::cs,b::v,o,acc,hc,hl=>by
  have h0:=hc 0 (by simp);simp only[Gm,Um]at h0;have e:∀(k:Nat)(u:α),(J1 k o).foldl (fun acc j=>m acc (c j)) u=iter k (fun v=>m v a) u:=by
   intro k
   induction k with
   |zero=>intro u;rfl
   |succ k ih=>intro u;rw[Jv,Ug,ih,h0];rfl
  show img m cs v (iter b.toNat (fun v=>m v a) acc)=_;simp only[nw,Gu];rw[e,zIf m c z cs v (o+1) _ (fun j hj=>by have:=hc (j+1) (by grind);grind) (by grind)]
theorem map_drop{l:List (List Int)}{n:Nat}:(l.map (·.drop n)).getD i []=(l.getD i []).drop n:=by grind
section
variable {D:Nat}{x:SPr}{m:zF}{T:Mx} (h:Pres x) (hE:ExB x.zA.length D x m T) (hT:∀i,i<T.length->Row m.Prime D (T.getD i []))
 include h hE hT
theorem zYA(hk:k<x.zA.length)(hc:xC (suf (exx D x m T) k)):xC (suf (exx D x m T) (k+1)):=by rw[zY (x:=exx D x m T) (by grind[xX])]at hc;exact hc.1
theorem zOY(hk:k<=x.zA.length):V (suf (exx D x m T) k) (zeros ((exx D x m T).zA.length-k)):=by grind[wD,uH,yC]
theorem zIg(hk:k<=x.zA.length):zeros ((exx D x m T).zA.length-k)=zeros (x.zA.length-k)++zeros D:=by rw[xX h hE hT,show x.zA.length+D-k=x.zA.length-k+D from by omega,zFQ]
theorem zDn(hk:k<=x.zA.length){u:Vec}(hy:V (suf x k) y)(hu:Row m.Prime D u):V (suf (exx D x m T) k) (y++u):=
 (tM h hE hT (x.zA.length-k) k (by omega) _).2 (by grind)
theorem jN(hk:k<=x.zA.length){u:Vec}(hy:V (suf x k) y):adK m.Prime D (x.zA.length-k) (y++u) d=y++adv m.Prime D u d:=by have _:=hE;have _:=hT;have eD:=vB h hk hy;rw[adK,Js eD,K1 eD]
theorem zIh:∀(d k:Nat),k+d=x.zA.length->xC (suf (exx D x m T) k)-> ∀y,V (suf x k) y->fo (exx D x m T) k (zeros ((exx D x m T).zA.length-k)) (nw k y)=y++zeros D
 |0,k,hk,_,y,hy=>by rw[vO (x:=x) (k:=k)]at hy;obtain rfl:y=[]:=hy;rw[zIg h hE hT (by omega),show x.zA.length-k=0 from by omega];rfl
 |d+1,k,hk,hc,y,hy=>by
  have pQ:=zYA h hE hT (by omega) hc;have ih:=zIh d (k+1) (by omega) pQ;rw[zY (x:=x)]at hy;cases y with
  |nil=>exact hy.elim
  |cons b y=>
   obtain⟨⟨b0,b1⟩,hy⟩:=hy;change b<at0 x.zA k at b1;have eY:k<x.zA.length:=by omega
   have hz:=zOY h hE hT (k:=k+1) (by omega);simp only[nw];rw[zCB];have e1:∀c:Nat,(c:Int)<at0 x.zA k->fo (exx D x m T) k (zeros ((exx D x m T).zA.length-k)) (J1 c k)=(c:Int)::zeros ((exx D x m T).zA.length-(k+1)):=by
    intro c
    induction c with
    |zero=>
     intro _;have hl:=xX h hE hT;rw[show(exx D x m T).zA.length-k=(exx D x m T).zA.length-(k+1)+1 from by omega];rfl
    |succ c ihc=>
     intro gy;rw[Lw,zCB,ihc (by omega)];show mul _ _ _=_;rw[zGo h hE hT eY pQ hz,if_neg (by omega)];have:sig (suf (exx D x m T) (k+1)) (lvl (exx D x m T) k) (zeros ((exx D x m T).zA.length-(k+1)))=zeros ((exx D x m T).zA.length-(k+1)):=by grind[sig,tN,yC]
     grind
   have e2:∀(w:List Nat)(e:Vec),(∀a∈w,k+1<=a/\a<x.zA.length)->fo (exx D x m T) k (b::e) w=b::fo (exx D x m T) (k+1) e w:=by
    intro w
    induction w with
    |nil=>intro e _;rfl
    |cons a w ihw=>
     intro e hw;rw[tZ,zMY h hE hT eY pQ (hw a (by simp)).1 (hw a (by simp)).2 b1,ihw _ (by grind)];rfl
   have:=e1 b.toNat (by omega);rw[this,show((b.toNat:Nat):Int)=b from by omega,e2 _ _ fun a ha=>zRg h (by omega) hy a ha,ih y hy];rfl
variable {k:Nat} (hk:k<x.zA.length) (hc:xC (suf (exx D x m T) (k+1)))
 include hk hc
theorem zIi{b:Int}(hb:b<at0 x.zA k):∀(w:List Nat)(e:Vec),(∀a∈w,k+1<=a/\a<x.zA.length)->fo (exx D x m T) k (b::e) w=b::fo (exx D x m T) (k+1) e w
 | [],e,_=>rfl
 |a::w,e,hw=>by rw[tZ,zMY h hE hT hk hc (hw a (by simp)).1 (hw a (by simp)).2 hb,zIi hb w _ (by grind)];rfl
 omit hc in
theorem zSq:∀{w:List Nat},(∀a∈w,k+1<=a/\a<x.zA.length)-> ∀{e:Vec},V (suf (exx D x m T) (k+1)) e->V (suf (exx D x m T) (k+1)) (fo (exx D x m T) (k+1) e w)
  | [],_,_,he=>he
  |a::w,hw,e,he=>by rw[tZ];exact zSq (fun b hb=>hw b (by simp[hb])) (yO (uH h hE hT (by omega)) he (zCC h hE hT (hw a (by simp)).1 (hw a (by simp)).2))
theorem zVu:∀{w:List Nat},(∀a∈w,k+1<=a/\a<x.zA.length)-> ∀{e d:Vec},V (suf (exx D x m T) (k+1)) e->Row m.Prime D d->fo (exx D x m T) (k+1) (adK m.Prime D (x.zA.length-(k+1)) e d) w=adK m.Prime D (x.zA.length-(k+1)) (fo (exx D x m T) (k+1) e w) (xL m.Prime D d (wM m.Prime D m.zM w (idM D)))
 | [],_,e,d,_,hd=>by show adK _ _ _ e d=adK _ _ _ e (xL m.Prime D d (idM D));rw[sZ hd]
 |a::w,hw,e,d,he,hd=>by
  have hp:=hE.m.p.pos;obtain⟨a1,a2⟩:=hw a (by simp);have hA:=hE.m.mat a a2;rw[tZ,tZ,yAv h hE hT hk hc a1 a2 he hd,zVu (by grind) (by grind[yO,uH,zCC]) (wZ),zEM hA.1]
  congr 2
  show PM _ _ _ (wM m.Prime D m.zM w (idM D))=wM m.Prime D m.zM w (PM m.Prime D (idM D) (m.zM.getD a []));rw[<-zKG (by omega) hA.1 w (tL),zC4 hA,zCX hA]
theorem zVv:∀{w:List Nat},(∀a∈w,k+1<=a/\a<x.zA.length)-> ∀{e f:Vec},V (suf (exx D x m T) (k+1)) e->V (suf (exx D x m T) (k+1)) f->fo (exx D x m T) (k+1) (mul (suf (exx D x m T) (k+1)) e f) w=mul (suf (exx D x m T) (k+1)) e (fo (exx D x m T) (k+1) f w)
 | [],_,_,_,_,_=>rfl
 |a::w,hw,e,f,he,hf=>by have gz:=uH h hE hT (k:=k+1) (by omega);have G:=(zBQ _ gz hc).toMon;have hg:=zCC h hE hT (hw a (by simp)).1 (hw a (by simp)).2;rw[tZ,tZ,G.assoc he hf hg,zVv (by grind) he (G.cl hf hg)]
theorem zIj{w:List Nat}(hw:∀a∈w,k+1<=a/\a<x.zA.length)(he:V (suf (exx D x m T) (k+1)) e):fo (exx D x m T) (k+1) e w=mul (suf (exx D x m T) (k+1)) e (fo (exx D x m T) (k+1) (zeros ((exx D x m T).zA.length-(k+1))) w):=by rw[<-zVv h hE hT hk hc hw he (by grind[zOY]),yBY h hE hT (by omega) he]
def dm(p:Int)(D:Nat)(x:SPr)(m:zF)(T:Mx)(k:Nat):List Nat->Vec
 | []=>zeros D
 |l::ur=>adv p D (xL p D (dm p D x m T k ur) (wM p D m.zM (nw 0 (lcj x k l)) (idM D))) (T.getD (base x.zA.length k+(l-(k+1))) [])
 omit h hE hT hk hc in
theorem zOZ(hp:2<=m.Prime):∀ur,Row m.Prime D (dm m.Prime D x m T k ur)
  | []=>yX
  |_::_=>sQ
 omit h hE hT hk hc in
theorem zPa(hp:2<=m.Prime):∀(ur:List Nat)(z:List Nat),tv m.Prime D m T (mtr x k ur z)=xL m.Prime D (dm m.Prime D x m T k ur) (wM m.Prime D m.zM z (idM D))
  | [],z=>zAw.symm
  |l::ur,z=>by show adv m.Prime D _ (tv m.Prime D m T (mtr x k ur (nw 0 (lcj x k l)++z)))=xL m.Prime D (adv m.Prime D _ _) _;rw[zPa hp ur,zER,zES hp,uX]
theorem zVw:∀{ur:List Nat},(∀b∈ur,k+1<=b/\b<x.zA.length)->ur.reverse.foldl (fun acc j=>mul (suf (exx D x m T) (k+1)) acc ((lvl (exx D x m T) k).cs.getD (j-(k+1)) [])) (zeros ((exx D x m T).zA.length-(k+1)))=
  adK m.Prime D (x.zA.length-(k+1)) (fo (exx D x m T) (k+1) (zeros ((exx D x m T).zA.length-(k+1))) (cwd x k ur)) (dm m.Prime D x m T k ur)
 | [],_=>by have hp:=hE.m.p.pos;show zeros _=adK _ _ _ (zeros _) (zeros D);rw[zIg h hE hT (by omega),jN h hE hT (by omega) (by grind[zv]),uA (yX)]
 |l::ur,hu=>by
  have hp:=hE.m.p.pos;obtain⟨l1,l2⟩:=hu l (by simp);have p7:∀b∈ur,k+1<=b/\b<x.zA.length:=by grind
  have gz:=uH h hE hT (k:=k+1) (by omega);have G:=(zBQ _ gz hc).toMon;have hz:=zOY h hE hT (k:=k+1) (by omega);have m9:=zKX h p7;have hF:=zSq h hE hT hk m9 hz;have cU:=tA h (uE h (show k<l by omega) l2) hk;have gy:V (suf x (k+1)) ((lcj x k l).drop (k+1)):=by grind[jC,uE]
  have pf:(lvl x k).cs.getD (l-(k+1)) []=(lcj x k l).drop (k+1):=map_drop;have ht:=zD4 h hE hT (show k<l by omega) l2;have hd:=zOZ (D:=D) (x:=x) (m:=m) (T:=T) (k:=k) (by omega) ur;have iJ:=zIh h hE hT (x.zA.length-(k+1)) (k+1) (by omega) hc _ gy;have cJ:=zDn h hE hT (k:=k+1) (by omega) gy (yX (p:=m.Prime) (D:=D));rw[G8,Gu,zVw p7];show mul _ (adK _ _ _ _ _) ((lvl (exx D x m T) k).cs.getD (l-(k+1)) [])=_;rw[zHZ h hE hT hk l1 l2,pf];have e1:(lcj x k l).drop (k+1)++T.getD (base x.zA.length k+(l-(k+1))) []=adK m.Prime D (x.zA.length-(k+1)) ((lcj x k l).drop (k+1)++zeros D) (T.getD (base x.zA.length k+(l-(k+1))) []):=by grind[jN,uA]
  have gK:∀b∈nw (k+1) ((lcj x k l).drop (k+1)),k+1<=b/\b<x.zA.length:=by grind
  have eO:=yBZ h hE hT (k:=k+1) (by omega) hF (d:=dm m.Prime D x m T k ur);rw[e1,zMX h hE hT hk hc cJ ht eO,<-iJ,<-zIj h hE hT hk hc gK eO,zVu h hE hT hk hc gK hF hd,yAt h hE hT (by omega) (zSq h hE hT hk gK hF),<-zCB,<-cU.1];rfl
theorem zRh(hy:V (suf x (k+1)) y):sig (suf (exx D x m T) (k+1)) (lvl (exx D x m T) k) (y++zeros D)=adK m.Prime D (x.zA.length-(k+1)) (fo (exx D x m T) (k+1) (zeros ((exx D x m T).zA.length-(k+1))) (cwd x k (nw (k+1) y).reverse)) (dm m.Prime D x m T k (nw (k+1) y).reverse):=by have hp:=hE.m.p.pos;have eD:=vB h (by omega) hy;have gK:=zRg h (by omega) hy;rw[<-zVw h hE hT hk hc (by grind),Ki,zBF h hE hT hk hy (yX),zAw];obtain⟨y1,u1,e,eE,cv⟩:=(tM h hE hT (x.zA.length-(k+1)) (k+1) (by omega) _).1 (zHX h hE hT hk (y:=y));have gL:=vB h (by omega) eE;rw[e,Js gL,K1 gL,zAv cv,<-e];unfold sgG;rw[yC];refine zIf _ (fun j=>(lvl (exx D x m T) k).cs.getD (j-(k+1)) []) [] _ _ _ _ (fun j hj=>?_) (by grind[qH]);rw[qH h hE hT]at hj;rw[show k+1+j-(k+1)=j from by omega,zBE h hE hT hk,J2,J2,Jy (by grind[qH])]
end
section
variable {x:SPr} (h:Pres x)
 include h
theorem zNa{m:zF}{T:Mx}(hE:ExB x.zA.length D x m T)(hT:∀i,i<T.length->Row m.Prime D (T.getD i []))(hk:k<=x.zA.length)(hc:xC (suf (exx D x m T) k)):xC (suf (exx D x m T) (k+1)):=by
 have hl:=xX h hE hT
 by_cases g:k<x.zA.length+D
 ·rw[zY (x:=exx D x m T)]at hc
  exact hc.1
 ·rw[vO]at hc ⊢
  exact hc
structure tT (x:SPr) (k:Nat) (z:List Nat) (tr:List (Nat×List Nat)) (y:Vec):Prop where
 col:Col x k z tr (nw k y)
 v:V (suf x k) y
 val:∀(D:Nat)(m:zF)(T:Mx),ExB x.zA.length D x m T->(∀i,i<T.length->Row m.Prime D (T.getD i []))->xC (suf (exx D x m T) (k+1))->fo (exx D x m T) k (zeros ((exx D x m T).zA.length-k)) z=y++tv m.Prime D m T tr
theorem zRi{k:Nat}(hk:k<x.zA.length)(P:∀v:List Nat,(∀a∈v,k+1<=a/\a<x.zA.length)-> ∃tr y,tT x (k+1) v tr y):∀(z:List Nat),(∀a∈z,k<=a/\a<x.zA.length)-> ∀(a:Nat),a<yD x k-> ∀(v:List Nat),(∀a∈v,k+1<=a/\a<x.zA.length)->
  ∃tr y,Col x k (J1 a k++(v++z)) tr (nw k y)/\V (suf x k) y/\ ∀(D:Nat)(m:zF)(T:Mx),ExB x.zA.length D x m T->(∀i,i<T.length->Row m.Prime D (T.getD i []))->xC (suf (exx D x m T) (k+1))->
   fo (exx D x m T) k ((a:Int)::fo (exx D x m T) (k+1) (zeros ((exx D x m T).zA.length-(k+1))) v) z=y++tv m.Prime D m T tr
 | [],_,a,ha,v,hv=>by
  obtain⟨tr,y,c1,c2,c3⟩:=P v hv;have hc:=Col.ctx h hk ha (s:=[]) (by simp) c1;rw[show(fun q:Nat×List Nat=>(q.1,q.2++[]))=id from by grind,List.map_id,Jh,Jh]at hc;refine⟨tr,(a:Int)::y,?_,?_,fun D m T hE hT hc=>?_⟩
  ·grind[nw]
  ·rw[zY hk]
   refine⟨⟨by omega,?_⟩,c2⟩;show(a:Int)<at0 x.zA k
   grind
  ·rw[c3 D m T hE hT (by grind[zNa])];rfl
 |l::z,hz,a,ha,v,hv=>by
  have eW:∀b∈z,k<=b/\b<x.zA.length:=by grind
  obtain⟨l1,l2⟩:=hz l (by simp);have pT:(a:Int)<at0 x.zA k:=by grind
  rcases Jo k l with g|g
  ·obtain⟨tr,y,c1,c2,c3⟩:=zRi hk P z eW a ha (v++[l]) (by grind)
   refine⟨tr,y,by grind,c2,fun D m T hE hT hc=>?_⟩;rw[<-c3 D m T hE hT hc,tZ,zMY h hE hT hk hc g l2 pT,zCB];rfl
  ·obtain rfl:l=k:=by omega
   obtain⟨tr1,y1,c1,c2,c3⟩:=P v hv;have gK:=zRg h (by omega) c2;have pM:∀b∈(nw (l+1) y1).reverse,l+1<=b/\b<x.zA.length:=by grind
   have k1:=Col.ctx h hk ha (s:=l::z) hz c1;have k2:=Col.move h hk ha pM (by rw[Ki];exact zFR h _ _ (by omega:l+1+(x.zA.length-(l+1))=x.zA.length) y1 c2) eW;rw[Ki]at k2;have m9:=zKX h pM;have val:∀(D:Nat)(m:zF)(T:Mx)(hE:ExB x.zA.length D x m T)(hT:∀i,i<T.length->Row m.Prime D (T.getD i []))(hc:xC (suf (exx D x m T) (l+1))),
     fo (exx D x m T) l ((a:Int)::fo (exx D x m T) (l+1) (zeros ((exx D x m T).zA.length-(l+1))) v) (l::z)=adK m.Prime D (x.zA.length-l) (fo (exx D x m T) l (mul (suf (exx D x m T) l) ((a:Int)::(y1++zeros D)) (xH ((exx D x m T).zA.length-l) (l-l))) z) (tv m.Prime D m T (tr1.map fun q=>(q.1,q.2++l::z))):=by
    intro D m T hE hT hc;have hp:=hE.m.p.pos;have ht:=zKW (D:=D) (m:=m) (T:=T) (p:=m.Prime) (by omega) tr1;have aa:=zDn h hE hT (k:=l+1) (by omega) c2 (yX (p:=m.Prime) (D:=D));have de:V (suf (exx D x m T) l) ((a:Int)::(y1++zeros D)):=by rw[zY (x:=exx D x m T) (by rw[xX h hE hT];omega)];refine⟨⟨by omega,?_⟩,aa⟩;show(a:Int)<at0 (exx D x m T).zA l;rw[tF h hE hT hk];exact pT
    rw[c3 D m T hE hT (zNa h hE hT (by omega) hc),show y1++tv m.Prime D m T tr1=adK m.Prime D (x.zA.length-(l+1)) (y1++zeros D) (tv m.Prime D m T tr1)from by rw[jN h hE hT (by omega) c2,uA ht],<-zAG h hE hT hk,zRf h hE hT hk hc hz de ht,zVs (by omega)];rfl
   have foV:∀(D:Nat)(m:zF)(T:Mx)(hE:ExB x.zA.length D x m T)(hT:∀i,i<T.length->Row m.Prime D (T.getD i []))(_hc:xC (suf (exx D x m T) (l+1))),V (suf (exx D x m T) (l+1)) (fo (exx D x m T) (l+1) (zeros ((exx D x m T).zA.length-(l+1))) (cwd x l (nw (l+1) y1).reverse)):=fun D m T hE hT _hc=>zSq h hE hT hk m9 (zOY h hE hT (by omega))
   rcases Jo (a+1) (yD x l)with g2|g2
   ·obtain⟨tr2,y2,d1,d2,d3⟩:=zRi hk P z eW (a+1) g2 (cwd x l (nw (l+1) y1).reverse) m9
    refine⟨_,y2,k1.trans (k2.trans d1),d2,fun D m T hE hT hc=>?_⟩;have hp:=hE.m.p.pos;have aa:=zDn h hE hT (k:=l+1) (by omega) c2 (yX (p:=m.Prime) (D:=D));have g3:(a:Int)+1<at0 x.zA l:=by have:a+1<(at0 x.zA l).toNat:=g2;omega
    have hF:=foV D m T hE hT hc;have de:V (suf (exx D x m T) l) (((a:Int)+1)::fo (exx D x m T) (l+1) (zeros ((exx D x m T).zA.length-(l+1))) (cwd x l (nw (l+1) y1).reverse)):=by rw[zY (x:=exx D x m T) (by rw[xX h hE hT];omega)];refine⟨⟨by omega,?_⟩,hF⟩;show(a:Int)+1<at0 (exx D x m T).zA l;rw[tF h hE hT hk];exact g3
    have hd:=zOZ (D:=D) (x:=x) (m:=m) (T:=T) (k:=l) (by omega) (nw (l+1) y1).reverse;have d3':=d3 D m T hE hT hc;rw[show(((a+1:Nat):Int))=(a:Int)+1 from by omega]at d3';rw[val D m T hE hT hc,zGo h hE hT hk hc aa,if_neg (by omega),zRh h hE hT hk hc c2,<-zAG h hE hT hk,zRf h hE hT hk hc eW de hd,d3',jN h hE hT (by omega) d2,jN h hE hT (by omega) d2,<-zPa (by omega),zIe (by omega),zIe (by omega),uX,uX (u:=tv m.Prime D m T tr2)]
   ·have g4:a+1=yD x l:=by omega
    have pZ:=sS h hk;have m6:=tA h pZ hk;have dp:∀b∈nw 0 (x.zQ.getD l [])++cwd x l (nw (l+1) y1).reverse,l+1<=b/\b<x.zA.length:=fun b hb=>by
     simp only[Ja]at hb;rcases hb with hb|hb
     ·exact m6.2 b hb
     ·exact m9 b hb
    obtain⟨tr2,y2,d1,d2,d3⟩:=zRi hk P z eW 0 (by omega) _ dp;rw[H0,K0,Jg]at d1;have k3:Col x l (J1 (a+1) l++(cwd x l (nw (l+1) y1).reverse++z)) ((l,cwd x l (nw (l+1) y1).reverse++z)::tr2) (nw l y2):=by
     refine .step (fun b hb=>?_) (by rw[g4];exact yAs (zMZ h hk) _) d1;simp only[Ja]at hb;rcases hb with hb|hb|hb
     ·have:=H2 hb;omega
     ·have:=m9 b hb;omega
     ·exact eW b hb
    refine⟨_,y2,k1.trans (k2.trans k3),d2,fun D m T hE hT hc=>?_⟩;have hp:=hE.m.p.pos;have aa:=zDn h hE hT (k:=l+1) (by omega) c2 (yX (p:=m.Prime) (D:=D));have g3:(a:Int)+1=at0 x.zA l:=by have:a+1=(at0 x.zA l).toNat:=g4;omega
    have hF:=foV D m T hE hT hc;have hd:=zOZ (D:=D) (x:=x) (m:=m) (T:=T) (k:=l) (by omega) (nw (l+1) y1).reverse;have eF:=zBG h hE hT hk;have cr:V (suf x (l+1)) ((x.zQ.getD l []).drop (l+1)):=jC pZ hk;have pW:=zDn h hE hT (k:=l+1) (by omega) cr (yX (p:=m.Prime) (D:=D));have hw:(lvl (exx D x m T) l).w=adK m.Prime D (x.zA.length-(l+1)) ((x.zQ.getD l []).drop (l+1)++zeros D) (T.getD l []):=by rw[zHW h hE hT hk,jN h hE hT (by omega) cr,uA eF];rfl
    have fS:=zSp h hE hT hk;have hFw:=zSq h hE hT hk dp (zOY h hE hT (by omega));have em:mul (suf (exx D x m T) (l+1)) (lvl (exx D x m T) l).w (fo (exx D x m T) (l+1) (zeros ((exx D x m T).zA.length-(l+1))) (cwd x l (nw (l+1) y1).reverse))=adK m.Prime D (x.zA.length-(l+1)) (fo (exx D x m T) (l+1) (zeros ((exx D x m T).zA.length-(l+1))) (nw 0 (x.zQ.getD l [])++cwd x l (nw (l+1) y1).reverse)) (xL m.Prime D (T.getD l []) (wM m.Prime D m.zM (cwd x l (nw (l+1) y1).reverse) (idM D))):=by rw[<-zIj h hE hT hk hc m9 fS,hw,zVu h hE hT hk hc m9 pW eF,<-zIh h hE hT _ (l+1) (by omega:l+1+(x.zA.length-(l+1))=x.zA.length) hc _ cr,<-zCB,<-m6.1]
    have de:V (suf (exx D x m T) l) ((0:Int)::fo (exx D x m T) (l+1) (zeros ((exx D x m T).zA.length-(l+1))) (nw 0 (x.zQ.getD l [])++cwd x l (nw (l+1) y1).reverse)):=by rw[zY (x:=exx D x m T) (by rw[xX h hE hT];omega)];refine⟨⟨by omega,?_⟩,hFw⟩;show(0:Int)<at0 (exx D x m T).zA l;rw[tF h hE hT hk];omega
    have d3':=d3 D m T hE hT hc;rw[show(((0:Nat):Int))=0 from rfl]at d3';rw[val D m T hE hT hc,zGo h hE hT hk hc aa,if_pos (by omega),zRh h hE hT hk hc c2,zMX h hE hT hk hc hF hd fS,em,yAt h hE hT (by omega) hFw,g3,Jbb,<-zAG h hE hT hk,zRf h hE hT hk hc eW de (sQ),d3',jN h hE hT (by omega) d2,jN h hE hT (by omega) d2,zER,<-zPa (by omega),<-zES (by omega),zIe (by omega),zIe (by omega)];show y2++adv m.Prime D (adv m.Prime D (tv m.Prime D m T tr2) (adv m.Prime D _ _)) _=y2++adv m.Prime D _ (adv m.Prime D _ (adv m.Prime D _ (tv m.Prime D m T tr2)));rw[uX,uX (u:=tv m.Prime D m T tr2),uX (u:=xL m.Prime D (T.getD l []) _),zDf]
theorem zYB:∀(d k:Nat),k+d=x.zA.length-> ∀z:List Nat,(∀a∈z,k<=a/\a<x.zA.length)-> ∃tr y,tT x k z tr y
 |0,k,hk,z,hz=>by
  have:z=[]:=by
   cases z with
   |nil=>rfl
   |cons a z=>have:=hz a (by simp);omega
  subst this;refine⟨[],[],.refl _,by rw[vO (x:=x) (k:=k)];rfl,fun D m T hE hT _=>?_⟩;show zeros _=[]++zeros D;rw[zIg h hE hT (by omega),show x.zA.length-k=0 from by omega];rfl
 |d+1,k,hk,z,hz=>by have ho:=zMZ h (show k<x.zA.length by omega);obtain⟨tr,y,c1,c2,c3⟩:=zRi h (by omega) (zYB d (k+1) (by omega)) z hz 0 (by omega) [] (by simp);refine⟨tr,y,by grind,c2,fun D m T hE hT hc=>?_⟩;rw[<-c3 D m T hE hT hc];have hl:=xX h hE hT;rw[show(exx D x m T).zA.length-k=(exx D x m T).zA.length-(k+1)+1 from by omega];rfl
end
section
variable {D:Nat}{x:SPr}{m:zF}{T:Mx} (h:Pres x) (hE:ExB x.zA.length D x m T) (hT:∀i,i<T.length->Row m.Prime D (T.getD i []))
 include h hE hT
variable {k:Nat} (hk:k<x.zA.length) (hc:xC (suf (exx D x m T) (k+1)))
 include hk hc
theorem zGL{w1 w2:List Nat}{y1 y2:Vec}(k1:tT x k w1 t1 y1)(k2:tT x k w2 t2 y2){r1 r2:Nat}{s1 s2:List Nat}{b:Int}{A1 A2:Vec}(hA1:V (suf (exx D x m T) (k+1)) A1)(hA2:V (suf (exx D x m T) (k+1)) A2)
  (v1:fo (exx D x m T) k (zeros ((exx D x m T).zA.length-k)) w1=b::A1)(v2:fo (exx D x m T) k (zeros ((exx D x m T).zA.length-k)) w2=b::A2)
  (eF:(adK m.Prime D (x.zA.length-(k+1)) A1 (xL m.Prime D (T.getD r1 []) (wM m.Prime D m.zM s1 (idM D)))).take (x.zA.length-(k+1))=(adK m.Prime D (x.zA.length-(k+1)) A2 (xL m.Prime D (T.getD r2 []) (wM m.Prime D m.zM s2 (idM D)))).take (x.zA.length-(k+1))):
  y1=y2/\(tv m.Prime D m T ((r1,s1)::t1)=tv m.Prime D m T ((r2,s2)::t2)↔adK m.Prime D (x.zA.length-(k+1)) A1 (xL m.Prime D (T.getD r1 []) (wM m.Prime D m.zM s1 (idM D)))=adK m.Prime D (x.zA.length-(k+1)) A2 (xL m.Prime D (T.getD r2 []) (wM m.Prime D m.zM s2 (idM D)))):=by
 have _:=hA1;have _:=hA2;have key:∀(w:List Nat)(t:List (Nat×List Nat))(y:Vec)(A:Vec)(r:Nat)(s:List Nat),tT x k w t y->fo (exx D x m T) k (zeros ((exx D x m T).zA.length-k)) w=b::A->
   b::adK m.Prime D (x.zA.length-(k+1)) A (xL m.Prime D (T.getD r []) (wM m.Prime D m.zM s (idM D)))=y++tv m.Prime D m T ((r,s)::t):=by
  intro w t y A r s kc v;rw[<-zAG h hE hT hk,<-v,kc.val D m T hE hT hc,jN h hE hT (by omega) kc.v,uX];rfl
 have e1:=key w1 t1 y1 A1 r1 s1 k1 v1;have e2:=key w2 t2 y2 A2 r2 s2 k2 v2;have l1:=vB h (by omega) k1.v;have l2:=vB h (by omega) k2.v;have hy:y1=y2:=by
  have a1:=congrArg (Jaa (x.zA.length-(k+1)+1)) e1;have a2:=congrArg (Jaa (x.zA.length-(k+1)+1)) e2
  grind
 subst hy;refine⟨rfl,?_⟩;constructor
 all_goals grind[Qw]
theorem zEa{v:List Nat}(hv:∀a∈v,k+1<=a/\a<x.zA.length){z:List Nat}:fo (exx D x m T) k (zeros ((exx D x m T).zA.length-k)) (v++k::z)=fo (exx D x m T) k ((1:Int)::sig (suf (exx D x m T) (k+1)) (lvl (exx D x m T) k) (fo (exx D x m T) (k+1) (zeros ((exx D x m T).zA.length-(k+1))) v)) z:=by
 have ho:=(h.os.2 k hk).pos;have hl:=xX h hE hT;have hF:=zSq h hE hT hk hv (zOY h hE hT (by omega));rw[show zeros ((exx D x m T).zA.length-k)=0::zeros ((exx D x m T).zA.length-(k+1))from by rw[show(exx D x m T).zA.length-k=(exx D x m T).zA.length-(k+1)+1 from by omega];rfl,zCB,zIi h hE hT hk hc (by omega) v _ hv,tZ,zGo h hE hT hk hc hF,if_neg (by omega)];rfl
 omit hc in
theorem zET(hy:V (suf x (k+1)) y):sig (suf (exx D x m T) (k+1)) (lvl (exx D x m T) k) (y++zeros D)=(nw (k+1) y).foldl (fun acc j=>mul (suf (exx D x m T) (k+1)) acc ((lvl (exx D x m T) k).cs.getD (j-(k+1)) [])) (zeros ((exx D x m T).zA.length-(k+1))):=by
  have hp:=hE.m.p.pos;have eD:=vB h (by omega) hy;rw[zBF h hE hT hk hy (yX),zAw];obtain⟨y1,u1,e,eE,cv⟩:=(tM h hE hT (x.zA.length-(k+1)) (k+1) (by omega) _).1 (zHX h hE hT hk (y:=y));have gL:=vB h (by omega) eE;rw[e,Js gL,K1 gL,zAv cv,<-e];unfold sgG;rw[yC];refine zIf _ (fun j=>(lvl (exx D x m T) k).cs.getD (j-(k+1)) []) [] _ _ _ _ (fun j hj=>?_) (by grind[qH])
  grind[zBE]
 omit hc in
theorem zNb(h1:k+1<=j)(h2:j<x.zA.length):V (suf (exx D x m T) (k+1)) ((lvl (exx D x m T) k).cs.getD (j-(k+1)) []):=by
  have gy:V (suf x (k+1)) ((lcj x k j).drop (k+1)):=by grind[jC,uE]
  rw[zHZ h hE hT hk h1 h2,show(lvl x k).cs.getD (j-(k+1)) []=(lcj x k j).drop (k+1)from map_drop]
  grind[zDn,zD4]
theorem zNc:∀{v:List Nat},(∀a∈v,k+1<=a/\a<x.zA.length)-> ∀{e f:Vec},V (suf (exx D x m T) (k+1)) e->V (suf (exx D x m T) (k+1)) f->v.foldl (fun acc j=>mul (suf (exx D x m T) (k+1)) acc ((lvl (exx D x m T) k).cs.getD (j-(k+1)) [])) (mul (suf (exx D x m T) (k+1)) e f)=mul (suf (exx D x m T) (k+1)) e (v.foldl (fun acc j=>mul (suf (exx D x m T) (k+1)) acc ((lvl (exx D x m T) k).cs.getD (j-(k+1)) [])) f)
 | [],_,_,_,_,_=>rfl
 |a::w,hw,e,f,he,hf=>by have gz:=uH h hE hT (k:=k+1) (by omega);have G:=(zBQ _ gz hc).toMon;have hg:=zNb h hE hT hk (hw a (by simp)).1 (hw a (by simp)).2;simp only[Ug];rw[G.assoc he hf hg,zNc (by grind) he (G.cl hf hg)]
theorem csE(h1:k+1<=j)(h2:j<x.zA.length):V (suf x (k+1)) ((lcj x k j).drop (k+1))/\(lvl (exx D x m T) k).cs.getD (j-(k+1)) []=adK m.Prime D (x.zA.length-(k+1)) ((lcj x k j).drop (k+1)++zeros D) (T.getD (base x.zA.length k+(j-(k+1))) [])/\
  fo (exx D x m T) (k+1) (zeros ((exx D x m T).zA.length-(k+1))) (nw 0 (lcj x k j))=(lcj x k j).drop (k+1)++zeros D/\(∀a∈nw 0 (lcj x k j),k+1<=a/\a<x.zA.length):=by
 have gy:V (suf x (k+1)) ((lcj x k j).drop (k+1)):=by grind[jC,uE]
 have cU:=tA h (uE h (show k<j by omega) h2) hk;refine⟨gy,?_,?_,cU.2⟩
 ·rw[zHZ h hE hT hk h1 h2,show(lvl x k).cs.getD (j-(k+1)) []=(lcj x k j).drop (k+1)from map_drop,jN h hE hT (by omega) gy,uA (zD4 h hE hT (by omega) h2)]
 ·rw[cU.1];exact zIh h hE hT _ (k+1) (by omega:k+1+(x.zA.length-(k+1))=x.zA.length) hc _ gy
theorem wE:V (suf x (k+1)) ((x.zQ.getD k []).drop (k+1))/\(lvl (exx D x m T) k).w=adK m.Prime D (x.zA.length-(k+1)) ((x.zQ.getD k []).drop (k+1)++zeros D) (T.getD k [])/\
  fo (exx D x m T) (k+1) (zeros ((exx D x m T).zA.length-(k+1))) (nw 0 (x.zQ.getD k []))=(x.zQ.getD k []).drop (k+1)++zeros D/\(∀a∈nw 0 (x.zQ.getD k []),k+1<=a/\a<x.zA.length):=by
 have cr:V (suf x (k+1)) ((x.zQ.getD k []).drop (k+1)):=jC (sS h hk) hk;have m6:=tA h (sS h hk) hk;refine⟨cr,?_,?_,m6.2⟩
 ·rw[zHW h hE hT hk,jN h hE hT (by omega) cr,uA (zBG h hE hT hk)];rfl
 ·rw[m6.1];exact zIh h hE hT _ (k+1) (by omega:k+1+(x.zA.length-(k+1))=x.zA.length) hc _ cr
 omit hc in
theorem zKY(ha:a<x.zA.length):wM m.Prime D m.zM [a] (idM D)=m.zM.getD a []:=by have _:=h;have _:=hT;have _:=hk;show PM m.Prime D (idM D) (m.zM.getD a [])=_;exact zCX (hE.m.mat a ha)
theorem zVx(hL:LC x k){y1 y2:Vec}(k1:tT x k (nw 0 (x.zQ.getD k [])++[k]) t1 y1)(k2:tT x k (k::nw 0 (x.zQ.getD k [])) t2 y2):
  y1=y2/\(tv m.Prime D m T ((k,[k])::t1)=tv m.Prime D m T ((k,[])::t2)↔sig (suf (exx D x m T) (k+1)) (lvl (exx D x m T) k) (lvl (exx D x m T) k).w=(lvl (exx D x m T) k).w):=by
 have hp:=hE.m.p.pos;have ho:=(h.os.2 k hk).pos;obtain⟨w1,w2,w3,w4⟩:=wE h hE hT hk hc;have eF:=zBG h hE hT hk;have pW:=zDn h hE hT (k:=k+1) (by omega) w1 (yX (p:=m.Prime) (D:=D));have fS:=zSp h hE hT hk;have v1:=zEa h hE hT hk hc w4 (z:=[]);rw[w3]at v1;have v2:=zEa h hE hT hk hc (v:=[]) (by simp) (z:=nw 0 (x.zQ.getD k []));have hz:fo (exx D x m T) (k+1) (zeros ((exx D x m T).zA.length-(k+1))) []=zeros ((exx D x m T).zA.length-(k+1)):=rfl;have hs:sig (suf (exx D x m T) (k+1)) (lvl (exx D x m T) k) (zeros ((exx D x m T).zA.length-(k+1)))=zeros ((exx D x m T).zA.length-(k+1)):=by grind[sig,tN,yC]
 rw[hz,hs,zIi h hE hT hk hc (by omega) _ _ w4,w3]at v2;have e1:adK m.Prime D (x.zA.length-(k+1)) (sig (suf (exx D x m T) (k+1)) (lvl (exx D x m T) k) ((x.zQ.getD k []).drop (k+1)++zeros D)) (xL m.Prime D (T.getD k []) (wM m.Prime D m.zM [k] (idM D)))=sig (suf (exx D x m T) (k+1)) (lvl (exx D x m T) k) (lvl (exx D x m T) k).w:=by grind[zKY,zId]
 have e2:adK m.Prime D (x.zA.length-(k+1)) ((x.zQ.getD k []).drop (k+1)++zeros D) (xL m.Prime D (T.getD k []) (wM m.Prime D m.zM [] (idM D)))=(lvl (exx D x m T) k).w:=by rw[show wM m.Prime D m.zM [] (idM D)=idM D from rfl,sZ eF,w2]
 obtain⟨hy,this⟩:=zGL h hE hT hk hc k1 k2 (r1:=k) (r2:=k) (s1:=[k]) (s2:=[]) (zAx h hE hT hk pW) pW v1 v2 (by rw[e1,e2,zDY h hE hT hk fS,zHW h hE hT hk,Js (by have:=vB h (by omega) w1;exact this)];exact hL.c3)
 refine⟨hy,?_⟩
 grind
end
end Go.Pl
