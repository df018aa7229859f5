/- The program's ComplementsOf returns what the reference's returns,for all arguments;no conditions. -/
import Derived.Test.YtfaocpkdikjohaaGreatPlA
open List renaming replicate→J1,getD_eq_getElem?_getD→J2,getElem?_eq_getElem→J3,length_append→J6,getElem?_append_right→J8,append_nil→J9,append_assoc→Jc,take_of_length_le→Je,mem_map→Jg,length_cons→Jh,map_cons→Jk,length_map→Jl,replicate_append_replicate→Jm,getElem?_eq_none→Jn,getElem?_append_left→Jo,nil_append→Jp,range→Jq,take_succ_eq_append_getElem→Jr,length_take→Jt,getElem?_map→Ju,eq_nil_of_length_eq_zero→Jw,take_zero→Jx,length_replicate→Jy,take_left'→K7,length_drop→K8,getElem_mem→K9,take_succ_cons→Kd,cons_append→Kh,getElem?_replicate→Ki,replicate_succ→Kj,take_length→Kl,getElem?_drop→Ko,mem_iff_getElem→Ks,range_succ→Kv,drop_append_of_le_length→L4,flatMap_append→L8,length_range→L9,ext_getElem?→La,mem_range→Lb,mem_append→Lf,map_append→Lg,drop_replicate→Li,map_nil→Lr,flatMap_cons→Ls,drop_eq_getElem_cons→Lt,length_nil→Lu,drop_left'→Ly,flatten_cons→H4,getElem?_take→H5,getD_cons_zero→H9,set_append_right→Hf,replicate_zero→Hp,drop_zero→Hx,length_singleton→G6,flatMap_nil→Ga,range_zero→Gj,mem_of_mem_take→Gl,foldl_nil→Gy,flatten_nil→U8,drop_of_length_le→Ub,mem_flatMap→Uf,getElem?_range→Ug,getElem?_cons_succ→Uw,map_congr_left→Q7,getElem?_set_ne→Qx,mem_append_left→Jae,range_succ_eq_map→Jal,mem_flatten→Jaz,map_map→Jb0,cons→Jb7,drop_append→Jbv,drop_length→Jcu,length→Jcw
open Int renaming toNat_natCast→J7,mul_emod→Jz,emod_eq_of_lt→K6,emod_emod→Kb,add_emod→Km,zero_add→Ku,emod_lt_of_pos→Kx,add_mul_emod_self_left→Ky,natCast_mul→Ld,tmod_eq_emod_of_nonneg→Lj,emod_nonneg→Lm,natCast_add→H1,mul_le_mul→H2,toNat_of_nonneg→H6,mul_assoc→H8,mul_one→Hc,mul_comm→Hq,mul_zero→G4,zero_mul→G8,mul_nonneg→U0,add_zero→U7,add_emod_right→U9,one_mul→Q9,sub_mul→Qn,add_mul→Qo,add_assoc→Qp,sub_zero→Jca,mul_sub→Jcd
open Nat renaming zero_add→Jd,lt_or_ge→Jf,le_refl→Ji,zero_le→K4,succ_mul→Kf,sub_self→Kk,mul_le_mul→Kn,mul_le_mul_right→L5,min_eq_left→Lp,add_sub_cancel_left→Lq,add_assoc→Lv,sub_zero→Hb,min_eq_right→Hj,le_mul_of_pos_right→G5,add_zero→G7,zero_mul→U5,lt_trichotomy→U6,eq_zero_or_pos→Up,add_mul→Ux,mul_comm→Qb,mul_succ→Ja0,div_add_mod→Jar,lt_of_not_le→Jb4,zero_min→Jc7,add_comm→Jc9
open Bool renaming not_true→Jj,not_false→Js
open Option renaming some→Lw,map_some→Hs
open Prod renaming mk→Un
namespace Go.Pl
open Go Go.Ab Go.Wk Go.Pc
theorem Red.empty{p:Int}{n:Nat}:Red p n [] (fun _=>0):=⟨fun _ h=>by simp at h,fun _ h=>by simp at h,fun _ h=>by simp at h,fun _ h=>by simp at h,fun _ _ h=>by simp at h,fun _ _ _ h=>by simp at h⟩
theorem zOC.take{p:Int}{n m:Nat}{rows:Mx}{c:Nat}{M:Mx}{d:Nat}{pv:Nat→Nat}(h:zOC p n m rows c M d pv)(hcn:c≤n)(hz:∀k,d≤k→k<m→ ∀j,j<n→ent M k j=0):Red p n (M.take d) pv∧sV p n (M.take d) rows:=by
 have hl:(M.take d).length=d:=by rw[Jt,h.len];exact Lp h.dm
 have hg:∀i,i<d→(M.take d).getD i []=M.getD i []:=fun i hi=>by simp only[J2,H5,if_pos hi]
 have dm:=h.dm;refine⟨⟨fun i hi=>?_,fun i hi=>?_,fun i hi=>?_,fun i hi j hj=>?_,fun i k hi hk hne=>?_,fun i j hij hj=>?_⟩,sV.trans ⟨fun i hi=>?_,fun i hi=>?_⟩ h.sp⟩
 ·rw[hl]at hi;rw[hg i hi];exact h.row i (by omega)
 ·rw[hl]at hi;have:=h.lt i hi;omega
 ·rw[hl]at hi;simp only[ent,hg i hi];exact h.one i hi
 ·rw[hl]at hi;simp only[ent,hg i hi];exact h.low i hi j hj
 ·rw[hl]at hi hk;simp only[ent,hg k hk];exact h.off i k hi (by omega) hne
 ·rw[hl]at hj;exact h.mono i j hij hj
 ·rw[hl]at hi;rw[hg i hi];exact tQ (by rw[h.len];omega)
 ·rw[h.len]at hi
  rcases Jf i d with g|g
  ·have:=tQ (p:=p) (n:=n) (R:=M.take d) (i:=i) (by rw[hl];exact g)
   rw[hg i g]at this;exact this
  ·exact zAs fun j hj=>by have:=hz i g hi j hj;simp only[ent]at this;rw[this];rfl
section
variable {p:Int} (hp:Prime p) {n:Nat}{rows:Mx} (hn:n≤100000) (hm:rows.length≤600000) (hr:∀i,i<rows.length→Row p n (rows.getD i []))
 include hp hn hm hr
theorem zK6:∃R pv,f_g p rows=some R∧Red p n R pv∧sV p n R rows:=by
 have h7:=hp.pos;unfold f_g;rw[zHt (by omega) (fun i hi=>by have:=(hr i hi).1;omega),bs];have main:=vT (body:=zMB p) (s:=(rows,0,0)) (Q:=fun r=> ∃(M:Mx)(d:Nat)(pv:Nat→Nat),r=(M,(d:Int))∧d≤M.length∧Red p n (M.take d) pv∧sV p n (M.take d) rows)
  (fun i s=> ∃(M:Mx)(d:Nat)(pv:Nat→Nat),s=(M,(d:Int),(i:Int))∧zOC p n rows.length rows i M d pv∧i≤n) n (fun c s hc hI=>?_) (fun s hI=>?_) ⟨rows,0,fun _=>0,rfl,⟨rfl,hr,K4 _,fun _ h=>by omega,fun _ h=>by omega,fun _ h=>by omega,fun _ _ h=>by omega,fun _ _ _ h=>by omega,fun _ _ _ _ h=>by omega,sV.refl⟩,K4 _⟩
 ·obtain⟨r,h1,M,d,pv,rfl,hd,hR,hS⟩:=main
  rw[h1,bs];simp only
  have e:zQ M 0 (d:Int)=some (M.take d):=by unfold zQ;rw[if_pos ⟨by omega,by omega,by omega⟩];simp
  rw[e,bs];exact⟨_,_,rfl,hR,hS⟩
 ·
  obtain⟨M,d,pv,rfl,h,hcn⟩:=hI;have hl:=h.len;have hdm:=h.dm
  by_cases h0:rows.length=0
  ·refine .inr ⟨(M,(d:Int)),?_,M,d,pv,rfl,by omega,h.take hcn fun k hk hk2=>by omega⟩
   unfold zMB;simp only
   rw[decide_eq_false (by omega),zE]
  have e0:zMB p (M,(d:Int),(c:Int))=cond (decide ((d:Int)<(M.length:Int))) ((zF (zHv (M,(d:Int),(c:Int))) (d:Int)).bind fun r6=>
    cond (r6==(M.length:Int)) ((rng ((c:Int)+1)).bind fun v7=>some (.inl (M,(d:Int),v7))) (
     (ixO M r6).bind fun v8=>(ixO M (d:Int)).bind fun v9=>(ixO (qI M (d:Int) r6 v8 v9) (d:Int)).bind fun v10=>(ixO v10 (c:Int)).bind fun v11=>(f_U v11 p).bind fun r12=>
     (ixO (qI M (d:Int) r6 v8 v9) (d:Int)).bind fun v13=>(zF (zLd p (M,(d:Int),(c:Int)) r12 v13) (qI M (d:Int) r6 v8 v9,0)).bind fun r21=>
     (zF (zMA p (M,(d:Int),(c:Int)) r21) (r21,0)).bind fun r30=>(rng ((d:Int)+1)).bind fun v31=>(rng ((c:Int)+1)).bind fun v32=>some (.inl (r30,v31,v32)))) (some (.inr (M,(d:Int)))):=by
   unfold zMB;simp only
   have hx:ixO M (0:Int)=some (M.getD 0 []):=by have:=yC (v:=M) (i:=0) [] (by omega);exact this
   rw[decide_eq_true (by omega),zH,hx];simp only[bs];rw[(h.row 0 (by omega)).1,yI hc,zH]
  rcases Jf d rows.length with hd|hd
  ·obtain⟨t,t1,t2,t3,t4,t5⟩:=zOD (M:=M) (d:=d) (c:=c) (m:=rows.length) (n:=n) hl hdm (by omega) (fun i hi=>(h.row i hi).1) hc
   rw[e0,hl,yI hd,zH,t3];simp only[bs]
   by_cases htm:t=rows.length
   ·
    left;refine⟨(M,(d:Int),((c+1:Nat):Int)),?_,M,d,pv,rfl,⟨hl,h.row,hdm,fun i hi=>by have:=h.lt i hi;omega,h.one,h.low,h.off,h.mono,fun k k1 k2 j hj=>?_,h.sp⟩,by omega⟩
    ·rw[zK4 (by omega),zH,zD (by omega) (by omega),bs,cs]
    ·rcases Jf j c with g|g
     ·exact h.zero k k1 k2 j g
     ·rw[show j=c from by omega];exact t4 k k1 (by omega)
   ·have htl:t<rows.length:=by omega
    have hne:=t5 htl;have hrt:=h.row t htl;have hrc:=hrt.2 c hc;obtain⟨q,q1,q2,q3,q4⟩:=zDV (p:=p) (x:=ent M t c) hp (by simp only[ent]at hne ⊢;omega) (by simp only[ent];omega);left;have hM:M=mkR rows.length (fun i=>M.getD i []):=zWf hl;obtain⟨F,hF⟩:∃F:Nat→List Int,∀i,F i=if i=t then M.getD d []else if i=d then M.getD t []else M.getD i []:=⟨_,fun _=>rfl⟩
    have hsw:qI M (d:Int) (t:Int) (M.getD t []) (M.getD d [])=mkR rows.length F:=by
     unfold qI;rw[J7,J7]
     conv=>lhs;rw[hM]
     rw[zF4,zF4];exact tW fun i hi=>by rw[hF,qZ hd,qZ htl]
    have hrow2:∀i,i<rows.length→Row p n (F i):=fun i hi=>by
     rw[hF];split
     ·exact h.row d hd
     ·split
      ·exact hrt
      ·exact h.row i hi
    have hFd:F d=M.getD t []:=by
     rw[hF]
     by_cases e:d=t
     ·rw[if_pos e,e]
     ·rw[if_neg e,if_pos rfl]
    obtain⟨G,hG⟩:∃G:Nat→List Int,∀i,G i=if i=d then mkv n fun j=>(at0 (F d) j*q)%p else F i:=⟨_,fun _=>rfl⟩
    have hGd:G d=mkv n fun j=>(ent M t j*q)%p:=by rw[hG,if_pos rfl,hFd]
    have hGo:∀i,i≠d→G i=if i=t then M.getD d []else M.getD i []:=fun i hid=>by rw[hG,if_neg hid,hF];simp only[hid,if_false]
    have hsc:zF (zLd p (M,(d:Int),(c:Int)) (q,true) (M.getD t [])) (mkR rows.length F,0)=some (mkR rows.length G):=by
     rw[zLV hp (F:=F) hd (hrow2 d hd) (by omega) ⟨q2,q3⟩ hrt.1 rfl]
     congr 1
     exact tW fun i _=>(hG i).symm
    have hF3:∀i,i<rows.length→Row p n (G i):=fun i hi=>by
     rw[hG];split
     ·refine⟨zZ _ _,fun j hj=>?_⟩
      have e1:=Lm (at0 (F d) j*q) (show p≠0 by omega);have e2:=Kx (at0 (F d) j*q) (show 0<p by omega);rw[yB hj];omega
     ·exact hrow2 i hi
    have hcl:=zLW hp (c:=c) (F:=G) hd hc hF3 (by omega) (by omega) (r21:=mkR rows.length G) tG (s:=(M,(d:Int),(c:Int))) rfl rfl;rw[zK5 (by omega),zE,yC [] (by omega),yC [] (by omega)];simp only[bs];rw[hsw,zJc hd,hFd];simp only[bs];rw[yE (by rw[hrt.1];exact hc)];simp only[bs];rw[show at0 (M.getD t []) c=ent M t c from rfl,q1];simp only[bs];rw[hsc];simp only[bs];rw[hcl];simp only[bs];rw[zD (by omega) (by omega),zD (by omega) (by omega)];simp only[bs,cs];have hfin:=h.pivot hp hc hd t1 htl hne q4;refine⟨_,rfl,_,d+1,fun i=>if i=d then c else pv i,rfl,?_,by omega⟩;have e3:(mkR rows.length fun i=>if i=d then G d else xK p n (G i) (0-at0 (G i) c) (G d))=(mkR rows.length fun i=>if i=d then mkv n fun j=>(ent M t j*q)%p else xK p n (if i=t then M.getD d []else M.getD i []) (0-at0 (if i=t then M.getD d []else M.getD i []) c) (mkv n fun j=>(ent M t j*q)%p)):=by
     refine tW fun i hi=>?_
     rw[hGd]
     by_cases hid:i=d
     ·rw[if_pos hid,if_pos hid]
     ·rw[if_neg hid,if_neg hid,hGo i hid]
    rw[e3];exact hfin
  ·
   refine .inr ⟨(M,(d:Int)),?_,M,d,pv,rfl,by omega,h.take hcn fun k hk hk2=>by omega⟩;rw[e0,decide_eq_false (by omega),zE]
 ·
  obtain⟨M,d,pv,rfl,h,hcn⟩:=hI;have hl:=h.len;have hdm:=h.dm;refine⟨(M,(d:Int)),?_,M,d,pv,rfl,by omega,h.take hcn fun k hk hk2 j hj=>h.zero k hk hk2 j hj⟩;unfold zMB;simp only
  by_cases h0:rows.length=0
  ·rw[decide_eq_false (by omega),zE]
  ·have hx:ixO M (0:Int)=some (M.getD 0 []):=by
    have:=yC (v:=M) (i:=0) [] (by omega);exact this
   rw[decide_eq_true (by omega),zH,hx];simp only[bs];rw[(h.row 0 (by omega)).1,yS,zE]
end
end Go.Pl

namespace Go.Pl
open Go Go.Ab Go.Wk Go.Pc
theorem zIc{v:List Int}{n:Nat}(hl:v.length=n)(hn:n≤1000000):∃k:Nat,k≤n∧f_C v=some (k:Int)∧(∀j,j<k→at0 v j=0)∧(k<n→at0 v k≠0):=by
 unfold f_C;rcases chk (body:=zHw v) n 0 (K4 _) (fun i=>at0 v i=0) (fun i=>(i:Int)) (fun i _ hi _=>by
   unfold zHw;rw[hl,yI hi,zH,yE (by omega),bs]
   by_cases h:at0 v i=0
   ·rw[jK h,zE,zD (by omega) (by omega),bs,cs];exact .inl ⟨rfl,h⟩
   ·rw[qC h,zH];exact .inr ⟨rfl,h⟩) (by
   unfold zHw;rw[hl,yS,zE])with⟨h1,h2⟩|⟨i,_,hi,h1,h2⟩
 ·rw[show((0:Nat):Int)=0 from rfl]at h1
  rw[h1,bs];exact⟨n,Ji _,by simp only[hl],fun j hj=>h2 j (K4 _) hj,fun h=>by omega⟩
 ·rw[show((0:Nat):Int)=0 from rfl]at h1
  rw[h1,bs];obtain⟨k,⟨hk1,hk2⟩,hmin⟩:=zAD (p:=fun k=>k<n∧at0 v k≠0) ⟨i,hi,h2⟩;have hz:∀j,j<k→at0 v j=0:=fun j hj=>Classical.byContradiction fun h=>hmin j hj ⟨by omega,h⟩
  have hki:k=i:=by
   have hloop:∀q,q≤k→zF (zHw v) ((k-q:Nat):Int)=some (.inr (k:Int)):=by
    intro q
    induction q with
    |zero=>
     intro _;rw[yL];have e:zHw v ((k-0:Nat):Int)=some (.inr (.inr (k:Int))):=by unfold zHw;rw[show k-0=k from rfl,hl,yI hk1,zH,yE (by omega),bs,qC hk2,zH]
     rw[e]
    |succ q ih=>
     intro hq;rw[yL];have e:zHw v ((k-(q+1):Nat):Int)=some (.inl ((k-q:Nat):Int)):=by unfold zHw;rw[hl,yI (by omega),zH,yE (by omega),bs,jK (hz _ (by omega)),zE,zD (by omega) (by omega),bs,cs,show k-(q+1)+1=k-q from by omega]
     rw[e];exact ih (by omega)
   have:=hloop k (Ji _);rw[Kk,show((0:Nat):Int)=0 from rfl,h1]at this;have:=Sum.inr.inj (Lw.inj this);omega
  exact⟨i,by omega,rfl,by rw[←hki];exact hz,fun _=>h2⟩
theorem zF5{v:List Int}{n k:Nat}(hl:v.length=n)(hn:n≤1000000)(hk:k<n)(h0:∀j,j<k→at0 v j=0)(h1:at0 v k≠0):f_C v=some (k:Int):=by
 obtain⟨q,q1,q2,q3,q4⟩:=zIc hl hn;have:q=k:=by
  rcases U6 q k with g|g|g
  ·exact absurd (h0 q g) (q4 (by omega))
  ·exact g
  ·exact absurd (q3 k g) h1
 rw[q2,this]
theorem zQW{p x:Int}(hp:Prime p)(h0:1≤x)(h1:x≤p-1):∃r,zUt x p=some r∧0≤r∧r≤p-1∧(x*r)%p=1:=by
 have h7:=hp.pos;have hx:∃k:Nat,1≤k∧(k:Int)<p∧(x*(k:Int))%p=1:=by
  obtain⟨r,_,r1,r2,r3⟩:=zDV hp h0 h1;refine⟨r.toNat,?_,by omega,by rw[H6 r1];exact r3⟩;rcases Int.lt_or_eq_of_le r1 with g|g
  ·omega
  ·rw[←g]at r3;simp at r3
 obtain⟨k,⟨k1,k2,k3⟩,hmin⟩:=zAD hx;have body:∀i:Nat,1≤i→(i:Int)<p→zLf x p (i:Int)=cond ((x*(i:Int))%p==1) (some (.inr (.inr (i:Int)))) (some (.inl ((i+1:Nat):Int))):=fun i hi hip=>by
  have a3:=U0 (show 0≤x by omega) (show 0≤(i:Int)by omega);have a4:=zBt hp (k:=(i:Int)) ⟨by omega,by omega⟩ (b:=x) ⟨by omega,h1⟩;rw[Hq]at a4;unfold zLf;rw[decide_eq_true hip,zH,zK3 hp (by omega) (by omega),bs,K6 (by omega) (by omega),zD (by omega) (by omega),bs];unfold vF;rw[if_neg (by omega),bs,Lj a3]
  by_cases hh:(x*(i:Int))%p=1
  ·rw[zK4 hh,zH,zH]
  ·rw[zK5 hh,zE,zE,zD (by omega) (by omega),bs,cs]
 have hloop:∀q,q+1≤k→zF (zLf x p) ((k-q:Nat):Int)=some (.inr (k:Int)):=by
  intro q
  induction q with
  |zero=>
   intro _;rw[yL,show k-0=k from rfl,body k k1 k2,zK4 k3,zH]
  |succ q ih=>
   intro hq;have hne:(x*((k-(q+1):Nat):Int))%p≠1:=fun h=>hmin (k-(q+1)) (by omega) ⟨by omega,by omega,h⟩
   rw[yL,body _ (by omega) (by omega),zK5 hne,zE,show k-(q+1)+1=k-q from by omega];exact ih (by omega)
 have:=hloop (k-1) (by omega);rw[show k-(k-1)=1 from by omega,show((1:Nat):Int)=1 from rfl]at this;refine⟨(k:Int),?_,by omega,by omega,k3⟩;unfold zUt;rw[this,bs]
section
variable {p:Int} (hp:Prime p) {n:Nat} (hn:n≤100000)
 include hp hn
theorem zWg{r s:List Int}(hr:Row p n r):xK p n r p s=r:=by
 have _:=hp;have _:=hn
 conv=>rhs;rw[wY hr.1]
 refine zW fun j hj=>?_
 have:=hr.2 j hj;rw[Ky];exact K6 this.1 (by omega)
def cl(p:Int)(n:Nat)(out:Mx)(pv:Nat→Nat)(v:List Int):Nat→List Int
 |0=>v
 |i+1=>xK p n (cl p n out pv v i) (p-at0 (cl p n out pv v i) (pv i)) (out.getD i [])
variable {out:Mx}{pv:Nat→Nat} (h:Red p n out pv) {v:List Int} (hv:Row p n v)
 include h hv
theorem zBv:∀i,Row p n (cl p n out pv v i):=by
 have _:=hn;have _:=h;intro i;cases i with
 |zero=>exact hv
 |succ i=>exact tP hp
theorem zLX:∀i,i≤out.length→ ∀k,k<i→at0 (cl p n out pv v i) (pv k)=0:=by
 have _:=hn;have _:=hv;have h7:=hp.pos;intro i
 induction i with
 |zero=>intro _ k hk;omega
 |succ i ih=>
  intro hi k hk;have hlt:=h.lt k (by omega);rw[cl,xK,yB hlt];rcases Jf k i with g|g
  ·have h1:=ih (by omega) k g
   have h2:=h.off k i (by omega) (by omega) (by omega);simp only[ent]at h2;rw[h1,h2];simp
  ·have hki:k=i:=by omega
   subst hki;have h2:=h.one k (by omega);simp only[ent]at h2;rw[h2,Hc,show at0 (cl p n out pv v k) (pv k)+(p-at0 (cl p n out pv v k) (pv k))=p from by omega,Int.emod_self]
theorem zNN:∀i,i≤out.length→ ∃cf:Nat→Int,∀j,j<n→at0 (cl p n out pv v i) j%p=(at0 v j+S out.length fun k=>cf k*ent out k j)%p:=by
 have _:=hp;have _:=h;have _:=hv;have _:=hn;intro i
 induction i with
 |zero=>intro _;exact⟨fun _=>0,fun j _=>by rw[wC (g:=fun _=>0) (fun i _=>by simp),qS,U7];rfl⟩
 |succ i ih=>
  intro hi;obtain⟨cf,hcf⟩:=ih (by omega);refine⟨fun k=>cf k+(if k=i then p-at0 (cl p n out pv v i) (pv i)else 0),fun j hj=>?_⟩;have e1:(S out.length fun k=>(cf k+(if k=i then p-at0 (cl p n out pv v i) (pv i)else 0))*ent out k j)=(S out.length fun k=>cf k*ent out k j)+(p-at0 (cl p n out pv v i) (pv i))*ent out i j:=by rw[wC (g:=fun k=>cf k*ent out k j+(if k=i then p-at0 (cl p n out pv v i) (pv i)else 0)*ent out k j) (fun k _=>by rw[Qo]),zKr,zAS (f:=fun k=>(if k=i then p-at0 (cl p n out pv v i) (pv i)else 0)*ent out k j) (k:=i) (by omega) (fun k _ hk=>by simp[hk])];simp
  rw[e1,cl,xK,yB hj,Kb,←Qp,Km,hcf j hj,←Km]
theorem zDu(hm:out.length≤100000):zPa p out v=some (cl p n out pv v out.length):=by
 have h7:=hp.pos;unfold zPa;rw[tN (by rw[hv.1];omega),bs];have:=zN (body:=zLe p out) (r:=cl p n out pv v out.length) (fun i=>(cl p n out pv v i,(i:Int))) out.length (fun i hi=>by
  have hr:=zBv hp hn h hv i;have ho:=h.row i hi;have hlt:=h.lt i hi;have hone:=h.one i hi;have hlow:=h.low i hi;simp only[ent]at hone hlow;have he:=hr.2 (pv i) hlt;unfold zLe;simp only
  rw[yI hi,zH,yC [] hi,bs,zF5 ho.1 (by omega) hlt hlow (by rw[hone];decide),bs,hr.1,yI hlt,zH,yE (by rw[hr.1];exact hlt),bs]
  by_cases hz:at0 (cl p n out pv v i) (pv i)=0
  ·rw[jK hz,zE,zD (by omega) (by omega),bs,cs,cl,hz,Jca,zWg hp hn hr]
  ·rw[qC hz,zH,bs,zD (by omega) (by omega),bs,bs,wZ hp hr ho ⟨by omega,by omega⟩ (by omega),bs,zD (by omega) (by omega),bs,cs]
   rfl) (by
  unfold zLe;simp only
  rw[yS,zE])
 rw[show((0:Nat):Int)=0 from rfl]at this;simp only[cl]at this;rw[this,bs]
end
end Go.Pl

namespace Go.Pl
open Go Go.Ab Go.Wk Go.Pc
section
variable {p:Int} (hp:Prime p) {n:Nat}{out:Mx}{pv:Nat→Nat} (h:Red p n out pv) {u:List Int}{k q:Nat} (hu:Row p n u) (hk:k<n) (u1:at0 u k=1) (ul:∀j,j<k→at0 u j=0) (up:∀i,i<out.length→at0 u (pv i)=0) (hq:q≤out.length) (q1:∀i,i<q→pv i<k) (q2:∀i,q≤i→i<out.length→k<pv i)
def oth(p:Int)(n:Nat)(out:Mx)(u:List Int)(k i:Nat):List Int:=xK p n (out.getD i []) (p-at0 (out.getD i []) k) u
def tJ(p:Int)(n:Nat)(out:Mx)(u:List Int)(k q i:Nat):List Int:=if i<q then oth p n out u k i else if i=q then u else oth p n out u k (i-1)
def zTC(pv:Nat→Nat)(k q i:Nat):Nat:=if i<q then pv i else if i=q then k else pv (i-1)
 include hp h hu hk u1 ul up hq q1 q2
theorem zLY{i j:Nat}(hj:j<n):at0 (oth p n out u k i) j=(at0 (out.getD i []) j-at0 (out.getD i []) k*at0 u j)%p:=by have _:=hp;have _:=h;have _:=hu;have _:=hk;have _:=u1;have _:=ul;have _:=up;have _:=hq;have _:=q1;have _:=q2;rw[oth,xK,yB hj,show at0 (out.getD i []) j+(p-at0 (out.getD i []) k)*at0 u j=at0 (out.getD i []) j-at0 (out.getD i []) k*at0 u j+p*at0 u j from by rw[Qn];omega,Ky]
theorem zDW{i j:Nat}(hi:i<out.length)(hj:j<n)(hz:at0 (out.getD i []) k=0∨at0 u j=0):at0 (oth p n out u k i) j=ent out i j:=by
 rw[zLY hp h hu hk u1 ul up hq q1 q2 hj];have:=(h.row i hi).2 j hj;have e:at0 (out.getD i []) k*at0 u j=0:=by rcases hz with g|g<;>rw[g]<;>simp
 rw[e,Jca];exact K6 this.1 (by omega)
theorem zYg{i:Nat}:at0 (oth p n out u k i) k=0:=by rw[zLY hp h hu hk u1 ul up hq q1 q2 hk,u1,Hc,Int.sub_self];rfl
theorem zTD{i j:Nat}(hi:i<out.length)(hj:j<pv i)(hne:pv i≠k):at0 (oth p n out u k i) j=0:=by
 have hlt:=h.lt i hi;rcases Jf (pv i) k with g|g
 ·rw[zDW hp h hu hk u1 ul up hq q1 q2 hi (by omega) (.inr (ul j (by omega)))];exact h.low i hi j hj
 ·have:=h.low i hi k (by omega)
  rw[zDW hp h hu hk u1 ul up hq q1 q2 hi (by omega) (.inl this)];exact h.low i hi j hj
theorem zYh{i:Nat}(hi:i<out.length):pv i≠k:=by have _:=h;have _:=q1;have _:=q2;have _:=hp;have _:=hu;have _:=hk;have _:=ul;have _:=hq;intro e;have:=up i hi;rw[e,u1]at this;cases this
theorem zId{i:Nat}(hi:i<out.length+1):(i=q∧tJ p n out u k q i=u∧zTC pv k q i=k)∨ ∃a,a<out.length∧(i<q∧a=i∨q<i∧i=a+1)∧tJ p n out u k q i=oth p n out u k a∧zTC pv k q i=pv a:=by
 have _:=hp;have _:=h;have _:=hu;have _:=hk;have _:=u1;have _:=ul;have _:=up;have _:=q1;have _:=q2;unfold tJ zTC;rcases U6 i q with g|g|g
 ·exact .inr ⟨i,by omega,.inl ⟨g,rfl⟩,by rw[if_pos g],by rw[if_pos g]⟩
 ·exact .inl ⟨g,by rw[if_neg (by omega),if_pos g],by rw[if_neg (by omega),if_pos g]⟩
 ·exact .inr ⟨i-1,by omega,.inr ⟨g,by omega⟩,by rw[if_neg (by omega),if_neg (by omega)],by rw[if_neg (by omega),if_neg (by omega)]⟩
theorem zLZ:Red p n (mkR (out.length+1) (tJ p n out u k q)) (zTC pv k q):=by
 have nc:=fun i hi=>zId hp h hu hk u1 ul up hq q1 q2 (i:=i) hi
 have pn:=fun i hi=>zYh hp h hu hk u1 ul up hq q1 q2 (i:=i) hi
 refine⟨fun i hi=>?_,fun i hi=>?_,fun i hi=>?_,fun i hi j hj=>?_,fun i j hi hj hne=>?_,fun i j hij hj=>?_⟩<;>rw[tG]at*
 ·rw[qZ hi]
  rcases nc i hi with⟨_,e,_⟩|⟨a,_,_,e,_⟩<;>rw[e]
  ·exact hu
  ·exact tP hp
 ·rcases nc i hi with⟨_,_,e⟩|⟨a,ha,_,_,e⟩<;>rw[e]
  ·exact hk
  ·exact h.lt a ha
 ·rw[zDU hi]
  rcases nc i hi with⟨_,e1,e2⟩|⟨a,ha,_,e1,e2⟩<;>rw[e1,e2]
  ·exact u1
  ·rw[zDW hp h hu hk u1 ul up hq q1 q2 ha (h.lt a ha) (.inr (up a ha))];exact h.one a ha
 ·rw[zDU hi]
  rcases nc i hi with⟨_,e1,e2⟩|⟨a,ha,_,e1,e2⟩<;>rw[e2]at hj<;>rw[e1]
  ·exact ul j hj
  ·exact zTD hp h hu hk u1 ul up hq q1 q2 ha hj (pn a ha)
 ·rw[zDU hj]
  rcases nc i hi with⟨g1,_,e2⟩|⟨a,ha,ga,_,e2⟩<;>rw[e2]<;>rcases nc j hj with⟨g3,e3,_⟩|⟨b,hb,gb,e3,_⟩<;>rw[e3]
  ·omega
  ·exact zYg hp h hu hk u1 ul up hq q1 q2
  ·exact up a ha
  ·rw[zDW hp h hu hk u1 ul up hq q1 q2 hb (h.lt a ha) (.inr (up a ha))]
   exact h.off a b ha hb (by omega)
 ·rcases nc i (by omega)with⟨g1,_,e2⟩|⟨a,ha,ga,_,e2⟩<;>rw[e2]<;>rcases nc j hj with⟨g3,_,e4⟩|⟨b,hb,gb,_,e4⟩<;>rw[e4]
  ·omega
  ·exact q2 b (by omega) hb
  ·exact q1 a (by omega)
  ·exact h.mono a b (by omega) hb
theorem zOE:(∀i,i<out.length+1→Sp p n (out++[u]) (tJ p n out u k q i))∧(∀i,i<out.length→Sp p n (mkR (out.length+1) (tJ p n out u k q)) (out.getD i []))∧Sp p n (mkR (out.length+1) (tJ p n out u k q)) u:=by
 have hul:Sp p n (out++[u]) u:=by have:=tQ (p:=p) (n:=n) (R:=out++[u]) (i:=out.length) (by simp);simpa[J2]using this
 have hol:∀i,i<out.length→Sp p n (out++[u]) (out.getD i []):=fun i hi=>by have:=tQ (p:=p) (n:=n) (R:=out++[u]) (i:=i) (by simp;omega);simpa[J2,Jo hi]using this
 have hoth:∀i,i<out.length→Sp p n (out++[u]) (oth p n out u k i):=fun i hi=>
  qD (k:=p-at0 (out.getD i []) k) (hol i hi) hul fun j hj=>by rw[oth,xK,yB hj,Kb]
 have hsu:Sp p n (mkR (out.length+1) (tJ p n out u k q)) u:=by have:=zBu (p:=p) (n:=n) (m:=out.length+1) (F:=tJ p n out u k q) (i:=q) (by omega);rw[show tJ p n out u k q q=u from by unfold tJ;rw[if_neg (by omega),if_pos rfl]]at this;exact this
 refine⟨fun i hi=>?_,fun i hi=>?_,hsu⟩
 ·rcases zId hp h hu hk u1 ul up hq q1 q2 hi with⟨_,e,_⟩|⟨a,ha,_,e,_⟩<;>rw[e]
  ·exact hul
  ·exact hoth a ha
 ·have hi2:∃b,b<out.length+1∧tJ p n out u k q b=oth p n out u k i:=by
   rcases Jf i q with g|g
   ·exact⟨i,by omega,by unfold tJ;rw[if_pos g]⟩
   ·exact⟨i+1,by omega,by unfold tJ;rw[if_neg (by omega),if_neg (by omega)];rfl⟩
  obtain⟨b,hb,e⟩:=hi2;have h1:=zBu (p:=p) (n:=n) (m:=out.length+1) (F:=tJ p n out u k q) hb;rw[e]at h1;refine qD (k:=at0 (out.getD i []) k) h1 hsu fun j hj=>?_
  rw[zLY hp h hu hk u1 ul up hq q1 q2 hj,Km,Kb,←Km,show at0 (out.getD i []) j-at0 (out.getD i []) k*at0 u j+at0 (out.getD i []) k*at0 u j=at0 (out.getD i []) j from by omega]
theorem zK7(hn:n≤100000)(hm:out.length≤100000){x:Int}:
  ((zF (zHx p (out,x) (k:Int) u) ([],false,0)).bind fun r32=>cond (!r32.2) ((yZ r32.1 [u]).bind fun v33=>some v33) (some r32.1))=some (mkR (out.length+1) (tJ p n out u k q)):=by
 have _:=u1;have _:=ul;have _:=up;have h7:=hp.pos;have ho:∀i,i<out.length→f_n p (out.getD i []) (p-at0 (out.getD i []) k) u=some (oth p n out u k i)∧ixO (out.getD i []) (k:Int)=some (at0 (out.getD i []) k)∧0≤at0 (out.getD i []) k∧at0 (out.getD i []) k≤p-1∧f_C (out.getD i [])=some (pv i:Int):=fun i hi=>by have hr:=h.row i hi;have hk2:=hr.2 k hk;have hone:=h.one i hi;have hlow:=h.low i hi;simp only[ent]at hone hlow;exact⟨by rw[wZ hp hr hu ⟨by omega,by omega⟩ (by omega)];rfl,yE (by rw[hr.1];exact hk),hk2.1,hk2.2,zF5 hr.1 (by omega) (h.lt i hi) hlow (by rw[hone];decide)⟩
 have hsn:∀{m:Nat}{F:Nat→List Int},mkR m F++[F m]=mkR (m+1) F:=fun{m F}=>by simp[mkR,Kv]
 have:=zN (body:=zHx p (out,x) (k:Int) u) (r:=(if out.length≤q then(mkR out.length (tJ p n out u k q),false)else(mkR (out.length+1) (tJ p n out u k q),true)))
  (fun j=>if j≤q then(mkR j (tJ p n out u k q),false,(j:Int))else(mkR (j+1) (tJ p n out u k q),true,(j:Int))) out.length (fun j hj=>by
   obtain⟨a1,a2,a3,a4,a5⟩:=ho j hj;have hrg:rng (p-at0 (out.getD j []) k)=some (p-at0 (out.getD j []) k):=zD (by omega) (by omega);rcases U6 j q with g|g|g
   ·have hpj:=q1 j g
    rw[if_pos (by omega),if_pos (by omega)];unfold zHx;simp only
    rw[yI hj,zH,Js,zH,yC [] hj];simp only[bs,a5];rw[decide_eq_false (by omega),zE,a2];simp only[bs,hrg,a1];rw[yF (by rw[tG];simp;omega),bs,zD (by omega) (by omega),bs,cs];have:tJ p n out u k q j=oth p n out u k j:=by unfold tJ;rw[if_pos g]
    rw[←this,hsn]
   ·subst g
    have hpj:=q2 j (Ji _) hj;rw[if_pos (by omega),if_neg (by omega)];unfold zHx;simp only
    rw[yI hj,zH,Js,zH,yC [] hj];simp only[bs,a5];rw[decide_eq_true (by omega),zH,yF (by rw[tG];simp;omega),a2];simp only[bs,hrg,a1];have e1:tJ p n out u k j j=u:=by unfold tJ;rw[if_neg (by omega),if_pos rfl]
    have e2:tJ p n out u k j (j+1)=oth p n out u k j:=by unfold tJ;rw[if_neg (by omega),if_neg (by omega)];rfl
    have e3:mkR j (tJ p n out u k j)++[u]=mkR (j+1) (tJ p n out u k j):=by rw[←hsn,e1]
    rw[e3,yF (by rw[tG];simp;omega),bs,zD (by omega) (by omega),bs,cs,←e2,hsn]
   ·rw[if_neg (by omega),if_neg (by omega)]
    unfold zHx;simp only
    rw[yI hj,zH,Jj,zE,yC [] hj];simp only[bs,a2,hrg,a1];have e2:tJ p n out u k q (j+1)=oth p n out u k j:=by unfold tJ;rw[if_neg (by omega),if_neg (by omega)];rfl
    rw[yF (by rw[tG];simp;omega),bs,zD (by omega) (by omega),bs,cs,←e2,hsn]) (by
   by_cases g:out.length≤q
   ·rw[if_pos g,if_pos g]
    unfold zHx;simp only
    rw[yS,zE]
   ·rw[if_neg g,if_neg g]
    unfold zHx;simp only
    rw[yS,zE])
 rw[if_pos (K4 _),show((0:Nat):Int)=0 from rfl,show mkR 0 (tJ p n out u k q)=[]from rfl]at this;rw[this,bs]
 by_cases g:out.length≤q
 ·have e1:tJ p n out u k q out.length=u:=by unfold tJ;rw[if_neg (by omega),if_pos (by omega)]
  rw[if_pos g];simp only
  rw[Js,zH,yF (by rw[tG];simp;omega),bs]
  congr 1
  rw[←hsn,e1]
 ·rw[if_neg g]
  simp only
  rw[Jj,zE]
end
end Go.Pl

namespace Go.Pl
open Go Go.Ab Go.Wk Go.Pc
theorem zMa{p:Int}{n:Nat}{R out:Mx}{cf:Nat→Int}(ho:∀i,i<out.length→Sp p n R (out.getD i [])){u:List Int}(hu:∀j,j<n→at0 u j%p=(S out.length fun k=>cf k*ent out k j)%p):Sp p n R u:=
 jO ho ⟨cf,fun j hj=>(hu j hj).symm⟩
theorem Red.len_le{p:Int}{n:Nat}{R:Mx}{pv:Nat→Nat}(h:Red p n R pv):R.length≤n:=by
 have key:∀i,i<R.length→i≤pv i:=by
  intro i
  induction i with
  |zero=>intro _;omega
  |succ i ih=>
   intro hi;have h1:=ih (by omega);have h2:=h.mono i (i+1) (by omega) hi;omega
 rcases Up R.length with g|g
 ·omega
 ·have h1:=key (R.length-1) (by omega)
  have h2:=h.lt (R.length-1) (by omega);omega
theorem zC3{xs:Mx}{v:List Int}{i:Nat}(h:i<xs.length):(xs++[v]).getD i []=xs.getD i []:=by simp only[J2,Jo h]
theorem zC4{xs:Mx}{v:List Int}:(xs++[v]).getD xs.length []=v:=by simp[J2]
section
variable {p:Int} (hp:Prime p) {n:Nat} (hn:n≤100000)
 include hp hn
theorem zDv{w:List Int}(hw:Row p n w){r:Int}(h0:0≤r)(h1:r≤p-1):zPb p r w=some (mkv n fun j=>(at0 w j*r)%p):=by
 have h7:=hp.pos;unfold zPb;rw[hw.1,yO (by omega),bs,wZ hp (zEJ (by omega)) hw ⟨by omega,by omega⟩ (by omega),bs]
 congr 1
 refine zW fun j hj=>?_
 rw[show at0 (z0 n) j=0 from by simp[z0,at0,J2,hj],Ku,Hq]
variable {rows:Mx} (hm:rows.length≤600000) (hr:∀i,i<rows.length→Row p n (rows.getD i []))
 include hm hr
theorem zDX:∃R pv,f_o p rows=some R∧(Red p n R pv∧R.length≤rows.length)∧sV p n R rows:=by
 have h7:=hp.pos;unfold f_o;have main:=vT (body:=zPc p rows) (s:=([],0)) (Q:=fun R=> ∃pv,(Red p n R pv∧R.length≤rows.length)∧sV p n R rows)
  (fun i s=> ∃(out:Mx)(pv:Nat→Nat),s=(out,(i:Int))∧Red p n out pv∧sV p n out (rows.take i)∧out.length≤i∧i≤rows.length) rows.length (fun i s hi hI=>?_) (fun s hI=>?_) ⟨[],fun _=>0,rfl,Red.empty,by rw[Jx];exact sV.refl,K4 _,K4 _⟩
 ·obtain⟨R,h1,pv,h2,h3⟩:=main
  rw[h1,bs];exact⟨R,pv,rfl,h2,h3⟩
 ·obtain⟨out,pv,rfl,h,hs,hl,_⟩:=hI
  have hon:out.length≤n:=h.len_le;left;have hv:=hr i hi;have hw:=zBv hp hn h hv out.length;have hcl:=zDu hp hn h hv (by omega);have hpz:=zLX hp hn h hv out.length (Ji _);obtain⟨cf,hcf⟩:=zNN hp hn h hv out.length (Ji _);obtain⟨k,k1,k2,k3,k4⟩:=zIc hw.1 (by omega);have htk:rows.take (i+1)=rows.take i++[rows.getD i []]:=by rw[Jr hi,J2,J3 hi];rfl
  have hti:(rows.take i).length=i:=by rw[Jt];omega
  have hup:∀u,Sp p n (rows.take i) u→Sp p n (rows.take (i+1)) u:=fun u hu=>jO (fun a ha=>by have:=tQ (p:=p) (n:=n) (R:=rows.take (i+1)) (i:=a) (by rw[htk,J6];omega);rw[htk,zC3 ha,←htk]at this;exact this) hu
  have hvs:Sp p n (rows.take (i+1)) (rows.getD i []):=by
   have:=tQ (p:=p) (n:=n) (R:=rows.take (i+1)) (i:=i) (by rw[htk,J6,hti];simp);rw[htk]at this;have e:(rows.take i++[rows.getD i []]).getD i []=rows.getD i []:=by have:=zC4 (xs:=rows.take i) (v:=rows.getD i []);rw[hti]at this;exact this
   rw[e,←htk]at this;exact this
  by_cases hkn:k=n
  ·
   refine⟨(out,((i+1:Nat):Int)),?_,out,pv,rfl,h,⟨fun a ha=>hup _ (hs.1 a ha),fun a ha=>?_⟩,by omega,by omega⟩
   ·unfold zPc
    simp only
    rw[yI hi,zH,yC [] hi];simp only[bs,hcl,k2];rw[hw.1,zK4 (by omega),zH,zD (by omega) (by omega),bs,cs]
   ·rw[htk,J6,hti,G6]at ha
    rw[htk];rcases Jf a i with g|g
    ·rw[zC3 (by omega)];exact hs.2 a (by omega)
    ·have:a=i:=by omega
     subst this;have e:(rows.take a++[rows.getD a []]).getD a []=rows.getD a []:=by have:=zC4 (xs:=rows.take a) (v:=rows.getD a []);rw[hti]at this;exact this
     rw[e];refine zMa (out:=out) (cf:=fun q=> -1*cf q) (fun a ha=>tQ ha) fun j hj=>?_
     have h1:=hcf j hj;rw[k3 j (by omega)]at h1;rw[wC (g:=fun q=> -1*(cf q*ent out q j)) (fun q _=>by rw[H8]),zDs];have h2:(at0 (rows.getD a []) j+S out.length fun q=>cf q*ent out q j)%p=0:=by rw[←h1];rfl
     rw[show at0 (rows.getD a []) j=(at0 (rows.getD a []) j+S out.length fun q=>cf q*ent out q j)+ -1*(S out.length fun q=>cf q*ent out q j)from by omega,Km,h2,Ku,Kb]
  ·have hk:k<n:=by omega
   have hwk:=hw.2 k hk;have hne:=k4 hk;obtain⟨r,r1,r2,r3,r4⟩:=zQW hp (x:=at0 (cl p n out pv (rows.getD i []) out.length) k) (by omega) (by omega);have hsc:=zDv hp hn hw r2 r3;have hu:Row p n (mkv n fun j=>(at0 (cl p n out pv (rows.getD i []) out.length) j*r)%p):=⟨zZ _ _,fun j hj=>by have e1:=Lm (at0 (cl p n out pv (rows.getD i []) out.length) j*r) (show p≠0 by omega);have e2:=Kx (at0 (cl p n out pv (rows.getD i []) out.length) j*r) (show 0<p by omega);rw[yB hj];omega⟩
   have ua:∀j,j<n→at0 (mkv n fun j=>(at0 (cl p n out pv (rows.getD i []) out.length) j*r)%p) j=(at0 (cl p n out pv (rows.getD i []) out.length) j*r)%p:=fun j hj=>yB hj
   generalize mkv n (fun j=>(at0 (cl p n out pv (rows.getD i []) out.length) j*r)%p)=u at hsc hu ua
   have u1:at0 u k=1:=by rw[ua k hk];exact r4
   have ul:∀j,j<k→at0 u j=0:=fun j hj=>by rw[ua j (by omega),k3 j hj];simp
   have up:∀a,a<out.length→at0 u (pv a)=0:=fun a ha=>by rw[ua _ (h.lt a ha),hpz a ha];simp
   obtain⟨q,⟨hq,hq2⟩,hmin⟩:=zAD (p:=fun q=>q≤out.length∧(q<out.length→k<pv q)) ⟨out.length,Ji _,fun g=>by omega⟩;have q1:∀a,a<q→pv a<k:=fun a ha=>by
    have h1:¬(k<pv a):=fun g=>hmin a ha ⟨by omega,fun _=>g⟩
    have h2:pv a≠k:=fun e=>by have:=up a (by omega);rw[e,u1]at this;cases this
    omega
   have q2:∀a,q≤a→a<out.length→k<pv a:=fun a ha ha2=>by
    have h1:=hq2 (by omega);rcases Jf q a with g|g
    ·have:=h.mono q a g ha2;omega
    ·rw[show a=q from by omega];exact h1
   have hins:=zK7 hp h hu hk u1 ul up hq q1 q2 hn (by omega) (x:=(i:Int));have hred:=zLZ hp h hu hk u1 ul up hq q1 q2;obtain⟨s1,s2,s3⟩:=zOE hp h hu hk u1 ul up hq q1 q2;refine⟨(mkR (out.length+1) (tJ p n out u k q),((i+1:Nat):Int)),?_,_,_,rfl,hred,⟨fun a ha=>?_,fun a ha=>?_⟩,by rw[tG];omega,by omega⟩
   ·unfold zPc
    simp only
    rw[yI hi,zH,yC [] hi];simp only[bs,hcl,k2];rw[hw.1,zK5 (by omega),zE,yE (by rw[hw.1];exact hk)];simp only[bs,r1,hsc];cases hlo:zF (zHx p (out,(i:Int)) (k:Int) u) ([],false,0)with
    |none=>rw[hlo]at hins;cases hins
    |some r32=>
     rw[hlo,bs]at hins;simp only[bs];obtain⟨a1,a2⟩:=r32;cases a2 with
     |true=>
      simp only[Jj,zE]at hins ⊢
      rw[zD (by omega) (by omega),bs,cs,Lw.inj hins]
     |false=>
      simp only[Js,zH]at hins ⊢
      cases hap:yZ a1 [u]with
      |none=>rw[hap]at hins;cases hins
      |some v33=>
       rw[hap,bs]at hins;simp only[bs];rw[zD (by omega) (by omega),bs,cs,Lw.inj hins]
   ·rw[tG]at ha
    rw[qZ ha];refine jO (fun b hb=>?_) (s1 a ha);rw[J6,G6]at hb;rcases Jf b out.length with g|g
    ·rw[zC3 g];exact hup _ (hs.1 b g)
    ·rw[show b=out.length from by omega,zC4]
     have hwS:Sp p n (rows.take (i+1)) (cl p n out pv (rows.getD i []) out.length):=by
      have hcS:Sp p n (rows.take (i+1)) (mkv n fun j=>S out.length fun k=>cf k*ent out k j):=zMa (out:=out) (cf:=cf) (fun b hb=>hup _ (hs.1 b hb)) fun j hj=>by rw[yB hj]
      refine qD (k:=1) hvs hcS fun j hj=>?_
      rw[hcf j hj,yB hj,Q9]
     refine qD (k:=r) (zAs (u:=[]) fun j _=>by simp[at0]) hwS fun j hj=>?_
     rw[ua j hj,Kb,show at0 ([]:List Int) j=0 from by simp[at0],Ku,Hq]
   ·rw[htk,J6,hti,G6]at ha
    rw[htk];rcases Jf a i with g|g
    ·rw[zC3 (by omega)]
     exact jO s2 (hs.2 a (by omega))
    ·have hai:a=i:=by omega
     subst hai;have e:(rows.take a++[rows.getD a []]).getD a []=rows.getD a []:=by have:=zC4 (xs:=rows.take a) (v:=rows.getD a []);rw[hti]at this;exact this
     rw[e];have hwS:Sp p n (mkR (out.length+1) (tJ p n out u k q)) (cl p n out pv (rows.getD a []) out.length):=by
      refine qD (k:=at0 (cl p n out pv (rows.getD a []) out.length) k) (zAs (u:=[]) fun j _=>by simp[at0]) s3 fun j hj=>?_
      rw[ua j hj,show at0 ([]:List Int) j=0 from by simp[at0],Ku];rw[Jz,Kb,←Jz,←H8,Hq (at0 (cl p n out pv (rows.getD a []) out.length) k),H8,Jz,r4,Hc,Kb]
     have hcS:Sp p n (mkR (out.length+1) (tJ p n out u k q)) (mkv n fun j=>S out.length fun k=>cf k*ent out k j):=zMa (out:=out) (cf:=cf) s2 fun j hj=>by rw[yB hj]
     refine qD (k:=-1) hwS hcS fun j hj=>?_
     rw[yB hj,Km,hcf j hj,←Km]
     congr 1;omega
 ·obtain⟨out,pv,rfl,h,hs,hl,_⟩:=hI
  refine⟨out,?_,pv,⟨h,hl⟩,by rw[Kl]at hs;exact hs⟩;unfold zPc;simp only
  rw[yS,zE]
theorem zK8:∃R pv,f_o p rows=some R∧Red p n R pv∧sV p n R rows:=by obtain⟨R,pv,h1,h2,h3⟩:=zDX hp hn hm hr;exact⟨R,pv,h1,h2.1,h3⟩
theorem zGL{R:Mx}{pv:Nat→Nat}(h:Red p n R pv)(hs:sV p n R rows):R.length≤rows.length:=by have h7:=hp.pos;obtain⟨R',pv',_,h2,h3⟩:=zDX hp hn hm hr;rw[h.unique (by omega) h2.1 (hs.trans h3.symm)];exact h2.2
theorem zCf:∃R pv,f_o p rows=some R∧f_g p rows=some R∧Red p n R pv∧sV p n R rows:=by have h7:=hp.pos;obtain⟨R,pv,h1,h2,h3⟩:=zK8 hp hn hm hr;obtain⟨R',pv',g1,g2,g3⟩:=zK6 hp hn hm hr;have e:=h2.unique (by omega) g2 (h3.trans g3.symm);exact⟨R,pv,h1,by rw[e];exact g1,h2,h3⟩
end
end Go.Pl

namespace Go.Pl
open Go Go.Ab Go.Wk Go.Pc
theorem jP{β:Type}{body:List β×Int→Option ((List β×Int)⊕List β)}(n:Nat)(F:Nat→β)(h:∀i acc,i<n→acc.length=i→body (acc,(i:Int))=some (.inl (acc++[F i],((i+1:Nat):Int))))(he:∀acc,body (acc,(n:Int))=some (.inr acc)):
  zF body ([],0)=some ((Jq n).map F):=by
 have:=zN (body:=body) (r:=(Jq n).map F) (fun i=>((Jq i).map F,(i:Int))) n (fun i hi=>by rw[h i _ hi (by simp),Kv,Lg];rfl) (he _)
 exact this
theorem zEK{xs:Mx}(hx:xs.length≤100000)(hf:xs.flatten.length≤1000000):zMG xs=some xs.flatten:=by
 unfold zMG;have:=zN (body:=zLp xs) (r:=xs.flatten) (fun i=>((xs.take i).flatten,(i:Int))) xs.length (fun i hi=>by
  have h1:=zEI hi;have h2:=zIY (xs:=xs) (i+1);have h3:=congrArg Jcw h1;rw[J6]at h3;unfold zLp;simp only
  rw[yI hi,zH,yC [] hi,bs,yF (by omega),bs,zD (by omega) (by omega),bs,cs,h1]) (by
  unfold zLp;simp only
  rw[yS,zE,Kl])
 rw[show((0:Nat):Int)=0 from rfl,Jx]at this;simp only[U8]at this;rw[this,bs]
theorem zF6{p:Int}{L:Nat}{v:List Int}:Row p L v↔v.length=L∧ ∀a∈v,0≤a∧a≤p-1:=by
 constructor
 ·rintro⟨h1,h2⟩
  refine⟨h1,fun a ha=>?_⟩;obtain⟨i,hi,rfl⟩:=Ks.1 ha;have:=h2 i (by omega);simpa[at0,J2,J3 hi]using this
 ·rintro⟨h1,h2⟩
  refine⟨h1,fun i hi=>?_⟩;have:=h2 v[i] (K9 (by omega));simpa[at0,J2,J3 (show i<v.length by omega)]using this
theorem zDY{D:Nat}:∀{xs:Mx},(∀r∈xs,r.length=D)→xs.flatten.length=xs.length*D
 | [],_=>by simp
 |x::xs,h=>by
  have:=zDY (xs:=xs) fun r hr=>h r (by simp[hr])
  have:=h x (by simp);simp only[H4,J6,Jh,Ux];omega
theorem zQX{p:Int}{D:Nat}{xs:Mx}(h:∀r∈xs,Row p D r):Row p (xs.length*D) xs.flatten:=by refine zF6.2 ⟨zDY fun r hr=>(h r hr).1,fun a ha=>?_⟩;obtain⟨r,hr,ha⟩:=Jaz.1 ha;exact(zF6.1 (h r hr)).2 a ha
def sU(D k:Nat):List Int:=mkv D fun j=>if j=k then 1 else 0
theorem zOF{p:Int}{D k:Nat}(hp:2≤p):Row p D (sU D k):=⟨zZ _ _,fun i hi=>by rw[sU,yB hi];split<;>omega⟩
theorem zB8{D k:Nat}(hk:k<D)(hD:D≤1000000):zJo (D:Int) (k:Int)=some (sU D k):=by
 unfold zJo;rw[yO (by omega),bs,yE (by simp;exact hk),bs,J7]
 congr 1
 rw[uS,qX,sU]
end Go.Pl

namespace Go.Pl
open Go Go.Ab Go.Wk Go.Pc
abbrev gl{β:Type}(m:Nat)(F:Nat→β):List β:=(Jq m).map F
theorem yW{β:Type}{m:Nat}{F:Nat→β}:(gl m F).length=m:=by simp[gl]
theorem zFj{β:Type}{m:Nat}{F:Nat→β}{i:Nat}(h:i<m):ixO (gl m F) (i:Int)=some (F i):=by rw[qB (by rw[yW];exact h)];simp[gl]
theorem tR{β:Type}{m:Nat}{F G:Nat→β}(h:∀i,i<m→F i=G i):gl m F=gl m G:=Q7 fun i hi=>h i (Lb.1 hi)
theorem zJd{β:Type}{m:Nat}{F:Nat→β}{i:Nat}{a:β}:(gl m F).set i a=gl m (fun k=>if k=i then a else F k):=by
 apply La;intro k
 by_cases hk:k<m
 ·by_cases h:i=k
  ·subst h;simp[gl,hk]
  ·rw[Qx h];simp[gl,hk,Ne.symm h]
 ·rw[Jn (by simp[gl];omega),Jn (by simp[gl];omega)]
theorem sM{β:Type}{m:Nat}{F:Nat→β}:gl m F++[F m]=gl (m+1) F:=by simp[gl,Kv]
def base(n i:Nat):Nat:=n+i*n-i*(i+1)/2
theorem zOG:∀n,n<7→ ∀i,i<n→base n (i+1)=base n i+(n-1-i):=by decide
theorem zF7:∀n,n<7→ ∀i,i<n→base n i+(n-1-i)≤base n n:=by decide
theorem sF:∀n,n<7→n≤base n n∧base n n≤21∧base n 0=n:=by decide
theorem zMb:∀n:Nat,n<7→ ∀j:Nat,j<n→ ∀i:Nat,i<j→zWB (n:Int) (i:Int) (j:Int)=some ((base n i+(j-i-1):Nat):Int):=by decide+kernel
def exP(n D:Nat)(x:SPr)(T:Mx)(i:Nat):List Int:=if i<n then x.zT.getD i []++T.getD i []else J1 (n+D) 0
def exF(n:Nat)(x:SPr)(m:zC)(T:Mx)(i j:Nat):List Int:=if j<n-1-i then(x.zB.getD i []).getD j []++T.getD (base n i+j) []else J1 n 0++(m.zI.getD i []).getD (j-(n-1-i)) []
def unC(N i:Nat):Mx:=gl (N-1-i) fun j=>sU N (i+1+j)
def exC(n D:Nat)(x:SPr)(m:zC)(T:Mx)(i:Nat):Mx:=if i<n then gl (n+D-1-i) (exF n x m T i)else unC (n+D) i
def ext(n D:Nat)(x:SPr)(m:zC)(T:Mx):SPr:=⟨x.zA++J1 D m.Prime,gl (n+D) (exP n D x T),gl (n+D) (exC n D x m T)⟩
structure zJe (n D:Nat) (x:SPr) (m:zC) (T:Mx):Prop where
 hn:n≤6
 o:x.zA.length=n
 p:x.zT.length=n
 c:x.zB.length=n
 cl:∀i,i<n→(x.zB.getD i []).length=n-1-i
 pl:∀i,(x.zT.getD i []).length≤6
 ce:∀i j,((x.zB.getD i []).getD j []).length≤6
 t:T.length=base n n
 tl:∀i,(T.getD i []).length≤30
 m:zWc n m D
end Go.Pl

namespace Go.Pl
open Go Go.Ab Go.Wk Go.Pc
theorem zNO{a b:List Int}(ha:a.length≤1000)(hb:b.length≤1000):f_q [a,b]=some (a++b):=by rw[jM (by simp) (by simp;omega)];simp
theorem zIe{v:Int}{k:Nat}(hk:k≤1000):∀d c:Nat,c≤k→(c=0→k=0)→k-c≤d→zF qF (J1 c v++J1 (k-c) 0,(c:Int))=some (J1 k v):=by
 intro d
 induction d with
 |zero=>
  intro c h1 _ h3;obtain rfl:c=k:=by omega
  rw[yL];unfold qF;simp only
  rw[Kk,Hp,J9,Jy,yS,zE]
 |succ d ih=>
  intro c h1 h2 h3
  by_cases hc:c=k
  ·subst hc
   rw[yL];unfold qF;simp only
   rw[Kk,Hp,J9,Jy,yS,zE]
  ·have hl:(J1 c v++J1 (k-c) (0:Int)).length=k:=by simp;omega
   have s1:zQ (J1 c v++J1 (k-c) (0:Int)) (c:Int) (k:Int)=some (((J1 c v++J1 (k-c) (0:Int)).drop c).take (k-c)):=by unfold zQ;rw[if_pos ⟨by omega,by omega,by rw[hl];omega⟩];simp
   have s2:zQ (J1 c v++J1 (k-c) (0:Int)) 0 (c:Int)=some (J1 c v):=by unfold zQ;rw[if_pos ⟨by omega,by omega,by rw[hl];omega⟩];simp
   have e1:(J1 c v).take (k-c)=J1 (min (k-c) c) v:=by rw[List.take_replicate]
   have e2:xU (J1 c v++J1 (k-c) (0:Int)) c (J1 (min (k-c) c) v)=J1 (c+min c (k-c)) v++J1 (k-(c+min c (k-c))) 0:=by
    unfold xU;rw[K7 (Jy),Jy,Nat.min_comm (k-c) c,Jm,Jbv,Jy,Ub (by rw[Jy];omega),Jp,Li]
    congr 2;omega
   have hb:qF (J1 c v++J1 (k-c) 0,(c:Int))=some (.inl (J1 (c+min c (k-c)) v++J1 (k-(c+min c (k-c))) 0,((c+min c (k-c):Nat):Int))):=by
    unfold qF;simp only
    rw[hl,yI (by omega),zH,s1,bs,s2,bs,Jy];simp only[J7];rw[e1,e2,←H1,zD (by omega) (by omega),bs]
   rw[yL,hb];exact ih (c+min c (k-c)) (by omega) (by omega) (by omega)
theorem zMc{v:Int}{k:Nat}(hk:k≤30):f_h [v] (k:Int)=some (J1 k v):=by
 have key:∀k:Nat,k<31→zSo 1 (IntKind.wrap .u64 (k:Int))=some (0,(k:Int))∧yM (IntKind.wrap .i64 (k:Int))=some k:=by decide+kernel
 obtain⟨k1,k2⟩:=key k (by omega);unfold f_h;rw[decide_eq_false (by omega),zE,zQO k1,bs];simp only[k2,bs];rw[show decide ((0:Int)> 0)=false from rfl,zE,decide_eq_false (by omega),zE]
 by_cases h0:k=0
 ·subst h0
  have:=zIe (v:=v) (k:=0) (by omega) 0 0 (by omega) (by omega) (by omega);rw[show xU (J1 0 (0:Int)) 0 (([v]:List Int).take ((J1 0 (0:Int)).length-0))=J1 0 v++J1 (0-0) 0 from rfl,show((min ([v]:List Int).length ((J1 0 (0:Int)).length-0):Nat):Int)=((0:Nat):Int)from rfl,this,bs]
 ·have:=zIe (v:=v) (k:=k) (by omega) k 1 (by omega) (by omega) (by omega)
  have e1:xU (J1 k (0:Int)) 0 (([v]:List Int).take ((J1 k (0:Int)).length-0))=J1 1 v++J1 (k-1) 0:=by unfold xU;have e0:([v]:List Int).take k=[v]:=Je (by simp;omega);rw[Jy,Hb,e0,Jx,Jp,Li];rfl
  have e2:((min ([v]:List Int).length ((J1 k (0:Int)).length-0):Nat):Int)=((1:Nat):Int):=by simp;omega
  rw[e1,e2,this,bs]
theorem zOH{O:List Int}{N:Nat}(hO:O.length=N)(hN:N≤100):f_A O=some ⟨O,gl N (fun _=>J1 N 0),gl N (unC N)⟩:=by
 have hin:∀i,i<N→zF (zPf O) ([],((i+1:Nat):Int))=some (unC N i):=fun i hi=>by
  have:=zN (body:=zPf O) (r:=unC N i) (fun j=>(gl j fun j=>sU N (i+1+j),((i+1+j:Nat):Int))) (N-1-i) (fun j hj=>by
   unfold zPf;simp only
   rw[hO,yI (by omega),zH,zB8 (by omega) (by omega),bs,yF (by rw[yW];simp;omega),bs,zD (by omega) (by omega),bs,cs,sM (F:=fun j=>sU N (i+1+j))];rfl) (by
   unfold zPf;simp only
   rw[hO,show i+1+(N-1-i)=N from by omega,yS,zE,unC])
  exact this
 have:=zN (body:=zPg O) (r:=(gl N (fun _=>J1 N 0),gl N (unC N))) (fun i=>(gl i (fun _=>J1 N (0:Int)),gl i (unC N),((i:Nat):Int))) N (fun i hi=>by
  unfold zPg;simp only
  rw[hO,yI hi,zH,yO (by omega),bs,yF (by rw[yW];simp;omega),bs,zD (by omega) (by omega),bs,cs,hin i hi,bs,yF (by rw[yW];simp;omega),bs,bs,sM (F:=unC N),sM (F:=fun _=>J1 N (0:Int))]) (by
  unfold zPg;simp only
  rw[hO,yS,zE])
 unfold f_A;rw[sO (by omega),bs];have e:zF (zPg O) ([],[],0)=some (gl N (fun _=>J1 N 0),gl N (unC N)):=this;rw[e,bs]
section
variable {n D:Nat}{x:SPr}{m:zC}{T:Mx} (h:zJe n D x m T)
 include h
def exG(n N:Nat)(x:SPr)(m:zC)(T:Mx)(i t q:Nat):List Int:=if q<t then exF n x m T i q else sU N (i+1+q)
def exE(n D:Nat)(x:SPr)(m:zC)(T:Mx)(i t k:Nat):Mx:=if k<i then exC n D x m T k else if k=i then gl (n+D-1-i) (exG n (n+D) x m T i t)else unC (n+D) k
theorem zMd{i t:Nat}:exE n D x m T i t i=gl (n+D-1-i) (exG n (n+D) x m T i t):=by have _:=h;rw[exE,if_neg (by omega),if_pos rfl]
theorem zNP{i t:Nat}:(gl (n+D) (exE n D x m T i t)).set i ((gl (n+D-1-i) (exG n (n+D) x m T i t)).set t (exF n x m T i t))=gl (n+D) (exE n D x m T i (t+1)):=by
 have _:=h;rw[zJd,zJd];refine tR fun k _=>?_
 by_cases hk:k=i
 ·subst hk
  rw[if_pos rfl,zMd h];refine tR fun q _=>?_
  simp only[exG]
  by_cases hq:q=t
  ·subst hq;rw[if_pos rfl,if_pos (by omega)]
  ·rw[if_neg hq]
   by_cases h2:q<t
   ·rw[if_pos h2,if_pos (by omega)]
   ·rw[if_neg h2,if_neg (by omega)]
 ·rw[if_neg hk,exE,exE,if_neg hk,if_neg hk]
theorem zGM{i k:Nat}:exE n D x m T i 0 k=if k<i then exC n D x m T k else unC (n+D) k:=by
 have _:=h;rw[exE]
 by_cases h1:k<i
 ·rw[if_pos h1,if_pos h1]
 ·rw[if_neg h1,if_neg h1]
  by_cases h2:k=i
  ·subst h2
   rw[if_pos rfl];exact tR fun q _=>by rw[exG,if_neg (by omega)]
  ·rw[if_neg h2]
theorem zQY{i:Nat}(hi:i<n):gl (n+D) (exE n D x m T i (n+D-1-i))=gl (n+D) (exE n D x m T (i+1) 0):=by
 refine tR fun k _=>?_
 rw[zGM h,exE]
 by_cases h1:k<i
 ·rw[if_pos h1,if_pos (by omega)]
 ·rw[if_neg h1]
  by_cases h2:k=i
  ·subst h2
   rw[if_pos rfl,if_pos (by omega),exC,if_pos hi];exact tR fun q hq=>by rw[exG,if_pos hq]
  ·rw[if_neg h2,if_neg (by omega)]
theorem zYi{i:Nat}(hi:i<n){C:List Mx}{w:Int}:zF (zPi T (C,w,(i:Int)) (x.zB.getD i [])) (gl (n+D) (exE n D x m T i 0),((base n i:Nat):Int),0)=some (gl (n+D) (exE n D x m T i (n-1-i)),((base n (i+1):Nat):Int)):=by
 have h6:=h.hn;have h3:=h.m.d3;have hc:=h.cl i hi;have hb:=zF7 n (by omega) i hi;have hbb:=sF n (by omega);have:=zN (body:=zPi T (C,w,(i:Int)) (x.zB.getD i [])) (r:=(gl (n+D) (exE n D x m T i (n-1-i)),((base n (i+1):Nat):Int))) (fun j=>(gl (n+D) (exE n D x m T i j),((base n i+j:Nat):Int),((j:Nat):Int))) (n-1-i) (fun j hj=>by
  have a1:=h.ce i j;have a2:=h.tl (base n i+j);have e:exF n x m T i j=(x.zB.getD i []).getD j []++T.getD (base n i+j) []:=if_pos hj;unfold zPi;simp only
  rw[hc,yI hj,zH,yC [] (by omega),bs,zFj (by omega),bs,yC [] (by rw[h.t];omega),bs,zNO (by omega) (by omega),bs,zMd h,zFj (by omega),bs,zD (by omega) (by omega),bs,zD (by omega) (by omega),bs,cs,cs,←e,J7,J7,zNP h];rfl) (by
  unfold zPi;simp only
  rw[hc,yS,zE,zOG n (by omega) i hi])
 exact this
theorem zYj{i:Nat}(hi:i<n){C:List Mx}{w:Int}:zF (zPj x (C,w,(i:Int)) (m.zI.getD i [])) (gl (n+D) (exE n D x m T i (n-1-i)),0)=some (gl (n+D) (exE n D x m T (i+1) 0)):=by
 have h6:=h.hn;have h3:=h.m.d3;have hmt:=h.m.mat i hi;have:=zN (body:=zPj x (C,w,(i:Int)) (m.zI.getD i [])) (r:=gl (n+D) (exE n D x m T (i+1) 0)) (fun j=>(gl (n+D) (exE n D x m T i (n-1-i+j)),((j:Nat):Int))) D (fun j hj=>by
  have e:exF n x m T i (n-1-i+j)=J1 n 0++(m.zI.getD i []).getD j []:=by rw[exF,if_neg (by omega),show n-1-i+j-(n-1-i)=j from by omega]
  have hr:=(hmt.2 j hj).1;unfold zPj;simp only
  rw[hmt.1,yI hj,zH,yC [] (by rw[hmt.1];exact hj),bs,zFj (by omega),bs,h.o,zD (by omega) (by omega),bs,zD (by omega) (by omega),bs,zD (by omega) (by omega),bs,show(0:Int)=((0:Nat):Int)from rfl,zK1 (by omega) (by omega) (by omega),bs,
   show(n:Int)-1-(i:Int)+(j:Int)=((n-1-i+j:Nat):Int)from by omega,zMd h,zFj (by omega),bs,zD (by omega) (by omega),bs,cs,Hp,J9,←e,J7,J7,zNP h];rfl) (by
  unfold zPj;simp only
  rw[hmt.1,yS,zE,show n-1-i+D=n+D-1-i from by omega,zQY h hi])
 exact this
theorem zYk:zF (zPk x m T) (gl (n+D) (unC (n+D)),((n:Nat):Int),0)=some (gl (n+D) (exC n D x m T)):=by
 have h6:=h.hn;have h3:=h.m.d3;have hbb:=sF n (by omega);have:=zN (body:=zPk x m T) (r:=gl (n+D) (exC n D x m T)) (fun i=>(gl (n+D) (exE n D x m T i 0),((base n i:Nat):Int),((i:Nat):Int))) n (fun i hi=>by
  unfold zPk;simp only
  rw[h.o,yI hi,zH,yC [] (by rw[h.c];exact hi),bs,zYi h hi,bs,yC [] (by rw[h.m.len];exact hi),bs,zYj h hi,bs,zD (by omega) (by omega),bs,cs]) (by
  unfold zPk;simp only
  rw[h.o,yS,zE]
  congr 2
  refine tR fun k _=>?_
  rw[zGM h,exC]
  by_cases hk:k<n
  ·rw[if_pos hk,if_pos hk]
  ·rw[if_neg hk,if_neg hk])
 have e:gl (n+D) (exE n D x m T 0 0)=gl (n+D) (unC (n+D)):=tR fun k _=>by rw[zGM h,if_neg (by omega)]
 rw[e,hbb.2.2]at this;exact this
theorem zYl:zF (zPh x T) (gl (n+D) (fun _=>J1 (n+D) 0),0,0)=some (gl (n+D) (exP n D x T),((n:Nat):Int)):=by
 have h6:=h.hn;have h3:=h.m.d3;have hbb:=sF n (by omega);have:=zN (body:=zPh x T) (r:=(gl (n+D) (exP n D x T),((n:Nat):Int))) (fun i=>(gl (n+D) (fun k=>if k<i then exP n D x T k else J1 (n+D) 0),((i:Nat):Int),((i:Nat):Int))) n (fun i hi=>by
  have a1:=h.pl i;have a2:=h.tl i;have e:exP n D x T i=x.zT.getD i []++T.getD i []:=if_pos hi;unfold zPh;simp only
  rw[h.p,yI hi,zH,yC [] (by rw[h.p];exact hi),bs,yC [] (by rw[h.t];omega),bs,zNO (by omega) (by omega),bs,zFj (by omega),bs,zD (by omega) (by omega),bs,bs,cs,←e,J7,zJd]
  congr 3
  refine tR fun k _=>?_
  by_cases hk:k=i
  ·subst hk;rw[if_pos rfl,if_pos (by omega)]
  ·rw[if_neg hk]
   by_cases h2:k<i
   ·rw[if_pos h2,if_pos (by omega)]
   ·rw[if_neg h2,if_neg (by omega)]) (by
  unfold zPh;simp only
  rw[h.p,yS,zE]
  congr 3
  refine tR fun k _=>?_
  by_cases hk:k<n
  ·rw[if_pos hk]
  ·rw[if_neg hk,exP,if_neg hk])
 have e:gl (n+D) (fun k=>if k<0 then exP n D x T k else J1 (n+D) 0)=gl (n+D) (fun _=>J1 (n+D) 0):=tR fun k _=>if_neg (by omega)
 rw[e]at this;exact this
theorem zTE{v:Int}:f_h [v] m.Dim=some (J1 D v):=by rw[h.m.d];exact zMc (by have:=h.m.d3;omega)
theorem zQZ:f_j x m T=some (ext n D x m T):=by
 have h6:=h.hn;have h3:=h.m.d3;unfold f_j;rw[sO (by rw[h.o];omega),bs,zTE h,bs,yF (by rw[h.o];simp;omega),bs,zOH (N:=n+D) (by rw[J6,h.o];simp) (by omega),bs];simp only
 rw[zYl h,bs,zYk h,bs];rfl
end
end Go.Pl

namespace Go.Pl
open Go Go.Ab Go.Wk Go.Pc
theorem zNQ{α:Type}{c:α→Nat}{b:Nat}:∀{xs:List α},(∀x∈xs,c x≤b)→sm c xs≤xs.length*b
 | [],_=>by simp[sm]
 |x::xs,h=>by
  have h1:=zNQ (xs:=xs) fun y hy=>h y (by simp[hy])
  have h2:=h x (by simp);simp only[sm,Jh,Kf];omega
theorem zMe{xs:Mx}{b:Nat}(h:∀i,i<xs.length→(xs.getD i []).length≤b)(i:Nat):(xs.getD i []).length≤b:=by
 rcases Jf i xs.length with g|g
 ·exact h i g
 ·rw[J2,Jn g];simp
theorem zMf{x:SPr}{n:Nat}(ho:x.zA.length=n)(hn:n≤6):zUu x=some ((base n n:Nat):Int):=by
 unfold zUu;rw[ho];have key:∀n:Nat,n<7→((rng ((n:Int)-1)).bind fun v1=>(rng ((n:Int)*v1)).bind fun v2=>(vR v2 2).bind fun v3=>(rng ((n:Int)+v3)).bind fun v4=>some v4)=some ((base n n:Nat):Int):=by decide+kernel
 exact key n (by omega)
theorem zMg{x:SPr}{n:Nat}(ho:x.zA.length=n)(hn:n≤6):zMC x=some ((base n n:Nat):Int):=by
 unfold zMC;rw[ho];have key:∀n:Nat,n<7→((rng ((n:Int)+1)).bind fun v1=>(rng ((n:Int)*v1)).bind fun v2=>(vR v2 2).bind fun v3=>some v3)=some ((base n n:Nat):Int):=by decide+kernel
 exact key n (by omega)
theorem zJe.ofX{x:SPr}{m:zC}{D:Nat}{T:Mx}(hx:zDN x)(hm:zWc x.zA.length m D)(ht:T.length=base x.zA.length x.zA.length)(htl:∀i,(T.getD i []).length≤30):zJe x.zA.length D x m T:=by
 have h6:=hx.n6;refine⟨h6,rfl,hx.pl,hx.cl,fun i hi=>by have:=(hx.tl i hi).2.1;omega,zMe fun i hi=>?_,fun i=>?_,ht,htl,hm⟩
 ·have:=(hx.tl i (by rw[←hx.pl];exact hi)).1.1.1
  omega
 ·rcases Jf i x.zA.length with g|g
  ·refine zMe fun j hj=>?_
   have:=((hx.tl i g).2.2 j hj).1.1;omega
  ·have e:x.zB.getD i []=[]:=by rw[J2,Jn (by rw[hx.cl];exact g)];rfl
   rw[e];simp
theorem zJe.of{x:SPr}{m:zC}{D:Nat}{T:Mx}(hx:zDN x)(hm:MOk x.zA.length m D)(ht:T.length=base x.zA.length x.zA.length)(htl:∀i,(T.getD i []).length≤3):zJe x.zA.length D x m T:=.ofX hx hm.x ht fun i=>by have:=htl i;omega
end Go.Pl

namespace Go.Pl
open Go Go.Ab Go.Wk Go.Pc
def zRa(x:SPr):Nat:=c1 x.zA+sm c1 x.zT+sm (sm c1) x.zB
def zVj(x:SPr)(k:Int):SPr:=⟨m1 k x.zA,m2 (k+c1 x.zA) x.zT,m3 (k+c1 x.zA+sm c1 x.zT) x.zB⟩
theorem zNR{x:SPr}(h:zBU x):zRa x≤3145728:=by obtain⟨h1,h2,h3⟩:=h;have g2:=zLI (x:=x.zT);have g3:=zIS (x:=x.zB);simp only[S1]at h1;simp only[S2]at h2;simp only[S3]at h3;simp only[zRa];omega
theorem zCB{x:SPr}{k:Int}(h:zBU x)(k0:0≤k)(k1:k≤1000000000):zUo x k=some (k+zRa x,zVj x k):=by have ht:=zNR h;simp only[zRa]at ht;unfold zUo;rw[zG1 h.1 k0 (by omega),bs,zBT h.2.1 (by simp only;omega) (by simp only;omega),bs,zBo h.2.2 (by simp only;omega) (by simp only;omega),bs];simp only[zRa,zVj,H1,Qp]
end Go.Pl

namespace Go.Pl
open Go Go.Ab Go.Wk Go.Pc
end Go.Pl

namespace Go.Pl
open Go Go.Ab Go.Wk Go.Pc
end Go.Pl

namespace Go.Pl
open Go Go.Ab Go.Wk Go.Pc
theorem zMh{v:List Int}{k:Nat}(hl:v.length≤1000000)(hk:k<v.length)(h0:∀j,j<k→at0 v j=0)(h1:at0 v k≠0):zU2 v=some (k:Int):=by
 unfold zU2;have:=zN (body:=zIq v) (r:=.inr (k:Int)) (fun i=>(i:Int)) k (fun i hi=>by
  unfold zIq zU1;rw[yI (by omega),zH,yE (by omega),bs,bs,h0 i hi,bne_self_eq_false,zE,zD (by omega) (by omega),bs,cs]) (by
  unfold zIq zU1;rw[yI hk,zH,yE hk,bs,bs,qC h1,zH])
 have e:zF (zIq v) 0=some (.inr (k:Int)):=this;rw[e,bs]
section
variable {p:Int} (hp:Prime p) {n:Nat} (hn:n≤100000) {R:Mx}{pv:Nat→Nat} (h:Red p n R pv) {v:List Int} (hv:Row p n v)
 include hp hn h
theorem zK9(hm:R.length≤100000):zU3 R=some (gl R.length fun i=>(pv i:Int)):=by
 have h7:=hp.pos;unfold zU3;rw[jP (body:=zLo R) R.length (fun i=>(pv i:Int)) (fun i acc hi ha=>by
  have hr:=h.row i hi;have h1:=h.one i hi;unfold zLo;simp only
  rw[yI hi,zH,yC [] hi,bs,zMh (k:=pv i) (by rw[hr.1];omega) (by rw[hr.1];exact h.lt i hi) (fun j hj=>h.low i hi j hj) (by simp only[ent]at h1;omega),bs,yF (by simp;omega),bs,zD (by omega) (by omega),bs,cs]) (fun acc=>by
  unfold zLo;simp only
  rw[yS,zE]),bs]
 include hv
theorem zRb{i:Nat}(hi:i<R.length):xK p n (cl p n R pv v i) (0-at0 (cl p n R pv v i) (pv i)) (R.getD i [])=cl p n R pv v (i+1):=by
 have _:=hp;have _:=hn;have _:=h;have _:=hv;have _:=hi;rw[cl];refine zW fun j _=>?_
 generalize at0 (cl p n R pv v i) (pv i)=a
 generalize at0 (R.getD i []) j=b
 rw[Qn,Qn,G8];have e:at0 (cl p n R pv v i) j+(p*b-a*b)=at0 (cl p n R pv v i) j+(0-a*b)+p*b:=by omega
 rw[e,Ky]
theorem zGN{c:Int}(hm:R.length≤100000):zU4 (zU.mk p c R) v=some (cl p n R pv v R.length):=by
 have h7:=hp.pos;have:=zN (body:=zIr (zU.mk p c R) (gl R.length fun i=>(pv i:Int))) (r:=cl p n R pv v R.length) (fun i=>(cl p n R pv v i,(i:Int))) R.length (fun i hi=>by
  have hr:=zBv hp hn h hv i;have ha:=hr.2 (pv i) (h.lt i hi);unfold zIr;simp only
  rw[yW,yI hi,zH,zFj hi,bs,yC [] hi,bs,yE (by rw[hr.1];exact h.lt i hi),bs,zD (by omega) (by omega),bs,sT hp hr (h.row i hi) (by omega) (by omega),bs,zD (by omega) (by omega),bs,cs,zRb hp hn h hv hi]) (by
  unfold zIr;simp only
  rw[yW,yS,zE])
 unfold zU4;rw[sO (by rw[hv.1];omega),bs];simp only
 rw[zK9 hp hn h hm,bs];have e:zF (zIr (zU.mk p c R) (gl R.length fun i=>(pv i:Int))) (v,0)=some (cl p n R pv v R.length):=this;rw[e,bs]
theorem zTF:(∀j,j<n→at0 (cl p n R pv v R.length) j=0)↔Sp p n R v:=by
 have h7:=hp.pos;obtain⟨cf,hcf⟩:=zNN hp hn h hv R.length (Ji _);have hr:=zBv hp hn h hv R.length;have hs:Sp p n R (mkv n fun j=>S R.length fun k=>cf k*ent R k j):=⟨cf,fun j hj=>by rw[yB hj]⟩;constructor
 ·intro h0
  refine qD (v:=mkv n fun _=>0) (w:=mkv n fun j=>S R.length fun k=>cf k*ent R k j) (k:=-1) (zAs fun j hj=>by rw[yB hj];rfl) hs fun j hj=>?_
  have h1:=hcf j hj;rw[h0 j hj]at h1;rw[yB hj,yB hj]
  generalize (S R.length fun k=>cf k*ent R k j)=s at h1 ⊢
  have h2:(at0 v j+s)%p=0:=by rw[←h1];rfl
  have h3:(at0 v j-(0+ -1*s))%p=0:=by rw[←h2];congr 1;omega
  exact Int.emod_eq_emod_iff_emod_sub_eq_zero.2 h3
 ·intro hsp j hj
  have h1:Sp p n R (cl p n R pv v R.length):=qD (k:=1) hsp hs fun j hj=>by rw[hcf j hj,yB hj,Q9]
  have h2:=h.expand h1 j hj;rw[wC (g:=fun _=>0) (fun i hi=>by rw[zLX hp hn h hv R.length (Ji _) i hi,G8]),qS]at h2;have h3:=hr.2 j hj;rw[K6 h3.1 (by omega)]at h2;rw[h2];rfl
end
end Go.Pl

namespace Go.Pl
open Go Go.Ab Go.Wk Go.Pc
section
variable {p:Int} (hp:1<p) {n:Nat}{R R':Mx}{pv pv':Nat→Nat} (h:Red p n R pv) (h':Red p n R' pv') (hs:∀i,i<R.length→Sp p n R' (R.getD i []))
 include hp h h' hs
theorem Red.lt_of{i i2 k k2:Nat}(hii:i<i2)(hi2:i2<R.length)(hk:k<R'.length)(e:pv' k=pv i)(e2:pv' k2=pv i2):k<k2:=by
 have _:=hp;have _:=hs;have h1:=h.mono i i2 hii hi2;refine Classical.byContradiction fun hn=>?_
 rcases Jf k2 k with g|g
 ·have:=h'.mono k2 k g hk;omega
 ·have:k=k2:=by omega
  subst this;omega
theorem Red.low_in:∀i,i<R.length→ ∃k,k<R'.length∧pv' k=pv i∧i≤k:=by
 intro i
 induction i with
 |zero=>intro hi;obtain⟨k,hk,e⟩:=h.piv_in hp h' hs hi;exact⟨k,hk,e,by omega⟩
 |succ i ih=>
  intro hi;obtain⟨k,hk,e,hik⟩:=ih (by omega);obtain⟨k2,hk2,e2⟩:=h.piv_in hp h' hs hi;have:=h.lt_of hp h' hs (show i<i+1 by omega) hi hk e e2;exact⟨k2,hk2,e2,by omega⟩
theorem Red.le_of:R.length≤R'.length:=by
 rcases Up R.length with g|g
 ·omega
 ·obtain⟨k,hk,_,hik⟩:=h.low_in hp h' hs (R.length-1) (by omega)
  omega
end
end Go.Pl

namespace Go.Pl
open Go Go.Ab Go.Wk Go.Pc
end Go.Pl

namespace Go.Pl
open Go Go.Ab Go.Wk Go.Pc
theorem kJ{u v:List Int}{j:Nat}:at0 (u++v) j=if j<u.length then at0 u j else at0 v (j-u.length):=by
 simp only[at0,J2];split
 ·next h=>rw[Jo h]
 ·next h=>rw[J8 (by omega)]
theorem sG{v:List Int}{c j:Nat}:at0 (v.drop c) j=at0 v (c+j):=by simp only[at0,J2,Ko]
theorem jQ{v:List Int}{c j:Nat}(h:j<c):at0 (v.take c) j=at0 v j:=by simp only[at0,J2,H5,if_pos h]
theorem zF8{f:Nat→Int}(t:Nat):∀d:Nat,S (t+d) f=S t f+S d (fun i=>f (t+i))
 |0=>by simp[S]
 |d+1=>by rw[←Lv];simp only[S];rw[zF8 t d];omega
theorem zWh{f:Nat→Int}{t n:Nat}(ht:t≤n)(h:∀i,i<t→f i=0):S n f=S (n-t) (fun i=>f (t+i)):=by
 have e:n=t+(n-t):=by omega
 conv=>lhs;rw[e,zF8,wC (g:=fun _=>0) h,qS]
 omega
theorem zTG{f:Nat→Int}{t n:Nat}(ht:t≤n)(h:∀i,t≤i→i<n→f i=0):S n f=S t f:=by
 have e:n=t+(n-t):=by omega
 conv=>lhs;rw[e,zF8,wC (f:=fun i=>f (t+i)) (g:=fun _=>0) (fun i hi=>h (t+i) (by omega) (by omega)),qS]
 omega
theorem xR{F:Nat→List Int}{m i:Nat}(h:i<m):(gl m F).getD i []=F i:=by simp[gl,J2,h]
def ur(N i:Nat):List Int:=mkv N fun j=>if j=i then 1 else 0
def wd(N:Nat)(A:Mx):Mx:=gl N fun i=>A.getD i []++ur N i
def Gr(p:Int)(c N:Nat)(A:Mx)(u:List Int):Prop:=∀j,j<c→at0 u j%p=(S N fun k=>at0 u (c+k)*ent A k j)%p
section
variable {p:Int} (hp:1<p) {c N:Nat}{A:Mx} (hA:∀i,i<N→Row p c (A.getD i []))
 include hA
theorem zBw:(wd N A).length=N:=by have _:=hA;exact yW
theorem zF9{i j:Nat}(hi:i<N)(hj:j<c):ent (wd N A) i j=ent A i j:=by rw[ent,wd,xR hi,kJ,(hA i hi).1,if_pos hj]
theorem zAW{i l:Nat}(hi:i<N)(hl:l<N):ent (wd N A) i (c+l)=if l=i then 1 else 0:=by
 rw[ent,wd,xR hi,kJ,(hA i hi).1,if_neg (by omega),Lq,ur,yB hl]
 include hp
theorem zRc{i:Nat}(hi:i<N):Row p (c+N) ((wd N A).getD i []):=by
 refine⟨by rw[wd,xR hi,J6,(hA i hi).1,ur,zZ],fun j hj=>?_⟩;rcases Jf j c with g|g
 ·have:=(hA i hi).2 j g
  have e:=zF9 hA hi g;simp only[ent]at e;rw[e];exact this
 ·have e:=zAW hA (l:=j-c) hi (by omega)
  rw[show c+(j-c)=j from by omega]at e;simp only[ent]at e;rw[e];split<;>omega
theorem zYm{u:List Int}:Sp p (c+N) (wd N A) u↔Gr p c N A u:=by
 have _:=hp;constructor
 ·rintro⟨cf,hcf⟩ j hj
  rw[zBw hA]at hcf;rw[←hcf j (by omega)];refine zCd fun k hk=>?_
  have h1:=hcf (c+k) (by omega);rw[zAS (k:=k) hk (fun i hi hne=>by rw[zAW hA hi hk,if_neg (Ne.symm hne),G4]),zAW hA hk hk,if_pos rfl,Hc]at h1;rw[zF9 hA hk hj,Jz,h1,←Jz]
 ·intro h
  refine⟨fun k=>at0 u (c+k),fun j hj=>?_⟩;rw[zBw hA];rcases Jf j c with g|g
  ·rw[h j g]
   refine congrArg (· %p) (wC fun k hk=>?_);rw[zF9 hA hk g]
  ·obtain⟨l,rfl⟩:∃l,j=c+l:=⟨j-c,by omega⟩
   rw[zAS (k:=l) (by omega) (fun i hi hne=>by rw[zAW hA hi (by omega),if_neg (Ne.symm hne),G4]),zAW hA (by omega) (by omega),if_pos rfl,Hc]
variable {W:Mx}{pv:Nat→Nat} (hW:Red p (c+N) W pv) (hs:sV p (c+N) W (wd N A))
 include hW
theorem zWi:∃t,t≤W.length∧(∀i,i<t→pv i<c)∧ ∀i,t≤i→i<W.length→c≤pv i:=by
 have _:=hA;have _:=hp;obtain⟨t,ht,hmin⟩:=zAD (p:=fun t=>W.length≤t∨c≤pv t) ⟨W.length,.inl (Ji _)⟩;have hlt:∀i,i<t→i<W.length∧pv i<c:=fun i hi=>by have:=hmin i hi;exact⟨Jb4 fun h=>this (.inl h),Jb4 fun h=>this (.inr h)⟩
 refine⟨t,Nat.le_of_not_lt fun h=>?_,fun i hi=>(hlt i hi).2,fun i hi hi2=>?_⟩
 ·have:=(hlt W.length h).1;omega
 ·rcases ht with h|h
  ·omega
  ·rcases Jf t i with g|g
   ·have:=hW.mono t i g hi2;omega
   ·rw[show i=t from by omega];exact h
def nul(c t:Nat)(W:Mx):Mx:=gl (W.length-t) fun i=>(W.getD (t+i) []).drop c
def lft(c t:Nat)(W:Mx):Mx:=gl t fun i=>(W.getD i []).take c
 omit hp hA hW in
theorem zDZ{t i j:Nat}(hi:t+i<W.length):ent (nul c t W) i j=ent W (t+i) (c+j):=by
  rw[ent,nul,xR (by omega),sG]
 omit hp hA hW in
theorem zEa{t i j:Nat}(hi:i<t)(hj:j<c):ent (lft c t W) i j=ent W i j:=by rw[ent,lft,xR hi,jQ hj]
variable {t:Nat} (ht:t≤W.length) (h1:∀i,i<t→pv i<c) (h2:∀i,t≤i→i<W.length→c≤pv i)
 include ht h1 h2
theorem zTH:Red p N (nul c t W) (fun i=>pv (t+i)-c):=by
 have _:=hp;have _:=hA;have _:=h1;have _:=ht;have hl:(nul c t W).length=W.length-t:=yW;have hpc:∀i,i<W.length-t→c≤pv (t+i):=fun i hi=>h2 (t+i) (by omega) (by omega)
 refine⟨fun i hi=>?_,fun i hi=>?_,fun i hi=>?_,fun i hi j hj=>?_,fun i k hi hk hne=>?_,fun i j hij hj=>?_⟩
 ·rw[hl]at hi
  have hr:=hW.row (t+i) (by omega);refine⟨by rw[nul,xR hi,K8,hr.1];omega,fun j hj=>?_⟩;have:=hr.2 (c+j) (by omega);rw[nul,xR hi,sG];exact this
 ·rw[hl]at hi
  have:=hW.lt (t+i) (by omega);have:=hpc i hi;omega
 ·rw[hl]at hi
  rw[zDZ (by omega),show c+(pv (t+i)-c)=pv (t+i)from by have:=hpc i hi;omega];exact hW.one _ (by omega)
 ·rw[hl]at hi
  rw[zDZ (by omega)];exact hW.low _ (by omega) _ (by omega)
 ·rw[hl]at hi hk
  rw[zDZ (by omega),show c+(pv (t+i)-c)=pv (t+i)from by have:=hpc i hi;omega];exact hW.off _ _ (by omega) (by omega) (by omega)
 ·rw[hl]at hj
  have:=hW.mono (t+i) (t+j) (by omega) (by omega);have:=hpc i (by omega);omega
 include hs
theorem zWj{u:List Int}:Sp p (c+N) W u↔Gr p c N A u:=by have _:=hW;have _:=ht;have _:=h1;have _:=h2;exact hs.iff.trans (zYm hp hA)
theorem zWk{x:List Int}:Sp p N (nul c t W) x↔ ∀j,j<c→(S N fun k=>at0 x k*ent A k j)%p=0:=by
 have hl:(nul c t W).length=W.length-t:=yW;constructor
 ·rintro⟨cf,hcf⟩ j hj
  rw[hl]at hcf;have e1:(S N fun k=>at0 x k*ent A k j)%p=(S N fun k=>(S (W.length-t) fun i=>cf i*ent (nul c t W) i k)*ent A k j)%p:=zCd fun k hk=>by rw[Jz,←hcf k hk,←Jz]
  have e2:(S N fun k=>(S (W.length-t) fun i=>cf i*ent (nul c t W) i k)*ent A k j)=S (W.length-t) fun i=>cf i*S N fun k=>ent W (t+i) (c+k)*ent A k j:=by
   rw[wC (g:=fun k=>S (W.length-t) fun i=>cf i*(ent W (t+i) (c+k)*ent A k j)) (fun k hk=>by rw[←zNI];exact wC fun i hi=>by rw[zDZ (by omega),H8]),zIU]
   exact wC fun i hi=>by rw[zDs]
  have e3:(S (W.length-t) fun i=>cf i*S N fun k=>ent W (t+i) (c+k)*ent A k j)%p=(S (W.length-t) fun _=>0)%p:=zCd fun i hi=>by have h:=(zWj hp hA hW hs ht h1 h2).1 (tQ (p:=p) (n:=c+N) (R:=W) (i:=t+i) (by omega)) j hj;have hz:=hW.low (t+i) (by omega) j (by have:=h2 (t+i) (by omega) (by omega);omega);simp only[ent]at hz;rw[hz]at h;rw[Jz,show(S N fun k=>ent W (t+i) (c+k)*ent A k j)%p=0 from h.symm,G4]
  rw[e1,e2,e3,qS];rfl
 ·intro h0
  let u:List Int:=mkv (c+N) fun j=>if j<c then 0 else at0 x (j-c)
  have hu1:∀j,j<c→at0 u j=0:=fun j hj=>by rw[yB (by omega),if_pos hj]
  have hu2:∀k,k<N→at0 u (c+k)=at0 x k:=fun k hk=>by rw[yB (by omega),if_neg (by omega),Lq]
  have hg:Gr p c N A u:=fun j hj=>by rw[hu1 j hj,wC (g:=fun k=>at0 x k*ent A k j) (fun k hk=>by rw[hu2 k hk]),h0 j hj];rfl
  have hx:=hW.expand ((zWj hp hA hW hs ht h1 h2).2 hg);refine⟨fun i=>at0 u (pv (t+i)),fun j hj=>?_⟩;have h3:=hx (c+j) (by omega);rw[hu2 j hj,zWh ht (fun i hi=>by rw[hu1 _ (h1 i hi),G8])]at h3;rw[hl,h3];exact congrArg (· %p) (wC fun i hi=>by rw[zDZ (by omega)])
theorem zTI:Red p c (lft c t W) pv:=by
 have _:=hp;have _:=hA;have _:=hs;have _:=h2;have hl:(lft c t W).length=t:=yW;refine⟨fun i hi=>?_,fun i hi=>h1 i (by omega),fun i hi=>?_,fun i hi j hj=>?_,fun i k hi hk hne=>?_,fun i j hij hj=>hW.mono i j hij (by omega)⟩
 ·rw[hl]at hi
  have hr:=hW.row i (by omega);refine⟨by rw[lft,xR hi,Jt,hr.1];omega,fun j hj=>?_⟩;rw[lft,xR hi,jQ hj];exact hr.2 j (by omega)
 ·rw[hl]at hi
  rw[zEa hi (h1 i hi)];exact hW.one _ (by omega)
 ·rw[hl]at hi
  have:=h1 i hi;rw[zEa hi (by omega)];exact hW.low _ (by omega) _ hj
 ·rw[hl]at hi hk
  rw[zEa hk (h1 i hi)];exact hW.off _ _ (by omega) (by omega) hne
theorem zWl(hAl:A.length=N):sV p c (lft c t W) A:=by
 have hl:(lft c t W).length=t:=yW;constructor
 ·intro i hi
  rw[hl]at hi;have hg:=(zWj hp hA hW hs ht h1 h2).1 (tQ (p:=p) (n:=c+N) (R:=W) (i:=i) (by omega));refine⟨fun k=>ent W i (c+k),fun j hj=>?_⟩;rw[hAl,lft,xR hi,jQ hj];exact(hg j hj).symm
 ·intro k hk
  rw[hAl]at hk;obtain⟨cf,hcf⟩:=hs.2 k (by rw[zBw hA];exact hk);refine⟨cf,fun j hj=>?_⟩;have h3:=hcf j (by omega);have e:=zF9 hA hk hj;simp only[ent]at e;rw[e,zTG ht (fun i g1 g2=>by rw[hW.low i g2 j (by have:=h2 i g1 g2;omega),G4])]at h3;rw[hl,←h3];exact congrArg (· %p) (wC fun i hi=>by rw[zEa hi hj])
end
end Go.Pl

namespace Go.Pl
open Go Go.Ab Go.Wk Go.Pc
theorem zEb{v:List Int}(hl:v.length≤1000000):IsB (f_H v) (∀i,i<v.length→at0 v i=0):=by
 refine sC v.length (fun i=>at0 v i=0) rfl (fun i hi _=>?_) ?_
 ·refine vV (o:=some (at0 v i==0)) (IsB.of_bool (by simp)) (by omega) ?_
  unfold zKS;rw[yI hi,zH,yE hi,bs,bs];rfl
 ·unfold zKS
  rw[yS,zE]
end Go.Pl

namespace Go.Pl
open Go Go.Ab Go.Wk Go.Pc
end Go.Pl

namespace Go.Pl
open Go Go.Ab Go.Wk Go.Pc
section
variable {n D:Nat}{m:zC} (hm:MOk n m D) (hn:n≤9)
 include hm hn
def zYn(m:zC)(D:Nat)(rows:Mx):Prop:=∀i,i<rows.length→Row m.Prime D (rows.getD i [])
theorem zJf{rows:Mx}(hl:rows.length≤1048576):IsB (zWC m rows) (zYn m D rows):=by
 have _:=hn;have h3:=hm.d3;refine sC (body:=zLh m rows) rows.length (fun i=>Row m.Prime D (rows.getD i [])) rfl (fun i hi _=>?_) ?_
 ·refine vV (zFh hm.p (D:=D) (by omega)) (by omega) ?_
  unfold zLh;rw[yI hi,zH,yC [] hi,bs,hm.d]
 ·unfold zLh
  rw[yS,zE]
end
end Go.Pl

namespace Go.Pl
open Go Go.Ab Go.Wk Go.Pc
structure Nul (p:Int) (c N:Nat) (A W:Mx) (pv:Nat→Nat) (t:Nat):Prop where
 row:∀i,i<N→Row p c (A.getD i [])
 len:A.length=N
 red:Red p (c+N) W pv
 sp:sV p (c+N) W (wd N A)
 le:t≤W.length
 lo:∀i,i<t→pv i<c
 hi:∀i,t≤i→i<W.length→c≤pv i
section
variable {p:Int} (hp:Prime p) {c N:Nat} (hcN:c+N≤100000) {A W:Mx}{pv:Nat→Nat}{t:Nat}
 include hp hcN
theorem Nul.get(hr:∀i,i<N→Row p c (A.getD i []))(hl:A.length=N):∃W pv t,Nul p c N A W pv t∧f_o p (wd N A)=some W∧f_g p (wd N A)=some W:=by have h7:=hp.pos;obtain⟨W,pv,r1,r2,r3,r4⟩:=zCf hp (n:=c+N) hcN (rows:=wd N A) (by rw[zBw hr];omega) (fun i hi=>zRc (by omega) hr (by rwa [zBw hr]at hi));obtain⟨t,t1,t2,t3⟩:=zWi (by omega) hr r3;exact⟨W,pv,t,⟨hr,hl,r3,r4,t1,t2,t3⟩,r1,r2⟩
variable (h:Nul p c N A W pv t)
 include h
theorem Nul.nred:Red p N (nul c t W) (fun i=>pv (t+i)-c):=by have _:=hcN;have h7:=hp.pos;exact zTH (by omega) h.row h.red h.le h.lo h.hi
theorem Nul.nsp{x:List Int}:Sp p N (nul c t W) x↔ ∀j,j<c→(S N fun k=>at0 x k*ent A k j)%p=0:=by have _:=hcN;have h7:=hp.pos;exact zWk (by omega) h.row h.red h.sp h.le h.lo h.hi
theorem Nul.full:W.length=N:=by
 have h7:=hp.pos;have g1:W.length≤(wd N A).length:=zGL hp (n:=c+N) hcN (by rw[zBw h.row];omega) (fun i hi=>zRc (by omega) h.row (by rwa [zBw h.row]at hi)) h.red h.sp;rw[zBw h.row]at g1;have hl:(gl W.length fun i=>(W.getD i []).drop c).length=W.length:=yW;have hR:∀i,i<W.length→Row p N ((gl W.length fun i=>(W.getD i []).drop c).getD i []):=fun i hi=>by have hr:=h.red.row i hi;rw[xR hi];refine⟨by rw[K8,hr.1];omega,fun j hj=>?_⟩;rw[sG];exact hr.2 (c+j) (by omega)
 obtain⟨R3,pv3,_,_,g3,g4⟩:=zCf hp (n:=N) (by omega) (rows:=gl W.length fun i=>(W.getD i []).drop c) (by omega) (by rw[hl];exact hR);have g5:=zGL hp (n:=N) (by omega) (by omega) (by rw[hl];exact hR) g3 g4;have hul:(gl N (ur N)).length=N:=yW;have hent:∀i j,i<N→j<N→ent (gl N (ur N)) i j=if j=i then 1 else 0:=fun i j hi hj=>by rw[ent,xR hi,ur,yB hj]
 have hid:Red p N (gl N (ur N)) (fun i=>i):=by
  refine⟨fun i hi=>?_,fun i hi=>by omega,fun i hi=>?_,fun i hi j hj=>?_,fun i k hi hk hne=>?_,fun i j hij hj=>hij⟩
  ·rw[hul]at hi
   rw[xR hi];refine⟨zZ _ _,fun j hj=>?_⟩;rw[ur,yB hj];split<;>omega
  ·rw[hul]at hi
   rw[hent i i hi hi,if_pos rfl]
  ·rw[hul]at hi
   rw[hent i j hi (by omega),if_neg (by omega)]
  ·rw[hul]at hi hk
   rw[hent k i hk hi,if_neg (Ne.symm hne)]
 have g6:=hid.le_of (by omega) g3 (fun i hi=>by rw[hul]at hi;refine g4.iff.2 ?_;obtain⟨cf,hcf⟩:=h.sp.2 i (by rw[zBw h.row];exact hi);refine⟨cf,fun j hj=>?_⟩;have h1:=hcf (c+j) (by omega);have h2:=zAW h.row hi hj;simp only[ent]at h2;rw[h2]at h1;have h3:=hent i j hi hj;simp only[ent]at h3;rw[h3,hl,←h1];exact congrArg (· %p) (wC fun k hk=>by rw[ent,xR hk,sG]))
 omega
 omit h in
theorem zMi{N:Nat}(hN:N≤100000):f_K (N:Int)=some (gl N (ur N)):=by
  have _:=hp;have _:=hcN;unfold f_K;rw[jP (body:=zKR (N:Int)) N (ur N) (fun i acc hi ha=>by
    unfold zKR;simp only
    rw[yI hi,zH,yO (by omega),bs,wU,Ki,if_pos hi,bs,J7,uS,qX,yF (by simp;omega),bs,zD (by omega) (by omega),bs,cs];rfl) (fun acc=>by
    unfold zKR;simp only
    rw[yS,zE]),bs]
 omit h in
theorem zEL(hr:∀i,i<N→Row p c (A.getD i []))(hl:A.length=N):zSG p A=f_o p (wd N A):=by
  unfold zSG;rw[hl,zMi hp hcN (by omega),bs,jP (body:=zLg A (gl N (ur N))) N (fun i=>A.getD i []++ur N i) (fun i acc hi ha=>by
    unfold zLg;simp only
    rw[hl,yI hi,zH,yC [] (by omega),bs,tN (by rw[(hr i hi).1];omega),bs,zFj hi,bs,yF (by rw[(hr i hi).1,ur,zZ];omega),bs,yF (by simp;omega),bs,zD (by omega) (by omega),bs,cs]) (fun acc=>by
    unfold zLg;simp only
    rw[hl,yS,zE]),bs]
  show(f_o p (wd N A)).bind _=_;cases f_o p (wd N A)<;>rfl
theorem zIf:zF (zPd (c:Int) W) ([],0)=some (nul c t W):=by
 have hf:=h.full hp hcN;have hle:=h.le;have:=zN (body:=zPd (c:Int) W) (r:=nul c t W) (fun i=>(gl (i-t) (fun k=>(W.getD (t+k) []).drop c),(i:Int))) W.length (fun i hi=>by
  have hr:=h.red.row i hi;have h1:=h.red.one i hi;have hlt:=h.red.lt i hi;have hlead:=zF5 (n:=c+N) hr.1 (by omega) hlt (h.red.low i hi) (by simp only[ent]at h1;omega);unfold zPd;simp only
  rw[yI hi,zH,yC [] hi,bs,hlead,bs];rcases Jf i t with g|g
  ·have:=h.lo i g
   rw[decide_eq_false (by omega),zE,zD (by omega) (by omega),bs,cs,show i-t=0 from by omega,show i+1-t=0 from by omega]
  ·have:=h.hi i g hi
   have e:zQ (W.getD i []) (c:Int) ((W.getD i []).length:Int)=some ((W.getD i []).drop c):=by unfold zQ;rw[if_pos ⟨by omega,by rw[hr.1];omega,by omega⟩,J7,J7,Je (by rw[K8];omega)]
   rw[decide_eq_true (by omega),zH,bs,e,bs,tN (by rw[K8,hr.1];omega),bs,yF (by rw[yW];simp;omega),bs,zD (by omega) (by omega),bs,cs,show i+1-t=(i-t)+1 from by omega,←sM,show t+(i-t)=i from by omega]) (by
  unfold zPd;simp only
  rw[yS,zE];rfl)
 rw[show 0-t=0 from by omega]at this;exact this
end
end Go.Pl

namespace Go.Pl
open Go Go.Ab Go.Wk Go.Pc
end Go.Pl

namespace Go.Pl
open Go Go.Ab Go.Wk Go.Pc
end Go.Pl

namespace Go.Pl
open Go Go.Ab Go.Wk Go.Pc
theorem zGO{α:Type}{f:α→α}{a:α}(h:f a=a):∀k,iter k f a=a
 |0=>rfl
 |k+1=>by show iter k f (f a)=a;rw[h];exact zGO h k
theorem zRd{p:Int}{D:Nat}{A:List Mx}:∀(v:Vec)(o:Nat)(B:Mx),o+v.length≤A.length→wM p D A (nw o v) B=img (PM p D) (A.drop o) v B
 | [],o,B,_=>by simp[nw,wM,img]
 |a::v,o,B,h=>by
  simp only[Jh]at h;have e:A.drop o=A.getD o []::A.drop (o+1):=by rw[Lt (by omega),J2,J3 (by omega)];rfl
  rw[e];simp only[nw,img];rw[zEG,zGI,zRd v (o+1) _ (by omega)]
theorem zKA:∀(k o:Nat),nw o (zeros k)=[]
 |0,_=>rfl
 |k+1,o=>by rw[show zeros (k+1)=0::zeros k from rfl];simp only[nw];rw[zKA k];rfl
section
variable {x:SPr}{m:zC}{D:Nat} (h:Pres x) (hm:zWd x.zA.length m D) (hr:zHp x m D)
 include hm
 include h hr
theorem zNS:∀(d k:Nat),k+d=x.zA.length→Rel (PM m.Prime D) (idM D) (suf x k) (m.zI.drop k)
 |0,k,hk=>by rw[vZ (by omega),Ub (by rw[hm.len];omega)];exact rfl
 |d+1,k,hkd=>by
  have h6:=h.os.1;have hk:k<x.zA.length:=by omega
  have hlen:=hm.len;have e:m.zI.drop k=m.zI.getD k []::m.zI.drop (k+1):=by rw[Lt (by omega),J2,J3 (by omega)];rfl
  obtain⟨t1,t2,t3⟩:=h.tl k hk;obtain⟨r1,r2⟩:=hr k hk;have hword:∀v,Exp x.zA v k→wM m.Prime D m.zI (nw 0 v) (idM D)=img (PM m.Prime D) (m.zI.drop (k+1)) (v.drop (k+1)) (idM D):=fun v hv=>by
   have hl:=hv.1.1
   conv=>lhs;rw[zAO hv hk]
   rw[zEF,zKA,Jp,zS,zRd _ _ _ (by rw[K8];omega),Jd]
  rw[yK hk,e];refine⟨?_,fun q c dd hc hd=>?_,zNS d (k+1) (by omega)⟩
  ·show pw (PM m.Prime D) (idM D) (m.zI.getD k []) (lvl x k).o.toNat=img (PM m.Prime D) (m.zI.drop (k+1)) ((x.zT.getD k []).drop (k+1)) (idM D)
   rw[←hword _ t1,←r1,zGI];rfl
  ·rw[Ko]at hc
   have hq:k+1+q<m.zI.length:=by
    rcases Jf (k+1+q) m.zI.length with g|g
    ·exact g
    ·rw[Jn g]at hc;simp at hc
   have hcm:c=m.zI.getD (k+1+q) []:=by rw[J2,hc];rfl
   have hdm:dd=((x.zB.getD k []).getD q []).drop (k+1):=by
    simp only[lvl,Ju]at hd;rw[J2];cases hg:(x.zB.getD k [])[q]? with
    |none=>rw[hg]at hd;simp at hd
    |some u=>rw[hg]at hd;simp only[Hs,Lw.injEq]at hd;exact hd.symm
   have:=r2 (k+1+q) (by omega) (by omega);rw[show k+1+q-(k+1)=q from by omega]at this;rw[hcm,hdm,this,hword _ (t3 q (by omega))]
end
end Go.Pl

namespace Go.Pl
open Go Go.Ab Go.Wk Go.Pc
theorem tH{p:Int}{c N:Nat}(hcN:c+N≤100000){A:Mx}(hr:∀i,i<N→Row p c (A.getD i []))(hl:A.length=N):zSD A=some (wd N A):=by
 unfold zSD;rw[jP (body:=zLb A) N (fun i=>A.getD i []++ur N i) (fun i acc hi ha=>by
  have h1:=(hr i hi).1;have e:xU (J1 (c+N) (0:Int)) 0 ((A.getD i []).take (((J1 (c+N) (0:Int)).length)-0))=A.getD i []++J1 N 0:=by
   unfold xU;rw[Jy,Je (l:=A.getD i []) (by omega),Jx,Jp,h1,Li]
   congr 2;omega
  have e2:ixO (A.getD i []++J1 N (0:Int)) ((c+i:Nat):Int)=some 0:=by rw[wU,J8 (by omega),h1,Ki,if_pos (by omega)]
  unfold zLb;simp only
  rw[hl,yI hi,zH,yC [] (by omega),bs,h1,←H1,zD (by omega) (by omega),bs,yO (by omega),bs,←H1,zD (by omega) (by omega),bs,e,e2,bs,J7,Hf _ _ (by omega),h1,Lq,uS,qX,yF (by simp;omega),bs,zD (by omega) (by omega),bs,cs];rfl) (fun acc=>by
  unfold zLb;simp only
  rw[hl,yS,zE]),bs]
 rfl
end Go.Pl

namespace Go.Pl
open Go Go.Ab Go.Wk Go.Pc
theorem zCg{p:Int}(hp:Prime p){n:Nat}(hn:n≤100000){R:Mx}{pv:Nat→Nat}(h:Red p n R pv):f_o p R=some R∧f_g p R=some R:=by have h7:=hp.pos;have hl:R.length≤n:=h.len_le;obtain⟨R2,pv2,r1,r2,r3,r4⟩:=zCf hp hn (rows:=R) (by omega) h.row;have e:=r3.unique (by omega) h r4;rw[e]at r1 r2;exact⟨r1,r2⟩
section
variable {p:Int} (hp:Prime p) {c N:Nat} (hcN:c+N≤100000) {A W:Mx}{pv:Nat→Nat}{t:Nat}
 include hp hcN
theorem zCh(h:Nul p c N A W pv t):zF (zPp (c:Int) W) ([],0)=some (nul c t W):=by
 have h7:=hp.pos;have hf:=h.full hp hcN;have hle:=h.le;have:=zN (body:=zPp (c:Int) W) (r:=nul c t W) (fun i=>(gl (i-t) (fun k=>(W.getD (t+k) []).drop c),(i:Int))) W.length (fun i hi=>by
  have hr:=h.red.row i hi;have h1:=h.red.one i hi;have e0:zQ (W.getD i []) 0 (c:Int)=some ((W.getD i []).take c):=by unfold zQ;rw[if_pos ⟨by omega,by omega,by rw[hr.1];omega⟩,J7,show(0:Int).toNat=0 from rfl,Hx,Hb]
  have htl:((W.getD i []).take c).length=c:=by rw[Jt,hr.1];omega
  have hz:=zEb (v:=(W.getD i []).take c) (by omega);unfold zPp;simp only
  rw[yI hi,zH,yC [] hi,bs,e0,bs];rcases Jf i t with g|g
  ·have hlo:=h.lo i g
   rcases hz with⟨_,z⟩|⟨z,_⟩
   ·have:=z (pv i) (by omega)
    rw[jQ hlo]at this;simp only[ent]at h1;omega
   ·rw[z,bs,zE,zD (by omega) (by omega),bs,cs,show i-t=0 from by omega,show i+1-t=0 from by omega]
  ·have hhi:=h.hi i g hi
   have e:zQ (W.getD i []) (c:Int) ((W.getD i []).length:Int)=some ((W.getD i []).drop c):=by unfold zQ;rw[if_pos ⟨by omega,by rw[hr.1];omega,by omega⟩,J7,J7,Je (by rw[K8];omega)]
   rcases hz with⟨z,_⟩|⟨_,z⟩
   ·rw[z,bs,zH,e,bs,yF (by rw[yW];simp;omega),bs,zD (by omega) (by omega),bs,cs,show i+1-t=(i-t)+1 from by omega,←sM,show t+(i-t)=i from by omega]
   ·refine absurd (fun j hj=>?_) z
    rw[htl]at hj;rw[jQ hj];have:=h.red.low i hi j (by omega);simpa only[ent]using this) (by
  unfold zPp;simp only
  rw[yS,zE];rfl)
 rw[show 0-t=0 from by omega]at this;exact this
theorem zIg(hr:∀i,i<N→Row p c (A.getD i []))(hl:A.length=N):∃K pk,f_N p A (c:Int)=some K∧f_G p A (c:Int)=some K∧Red p N K pk∧ ∀x,Sp p N K x↔ ∀j,j<c→(S N fun k=>at0 x k*ent A k j)%p=0:=by
 obtain⟨W,pv,t,h1,h2,h3⟩:=Nul.get hp hcN hr hl;refine⟨nul c t W,_,?_,?_,h1.nred hp hcN,fun x=>h1.nsp hp hcN⟩
 ·unfold f_N
  rw[zEL hp hcN hr hl,h2,bs,zIf hp hcN h1,bs]
 ·unfold f_G
  rw[tH hcN hr hl,bs,h3,bs,zCh hp hcN h1,bs,(zCg hp (by omega) (h1.nred hp hcN)).2,bs]
end
end Go.Pl

namespace Go.Pl
open Go Go.Ab Go.Wk Go.Pc
section
variable {x:SPr} (h:Pres x)
 include h
theorem zRe:∀k,k≤x.zA.length→2*((Jq k).flatMap (R2 x)).length+k*k+k=2*(x.zA.length*k)
 |0,_=>by simp
 |k+1,hk=>by
  have ih:=zRe k (by omega);have t2:=(h.tl k (by omega)).2.1;have e:((Jq (k+1)).flatMap (R2 x)).length=((Jq k).flatMap (R2 x)).length+(x.zB.getD k []).length:=by rw[Kv,L8,J6];simp[R2]
  have e3:(k+1)*(k+1)=k*k+2*k+1:=by rw[Ja0 (k+1) k,Kf k k];omega
  have e4:x.zA.length*(k+1)=x.zA.length*k+x.zA.length:=Ja0 _ _;rw[e,e3,e4];omega
theorem zIh:2*(xN x).length=x.zA.length*(x.zA.length+1):=by have:=zRe h x.zA.length (Ji _);simp only[xN,J6,Jl,L9];rw[Ja0];omega
theorem zRf:∀i,(BL x i).length=i+((Jq i).flatMap (R2 x)).length
 |0=>by have _:=h;simp[BL]
 |i+1=>by rw[zJb,J6,zRf i,Jh,Kv,L8,J6];simp;omega
theorem zTJ:(BL x x.zA.length).length=(xN x).length:=by rw[zRf h];simp only[xN,J6,Jl,L9]
theorem zAb:zMC x=some ((xN x).length:Int):=by
 have h6:=h.os.1;have h2:=zIh h;have hnn:x.zA.length*(x.zA.length+1)≤9*10:=Kn h6 (by omega);unfold zMC;have e1:rng ((x.zA.length:Int)+1)=some ((x.zA.length+1:Nat):Int):=by rw[zD (by omega) (by omega),cs]
 have e2:rng ((x.zA.length:Int)*((x.zA.length+1:Nat):Int))=some (2*((xN x).length:Int)):=by rw[←Ld,←h2,zD (by omega) (by omega)];simp
 have e3:vR (2*((xN x).length:Int)) 2=some ((xN x).length:Int):=by unfold vR;rw[if_neg (by omega),Int.tdiv_eq_ediv_of_nonneg (by omega),show(2*((xN x).length:Int))/2=((xN x).length:Int)from by omega,zD (by omega) (by omega)]
 rw[e1,bs,e2,bs,e3,bs]
end
theorem zKB{α:Type}{F:α→List Int}{D c:Nat}(hc:c<D):∀(L:List α)(a:Nat)(q:α),(∀q∈L,(F q).length=D)→L[a]? =some q→at0 ((L.map F).flatten) (a*D+c)=at0 (F q) c
 | [],a,q,_,h=>by simp at h
 |y::L,0,q,hF,h=>by simp at h;subst h;have:=hF y (by simp);rw[Jk,H4,U5,Jd,kJ,if_pos (by omega)]
 |y::L,a+1,q,hF,h=>by have h1:=hF y (by simp);simp only[Uw]at h;rw[Jk,H4,kJ,Kf,if_neg (by omega),show a*D+D+c-(F y).length=a*D+c from by omega];exact zKB hc L a q (fun q hq=>hF q (by simp[hq])) h
theorem zEM{α:Type}{F:α→List Int}{D:Nat}:∀(L:List α),(∀q∈L,(F q).length=D)→((L.map F).flatten).length=L.length*D
 | [],_=>by simp
 |y::L,h=>by
  have:=zEM L fun q hq=>h q (by simp[hq])
  have:=h y (by simp);simp only[Jk,H4,J6,Jh,Kf];omega
def zAc{α:Type}(N:Nat)(F:Nat→α→List Int)(L:List α):Mx:=gl N fun k=>(L.map (F k)).flatten
section
variable {α:Type}{p:Int}{N D:Nat}{F:Nat→α→List Int} (hF:∀k,k<N→ ∀q,Row p D (F k q))
 include hF
theorem zEN(L:List α):∀k,k<N→Row p (L.length*D) ((zAc N F L).getD k []):=by intro k hk;rw[zAc,xR hk];refine zF6.2 ⟨zEM L fun q _=>(hF k hk q).1,fun v hv=>?_⟩;obtain⟨r,h1,h2⟩:=Jaz.1 hv;obtain⟨q,_,rfl⟩:=Jg.1 h1;exact(zF6.1 (hF k hk q)).2 v h2
theorem zKC{L:List α}{y:List Int}:(∀j,j<L.length*D→(S N fun k=>at0 y k*ent (zAc N F L) k j)%p=0)↔ ∀q∈L,∀c,c<D→(S N fun k=>at0 y k*at0 (F k q) c)%p=0:=by
 have key:∀(a c:Nat)(q:α),L[a]? =some q→c<D→(S N fun k=>at0 y k*ent (zAc N F L) k (a*D+c))=S N fun k=>at0 y k*at0 (F k q) c:=fun a c q ha hc=>wC fun k hk=>by rw[ent,zAc,xR hk,zKB hc L a q (fun q _=>(hF k hk q).1) ha]
 constructor
 ·intro h q hq c hc
  obtain⟨a,ha,e⟩:=Ks.1 hq;have h1:a*D+D≤L.length*D:=by have:=L5 D (show a+1≤L.length by omega);rw[Kf]at this;exact this
  rw[←key a c q (by rw[J3 ha,e]) hc];exact h _ (by omega)
 ·intro h j hj
  have hD:0<D:=by
   rcases Up D with g|g
   ·subst g;omega
   ·exact g
  have ha:j/D<L.length:=Nat.div_lt_of_lt_mul (by rw[Qb];exact hj);have hc:j%D<D:=Nat.mod_lt _ hD;have e:j=(j/D)*D+j%D:=by have:=Jar j D;rw[Qb]at this;omega
  rw[e,key (j/D) (j%D) L[j/D] (J3 ha) hc];exact h _ (K9 ha) _ hc
theorem zOI(hp:Prime p){L1 L2:List α}(h1:L1.length*D+N≤100000)(h2:L2.length*D+N≤100000)(hm:∀q,q∈L1↔q∈L2):
  ∃K pk,f_N p (zAc N F L1) ((L1.length*D:Nat):Int)=some K∧f_G p (zAc N F L2) ((L2.length*D:Nat):Int)=some K∧Red p N K pk:=by
 have h7:=hp.pos;obtain⟨K1,p1,a1,_,a3,a4⟩:=zIg hp h1 (zEN hF L1) yW;obtain⟨K2,p2,_,b2,b3,b4⟩:=zIg hp h2 (zEN hF L2) yW;have hs:∀y,Sp p N K1 y↔Sp p N K2 y:=fun y=>by rw[a4,b4,zKC hF,zKC hF];exact⟨fun g q hq=>g q ((hm q).2 hq),fun g q hq=>g q ((hm q).1 hq)⟩
 have e:=a3.unique (by omega) b3 ⟨fun i hi=>(hs _).1 (tQ hi),fun i hi=>(hs _).2 (tQ hi)⟩;exact⟨K1,p1,a1,by rw[e];exact b2,a3⟩
end
def qE(n D:Nat)(v:List Int):Mx:=gl n fun i=>mkv D fun j=>at0 v (i*D+j)
theorem zRg{v:List Int}{D a:Nat}(h:a+D≤v.length):(v.drop a).take D=mkv D fun j=>at0 v (a+j):=by
 have hl:((v.drop a).take D).length=D:=by rw[Jt,K8];omega
 rw[wY hl];exact zW fun j hj=>by rw[jQ hj,sG]
theorem zIi{v:List Int}{D a:Nat}(h:a+D≤v.length):zQ v (a:Int) ((a+D:Nat):Int)=some (mkv D fun j=>at0 v (a+j)):=by unfold zQ;rw[if_pos ⟨by omega,by omega,by omega⟩,J7,J7,Lq,zRg h]
theorem zWm{p:Int}{n D:Nat}{v:List Int}(hv:Row p (n*D) v):VOk n p D (qE n D v):=by
 refine⟨yW,fun i hi=>?_⟩;rw[qE,xR hi];refine⟨zZ _ _,fun j hj=>?_⟩;rw[yB hj];have:i*D+D≤n*D:=by have:=L5 D (show i+1≤n by omega);rw[Kf]at this;exact this
 exact hv.2 _ (by omega)
end Go.Pl

namespace Go.Pl
open Go Go.Ab Go.Wk Go.Pc
theorem zNT{p:Int}{n:Nat}{R R':Mx}{pv:Nat→Nat}{v:List Int}:∀i,(∀k,k<i→R.getD k []=R'.getD k [])→cl p n R pv v i=cl p n R' pv v i
 |0,_=>rfl
 |i+1,h=>by rw[cl,cl,zNT i fun k hk=>h k (by omega),h i (by omega)]
theorem Red.sub{p:Int}{n:Nat}{R:Mx}{pv:Nat→Nat}(h:Red p n R pv){t:Nat}(ht:t≤R.length):Red p n (gl t fun i=>R.getD i []) pv:=by
 have hl:(gl t fun i=>R.getD i []).length=t:=yW;have he:∀i j,i<t→ent (gl t fun i=>R.getD i []) i j=ent R i j:=fun i j hi=>by rw[ent,xR hi]
 refine⟨fun i hi=>?_,fun i hi=>h.lt i (by omega),fun i hi=>?_,fun i hi j hj=>?_,fun i k hi hk hne=>?_,fun i j hij hj=>h.mono i j hij (by omega)⟩
 ·rw[hl]at hi
  rw[xR hi];exact h.row i (by omega)
 ·rw[hl]at hi
  rw[he _ _ hi];exact h.one i (by omega)
 ·rw[hl]at hi
  rw[he _ _ hi];exact h.low i (by omega) j hj
 ·rw[hl]at hi hk
  rw[he _ _ hk];exact h.off i k (by omega) (by omega) hne
end Go.Pl

namespace Go.Pl
open Go Go.Ab Go.Wk Go.Pc
theorem zNU{n D i:Nat}(hi:i<n):i*D+D≤n*D:=by have:=L5 D (show i+1≤n by omega);rw[Kf]at this;exact this
theorem zDw{n D:Nat}(hD:1≤D){v:List Int}(hl:v.length=n*D)(hs:n*D≤100000):f_V v (D:Int)=some (qE n D v):=by
 have hn:n≤n*D:=G5 n hD;have:=zN (body:=zPe v (D:Int)) (r:=qE n D v) (fun i=>(gl i fun i=>mkv D fun j=>at0 v (i*D+j),((i*D:Nat):Int))) n (fun i hi=>by
  have h1:=zNU (D:=D) hi;unfold zPe;simp only
  rw[decide_eq_true (by omega),zH,←H1,zD (by omega) (by omega),bs,zIi (by omega),bs,sO (by rw[zZ];omega),bs,yF (by rw[yW];simp;omega),bs,bs,sM,←Kf]) (by
  unfold zPe;simp only
  rw[decide_eq_false (by omega),zE];rfl)
 unfold f_V;rw[show((0*D:Nat):Int)=0 from by simp]at this;have e:zF (zPe v (D:Int)) ([],0)=some (qE n D v):=this;rw[e,bs]
theorem zGP{n D:Nat}(hD:1≤D)(hD3:D≤1000){v:List Int}(hl:v.length=n*D)(hs:n*D≤100000):f_Q v (D:Int)=some (qE n D v):=by
 have hn:n≤n*D:=G5 n hD;have:=zN (body:=zPq v (D:Int)) (r:=qE n D v) (fun i=>(gl i fun i=>mkv D fun j=>at0 v (i*D+j),((i*D:Nat):Int))) n (fun i hi=>by
  have h1:=zNU (D:=D) hi;unfold zPq;simp only
  rw[←H1,zD (by omega) (by omega),bs,decide_eq_true (by omega),zH,bs,zIi (by omega),bs,tN (by rw[zZ];omega),bs,yF (by rw[yW];simp;omega),bs,bs,sM,←Kf]) (by
  unfold zPq;simp only
  rw[←H1,zD (by omega) (by omega),bs,decide_eq_false (by omega),zE];rfl)
 unfold f_Q;rw[show((0*D:Nat):Int)=0 from by simp]at this;have e:zF (zPq v (D:Int)) ([],0)=some (qE n D v):=this;rw[e,bs]
section
variable {x:SPr} (h:Pres x) {m:zC}{D:Nat} (hm:MOk x.zA.length m D)
 include h hm
section
variable {vals:Mx} (hv:VOk x.zA.length m.Prime D vals)
 include hv
theorem zMj:f_p x m vals=some ((xN x).map (dfc m D vals)):=by
 have h6:=h.os.1;have h7:=hm.p.pos;have h3:=hm.d3;have hpl:=h.pl;have hcl:=h.cl;have hz:=zEJ (p:=m.Prime) (D:=D) (by omega);unfold f_p;rw[hm.d,yO (by omega),bs];have e1:=jP (body:=zSU x m vals D) x.zA.length (fun i=>dfc m D vals (r1 x i)) (fun i acc hi ha=>by
  obtain⟨p1,p2⟩:=uW h.os (h.tl i hi).1;have ho:=(h.os.2 i hi).pos;unfold zSU;simp only
  rw[yI hi,zH];rw[wT (S:=Row m.Prime D) (body:=zST x m vals (acc,(i:Int))) (fun v=>v) (fun v=>stp m D vals v i) (at0 x.zA i) (by omega) (fun v _=>sL hm h6 hv) (fun u q hu hq=>by
   unfold zST;simp only
   rw[yE hi,bs,decide_eq_true hq,zH,tV hm h6 hv hu hi,bs,zD (by omega) (by omega),bs,cs]) (fun u hu=>by
   unfold zST;simp only
   rw[yE hi,bs,decide_eq_false (by omega),zE]) hz,bs,zD (by omega) (by omega),bs,yC [] (by omega),bs,zAr hm h6 hv hz p1 p2,bs,←zIZ]
  have e1:f_n m.Prime (ev m D vals (z0 D) (J1 (at0 x.zA i).toNat i)) (m.Prime-1) (ev m D vals (z0 D) (nw 0 (x.zT.getD i [])))=some (dfc m D vals (r1 x i)):=by rw[wZ hm.p (zA3 hm h6 hv hz _) (zA3 hm h6 hv hz _) (by omega) (by omega),zAa];rfl
  rw[e1,bs,yF (by simp;omega),bs,zD (by omega) (by omega),bs,cs]) (fun acc=>by
  unfold zSU;simp only
  rw[yS,zE])
 rw[e1,bs];have hfm:=zGK h;have e2:=zN (body:=zPr x m vals D) (r:=(xN x).map (dfc m D vals)) (fun i=>(((Jq x.zA.length).map (fun i=>dfc m D vals (r1 x i)))++((Jq i).flatMap (R2 x)).map (dfc m D vals),(i:Int))) x.zA.length (fun i hi=>by
  have t2:=(h.tl i hi).2.1;have hfi:=hfm i (by omega);unfold zPr;simp only
  rw[yI hi,zH,zD (by omega) (by omega),bs,cs];have hin:=zN (body:=zSV x m vals D (((Jq x.zA.length).map (fun i=>dfc m D vals (r1 x i)))++((Jq i).flatMap (R2 x)).map (dfc m D vals),(i:Int)))
   (r:=((Jq x.zA.length).map (fun i=>dfc m D vals (r1 x i)))++((Jq (i+1)).flatMap (R2 x)).map (dfc m D vals))
   (fun j=>(((Jq x.zA.length).map (fun i=>dfc m D vals (r1 x i)))++((Jq i).flatMap (R2 x)).map (dfc m D vals)++(Jq j).map (fun j=>dfc m D vals (r2 x i j)),((i+1+j:Nat):Int))) (x.zB.getD i []).length (fun j hj=>by
   obtain⟨c1,c2⟩:=uW h.os ((h.tl i hi).2.2 j hj);have hjn:i+1+j<x.zA.length:=by omega
   have s1:=tV hm h6 hv hz hjn;have s2:=tV hm h6 hv (sL hm h6 hv (v:=z0 D) (w:=i+1+j)) hi;have s3:=tV hm h6 hv hz hi;have s4:=zAr hm h6 hv (sL hm h6 hv (v:=z0 D) (w:=i)) c1 c2;unfold zSV;simp only
   rw[yI hjn,zH,s1,bs,s2,bs,s3,bs,yC [] (by omega),bs,zD (by omega) (by omega),bs,zD (by omega) (by omega),bs,show(((i+1+j:Nat):Int)-(i:Int)-1)=(j:Int)from by omega,yC [] hj,bs,s4,bs,zD (by omega) (by omega),bs];have e2:f_n m.Prime (stp m D vals (stp m D vals (z0 D) (i+1+j)) i) (m.Prime-1) (ev m D vals (stp m D vals (z0 D) i) (nw 0 ((x.zB.getD i []).getD j [])))=some (dfc m D vals (r2 x i j)):=by rw[wZ hm.p (sL hm h6 hv) (zA3 hm h6 hv (sL hm h6 hv) _) (by omega) (by omega),zAa];simp only[dfc,r2,ev,List.foldl_cons,Gy];rw[show i+j+1=i+1+j from by omega]
   rw[e2,bs,yF (by simp only[J6,Jl,L9,G6];omega),bs,zD (by omega) (by omega),bs,cs,Kv,Lg,Jc];rfl) (by
   unfold zSV;simp only
   rw[show i+1+(x.zB.getD i []).length=x.zA.length from by omega,yS,zE,Kv (n:=i),L8,Lg,←Jc];simp[R2])
  simp only[Gj,Lr,J9,G7]at hin;rw[hin,bs,bs]) (by
  unfold zPr;simp only
  rw[yS,zE];simp only[xN,Lg,Jb0];rfl)
 simp only[Gj,Ga,Lr,J9]at e2;have e3:zF (zPr x m vals D) ((Jq x.zA.length).map (fun i=>dfc m D vals (r1 x i)),0)=some ((xN x).map (dfc m D vals)):=e2;rw[e3,bs]
end
def uv(n D k:Nat):Mx:=qE n D (sU (n*D) k)
theorem zIj{k:Nat}:VOk x.zA.length m.Prime D (uv x.zA.length D k):=by have _:=h;have h7:=hm.p.pos;exact zWm (zOF h7.1)
theorem zRh:∀k,k<x.zA.length*D→ ∀q,Row m.Prime D (dfc m D (uv x.zA.length D k) q):=fun k _ q=>by have _:=h;exact tP hm.p
theorem zRi{k:Nat}:f_V (sU (x.zA.length*D) k) (D:Int)=some (uv x.zA.length D k):=by have h6:=h.os.1;have h3:=hm.d3;have hnd:x.zA.length*D≤9*3:=Kn h6 h3;exact zDw hm.d1 (zZ _ _) (by omega)
theorem zRj{k:Nat}:f_Q (sU (x.zA.length*D) k) (D:Int)=some (uv x.zA.length D k):=by have h6:=h.os.1;have h3:=hm.d3;have hnd:x.zA.length*D≤9*3:=Kn h6 h3;exact zGP hm.d1 (by omega) (zZ _ _) (by omega)
theorem zDx{vals:Mx}{L:List Rl}:((L.map (dfc m D vals)).flatten).length=L.length*D:=by have _:=h;have _:=hm;exact zEM L fun q _=>zAU
theorem jW:zSW x m=some (zAc (x.zA.length*D) (fun k=>dfc m D (uv x.zA.length D k)) (xN x)):=by
 have h6:=h.os.1;have h3:=hm.d3;have hnd:x.zA.length*D≤9*3:=Kn h6 h3;have hrl:=zF3 h hm (zIj h hm (k:=0));have hrD:(xN x).length*D≤100*3:=Kn hrl h3;unfold zSW;rw[hm.d,←Ld,zD (by omega) (by omega),bs];rw[jP (body:=zLr x m ((x.zA.length*D:Nat):Int)) (x.zA.length*D) (fun k=>((xN x).map (dfc m D (uv x.zA.length D k))).flatten) (fun k acc hk ha=>by
  unfold zLr;simp only
  rw[yI hk,zH,zB8 hk (by omega),bs,hm.d,zRi h hm,bs,zJa h hm (zIj h hm (k:=k)),bs,jM (by simp;omega) (by rw[zDx h hm];omega),bs,yF (by simp;omega),bs,zD (by omega) (by omega),bs,cs]) (fun acc=>by
  unfold zLr;simp only
  rw[yS,zE]),bs]
 rfl
theorem zIk{k N:Nat}:(J1 N (0:Int)).set k 1=sU N k:=by have _:=h;have _:=hm;rw[uS,qX,sU]
theorem zKD:zU5 x m=some (zAc (x.zA.length*D) (fun k=>dfc m D (uv x.zA.length D k)) (xN x)):=by
 have h6:=h.os.1;have h3:=hm.d3;have hnd:x.zA.length*D≤9*3:=Kn h6 h3;have hrl:=zF3 h hm (zIj h hm (k:=0));have hrD:(xN x).length*D≤100*3:=Kn hrl h3;unfold zU5;rw[hm.d,←Ld,zD (by omega) (by omega),bs];rw[jP (body:=zLq x m ((x.zA.length*D:Nat):Int)) (x.zA.length*D) (fun k=>((xN x).map (dfc m D (uv x.zA.length D k))).flatten) (fun k acc hk ha=>by
  unfold zLq;simp only
  rw[yI hk,zH,yO (by omega),bs,wU,Ki,if_pos hk,bs,J7,zIk h hm,hm.d,zRj h hm,bs,zMj h hm (zIj h hm (k:=k)),bs,zEK (by simp;omega) (by rw[zDx h hm];omega),bs,yF (by simp;omega),bs,zD (by omega) (by omega),bs,cs]) (fun acc=>by
  unfold zLq;simp only
  rw[yS,zE]),bs]
 rfl
theorem zTK(hn:x.zA.length=0):(BL x x.zA.length).length=0:=by have _:=hm;have _:=h;rw[hn];rfl
theorem zRk:zSX x m=(f_N m.Prime (zAc (x.zA.length*D) (fun k=>dfc m D (uv x.zA.length D k)) (BL x x.zA.length)) (((BL x x.zA.length).length*D:Nat):Int)):=by
 have h6:=h.os.1;have h3:=hm.d3;have h1:=hm.d1;have hnd:x.zA.length*D≤9*3:=Kn h6 h3;unfold zSX;rw[hm.d,←Ld,zD (by omega) (by omega),bs];have:=zN (body:=zIs x m ((x.zA.length*D:Nat):Int)) (r:=(zAc (x.zA.length*D) (fun k=>dfc m D (uv x.zA.length D k)) (BL x x.zA.length),(((BL x x.zA.length).length*D:Nat):Int)))
  (fun k=>(gl k fun k=>((BL x x.zA.length).map (dfc m D (uv x.zA.length D k))).flatten,if k=0 then 0 else(((BL x x.zA.length).length*D:Nat):Int),(k:Int))) (x.zA.length*D) (fun k hk=>by
  unfold zIs;simp only
  rw[yI hk,zH,yO (by omega),bs,wU,Ki,if_pos hk,bs,J7,zIk h hm,hm.d,zRj h hm,bs,zOA h hm (zIj h hm (k:=k)),bs,yF (by rw[yW];simp;omega),bs,zD (by omega) (by omega),bs,cs,if_neg (by omega:¬k+1=0),sM,zDx h hm]) (by
  unfold zIs;simp only
  rw[yS,zE]
  by_cases h0:x.zA.length*D=0
  ·rw[if_pos h0]
   have hn0:x.zA.length=0:=by
    rcases Nat.mul_eq_zero.1 h0 with g|g
    ·exact g
    ·omega
   rw[zTK h hm hn0,U5];rfl
  ·rw[if_neg h0];rfl)
 have e:zF (zIs x m ((x.zA.length*D:Nat):Int)) ([],0,0)=some (zAc (x.zA.length*D) (fun k=>dfc m D (uv x.zA.length D k)) (BL x x.zA.length),(((BL x x.zA.length).length*D:Nat):Int)):=this;rw[e,bs];simp only
 cases f_N m.Prime (zAc (x.zA.length*D) (fun k=>dfc m D (uv x.zA.length D k)) (BL x x.zA.length)) (((BL x x.zA.length).length*D:Nat):Int)<;>rfl
theorem zMk:∃K pk,zSX x m=some K∧zPs x m=some K∧Red m.Prime (x.zA.length*D) K pk:=by have h6:=h.os.1;have h3:=hm.d3;have hnd:x.zA.length*D≤9*3:=Kn h6 h3;have hrl:=zF3 h hm (zIj h hm (k:=0));have hrD:(xN x).length*D≤100*3:=Kn hrl h3;have hbl:=zTJ h;obtain⟨K,pk,k1,k2,k3⟩:=zOI (p:=m.Prime) (zRh h hm) hm.p (L1:=BL x x.zA.length) (L2:=xN x) (by rw[hbl];omega) (by omega) (fun q=>zWe);refine⟨K,pk,by rw[zRk h hm];exact k1,?_,k3⟩;unfold zPs;rw[jW h hm,bs,zAb h,bs,hm.d,←Ld,zD (by omega) (by omega),bs,k2,bs]
end
end Go.Pl

namespace Go.Pl
open Go Go.Ab Go.Wk Go.Pc
theorem zMl{L:Mx}(h6:L.length≤9)(h:∀r∈L,r.length≤3):S2 L:=by have:=zNQ (c:=c1) (b:=3) (xs:=L) h;simp only[S2,c2];omega
theorem zOJ{n D:Nat}{v:List Int}(hn:n≤9)(hD:D≤3):S2 (qE n D v):=by
 refine zMl (by rw[qE,yW];omega) fun r hr=>?_
 obtain⟨i,_,rfl⟩:=Jg.1 hr;rw[zZ];exact hD
theorem zRl{v:List Int}{k:Nat}(hl:v.length≤1000000)(hk:k<v.length)(h0:∀j,j<k→at0 v j=0)(h1:at0 v k≠0):zU8 v=some (k:Int):=by
 unfold zU8;have:=zN (body:=zIt v) (r:=.inr (k:Int)) (fun i=>(i:Int)) k (fun i hi=>by
  unfold zIt zU7;rw[yI (by omega),zH,yE (by omega),bs,bs,h0 i hi,bne_self_eq_false,zE,zD (by omega) (by omega),bs,cs]) (by
  unfold zIt zU7;rw[yI hk,zH,yE hk,bs,bs,qC h1,zH])
 have e:zF (zIt v) 0=some (.inr (k:Int)):=this;rw[e,bs]
theorem zIl{b:List Int}{N:Nat}(h:b.length+N≤1000000):wI b (N:Int) (0:Int)=some (b++J1 N 0):=by unfold wI;rw[if_pos ⟨by omega,by rw[J7];omega⟩,J7]
section
variable {p:Int} (hp:Prime p) {c N:Nat} (hcN:c+N≤100000) {A W:Mx}{pv:Nat→Nat}{t:Nat} (h:Nul p c N A W pv t)
 include hp hcN h
def sy(p:Int)(c N:Nat)(W:Mx)(pv:Nat→Nat)(b:List Int)(t:Nat):List Int:=cl p (c+N) W pv (b++J1 N 0) t
def sx(p:Int)(c N:Nat)(W:Mx)(pv:Nat→Nat)(b:List Int)(t:Nat):List Int:=mkv N fun j=>(0-at0 (sy p c N W pv b t) (c+j))%p
theorem zJg{b:List Int}(hb:Row p c b):Row p (c+N) (b++J1 N 0):=by
 have _:=hcN;have _:=h;have h7:=hp.pos;refine⟨by rw[J6,hb.1,Jy],fun j hj=>?_⟩;rw[kJ,hb.1];split
 ·next g=>exact hb.2 j g
 ·next g=>
  have:at0 (J1 N (0:Int)) (j-c)=0:=by simp[at0,J2,show j-c<N by omega]
  rw[this];omega
theorem zEO{b:List Int}(hb:Row p c b)(t:Nat):Row p (c+N) (sy p c N W pv b t):=zBv hp hcN h.red (zJg hp hcN h hb) t
theorem zJh{b:List Int}:Row p N (sx p c N W pv b t):=by have _:=hcN;have _:=h;have h7:=hp.pos;refine⟨zZ _ _,fun j hj=>?_⟩;rw[sx,yB hj];have e1:=Lm (0-at0 (sy p c N W pv b t) (c+j)) (show p≠0 by omega);have e2:=Kx (0-at0 (sy p c N W pv b t) (c+j)) (show 0<p by omega);omega
theorem zGQ{y:List Int}(hy:y.length=c+N):zQ y 0 (c:Int)=some (y.take c):=by have _:=hp;have _:=hcN;have _:=h;unfold zQ;rw[if_pos ⟨by omega,by omega,by omega⟩,J7,show(0:Int).toNat=0 from rfl,Hx,Hb]
theorem zBx{y:List Int}(hy:y.length=c+N):zQ y (c:Int) ((c+N:Nat):Int)=some (y.drop c):=by have _:=hp;have _:=hcN;have _:=h;unfold zQ;rw[if_pos ⟨by omega,by omega,by omega⟩,J7,J7,Je (by rw[K8];omega)]
theorem zOK:zF (zPt (c:Int) W) ([],0)=some (gl t fun i=>W.getD i []):=by
 have hf:=h.full hp hcN;have hle:=h.le;have:=zN (body:=zPt (c:Int) W) (r:=gl t fun i=>W.getD i []) (fun i=>(gl (min i t) (fun i=>W.getD i []),(i:Int))) W.length (fun i hi=>by
  have hr:=h.red.row i hi;have h1:=h.red.one i hi;have hlt:=h.red.lt i hi;have hlead:=zF5 (n:=c+N) hr.1 (by omega) hlt (h.red.low i hi) (by simp only[ent]at h1;omega);unfold zPt;simp only
  rw[yI hi,zH,yC [] hi,bs,hlead,bs];rcases Jf i t with g|g
  ·have:=h.lo i g
   rw[decide_eq_true (by omega),zH,bs,yF (by rw[yW];simp;omega),bs,zD (by omega) (by omega),bs,cs,Lp (by omega),Lp (by omega:i+1≤t),sM]
  ·have:=h.hi i g hi
   rw[decide_eq_false (by omega),zE,zD (by omega) (by omega),bs,cs,Hj g,Hj (by omega:t≤i+1)]) (by
  unfold zPt;simp only
  rw[yS,zE,Hj hle])
 rw[Jc7]at this;exact this
theorem zKE{b:List Int}(hb:Row p c b):zF (zPu (zU.mk p (c:Int) A) W) (b++J1 N 0,0)=some (sy p c N W pv b t):=by
 have h7:=hp.pos;have hf:=h.full hp hcN;have hle:=h.le;have hv:=zJg hp hcN h hb;have:=zN (body:=zPu (zU.mk p (c:Int) A) W) (r:=sy p c N W pv b t) (fun i=>(sy p c N W pv b (min i t),(i:Int))) W.length (fun i hi=>by
  have hr:=h.red.row i hi;have h1:=h.red.one i hi;have hlt:=h.red.lt i hi;have hix:=zRl (v:=W.getD i []) (k:=pv i) (by rw[hr.1];omega) (by rw[hr.1];exact hlt) (h.red.low i hi) (by simp only[ent]at h1;omega);unfold zPu;simp only
  rw[yI hi,zH,yC [] hi,bs,hix,bs];rcases Jf i t with g|g
  ·have:=h.lo i g
   have hy:=zEO hp hcN h hb i;have ha:=hy.2 (pv i) hlt;rw[decide_eq_true (by omega),zH,Lp (by omega),yE (by rw[hy.1];exact hlt),bs,zD (by omega) (by omega),bs,sT hp hy hr (by omega) (by omega),bs,zD (by omega) (by omega),bs,cs,Lp (by omega:i+1≤t)];rw[sy,zRb hp hcN h.red hv hi];rfl
  ·have:=h.hi i g hi
   rw[decide_eq_false (by omega),zE,zD (by omega) (by omega),bs,cs,Hj g,Hj (by omega:t≤i+1)]) (by
  unfold zPu;simp only
  rw[yS,zE,Hj hle])
 rw[Jc7]at this;exact this
def ng(p:Int)(c N:Nat)(y:List Int)(i:Nat):List Int:=mkv (c+N) fun j=>if c≤j∧j<c+i then(0-at0 y j)%p else at0 y j
theorem zRm{y:List Int}(hy:Row p (c+N) y):zF (zPv (zU.mk p (c:Int) A) y) (y,0)=some (ng p c N y N):=by
 have h7:=hp.pos;have hyl:=hy.1;have:=zN (body:=zPv (zU.mk p (c:Int) A) y) (r:=ng p c N y N) (fun i=>(ng p c N y i,(i:Int))) N (fun i hi=>by
  have hl:(ng p c N y i).length=c+N:=zZ _ _;have hdl:((ng p c N y i).drop c).length=N:=by rw[K8,hl];omega
  have he:at0 ((ng p c N y i).drop c) i=at0 y (c+i):=by rw[sG,ng,yB (by omega),if_neg (by omega)]
  have hb:=hy.2 (c+i) (by omega);unfold zPv;simp only
  rw[J7,J7,hyl,Lq,yI hi,zH,zBx hp hcN h hl,bs,yE (by omega),bs,he,zD (by omega) (by omega),bs,zFi hp (by omega) (by omega),bs,bs,yE (by omega),bs,zD (by omega) (by omega),bs,cs,←H1,J7]
  congr 3
  rw[ng,qX];refine zW fun j hj=>?_
  by_cases e:j=c+i
  ·subst e;rw[if_pos rfl,if_pos ⟨by omega,by omega⟩]
  ·rw[if_neg e]
   by_cases e2:c≤j∧j<c+i
   ·rw[if_pos e2,if_pos ⟨e2.1,by omega⟩]
   ·rw[if_neg e2,if_neg (by omega)]) (by
  unfold zPv;simp only
  rw[J7,J7,hyl,Lq,yS,zE])
 have e:ng p c N y 0=y:=by
  conv=>rhs;rw[wY hyl]
  exact zW fun j _=>if_neg (by omega)
 rw[e]at this;exact this
theorem zRn{b:List Int}:(ng p c N (sy p c N W pv b t) N).drop c=sx p c N W pv b t:=by
 have _:=hp;have _:=hcN;have _:=h;have hl:((ng p c N (sy p c N W pv b t) N).drop c).length=N:=by rw[K8,ng,zZ];omega
 rw[wY hl];refine zW fun j hj=>?_
 rw[sG,ng,yB (by omega),if_pos ⟨by omega,by omega⟩]
theorem zMm{b:List Int}:(mkv N fun j=>(at0 ((sy p c N W pv b t).drop c) j*(p-1))%p)=sx p c N W pv b t:=by
 have _:=hp;have _:=hcN;have _:=h;refine zW fun j hj=>?_
 rw[sG]
 generalize at0 (sy p c N W pv b t) (c+j)=a
 have e:a*(p-1)=(0-a)+p*a:=by rw[Jcd,Hq a p];omega
 rw[e,Ky]
theorem zBy(h2:f_o p (wd N A)=some W){b:List Int}(hb:Row p c b):f_R p A (c:Int) b=(zSM ((sy p c N W pv b t).take c)).bind fun r13=>cond (!r13) (some ([],false)) (some (cl p N (nul c t W) (fun i=>pv (t+i)-c) (sx p c N W pv b t) (nul c t W).length,true)):=by
 have h7:=hp.pos;have hr:=h.row;have hl:=h.len;have hf:=h.full hp hcN;have hle:=h.le;have hy:=zEO hp hcN h hb t;have hK:=h.nred hp hcN;have hKl:(nul c t W).length≤N:=hK.len_le;have hx:=zJh hp hcN h (b:=b);have hleft:cl p (c+N) (gl t fun i=>W.getD i []) pv (b++J1 N 0) (gl t fun i=>W.getD i []).length=sy p c N W pv b t:=by rw[yW,sy];exact zNT t fun k hk=>xR hk
 have hnull:f_N p A (c:Int)=some (nul c t W):=by unfold f_N;rw[zEL hp hcN hr hl,h2,bs,zIf hp hcN h,bs]
 have hdl:Row p N ((sy p c N W pv b t).drop c):=by refine⟨by rw[K8,hy.1];omega,fun j hj=>?_⟩;rw[sG];exact hy.2 _ (by omega)
 have hgl:(gl t fun i=>W.getD i []).length=t:=yW;unfold f_R;rw[zEL hp hcN hr hl,h2,bs,tN (by rw[hb.1];omega),bs,hl,zIl (by rw[hb.1];omega),bs,zOK hp hcN h,bs,zDu hp hcN (h.red.sub hle) (zJg hp hcN h hb) (by omega),bs,hleft,zGQ hp hcN h hy.1,bs,zD (by omega) (by omega),bs,hy.1,zBx hp hcN h hy.1,bs,zDv hp (by omega) hdl (by omega) (by omega),bs,hnull,bs,zMm hp hcN h,zDu hp (by omega) hK hx (by omega),bs]
 omit h in
theorem zMn(hr:∀i,i<N→Row p c (A.getD i []))(hl:A.length=N){b:List Int}(hb:Row p c b):∃r ok,f_R p A (c:Int) b=some (r,ok)∧f_B (zU.mk p (c:Int) A) b=some (r,ok)∧r.length≤N:=by
  have h7:=hp.pos;obtain⟨W,pv,t,h,h2,h3⟩:=Nul.get hp hcN hr hl;have hf:=h.full hp hcN;have hle:=h.le;have hy:=zEO hp hcN h hb t;have hK:=h.nred hp hcN;have hKl:(nul c t W).length≤N:=hK.len_le;have hx:=zJh hp hcN h (b:=b);have hcl:=zBv hp (by omega) hK hx (nul c t W).length;have hker:f_G p A (c:Int)=some (nul c t W):=by unfold f_G;rw[tH hcN hr hl,bs,h3,bs,zCh hp hcN h,bs,(zCg hp (by omega) hK).2,bs]
  have htl:((sy p c N W pv b t).take c).length=c:=by rw[Jt,hy.1];omega
  have es:=zBy hp hcN h h2 hb;have ei:f_B (zU.mk p (c:Int) A) b=(f_H ((sy p c N W pv b t).take c)).bind fun r13=>cond (!r13) (some ([],false)) (some (cl p N (nul c t W) (fun i=>pv (t+i)-c) (sx p c N W pv b t) (nul c t W).length,true)):=by
    unfold f_B zWF;simp only
    rw[sO (by rw[hb.1];omega),bs,hl,zIl (by rw[hb.1];omega),bs,tH hcN hr hl,bs,h3,bs,zKE hp hcN h hb,bs,zGQ hp hcN h hy.1,bs,hy.1,zBx hp hcN h hy.1,bs,zRm hp hcN h hy,bs,hker,bs,bs,zBx hp hcN h (y:=ng p c N (sy p c N W pv b t) N) (zZ _ _),bs,zRn hp hcN h,zGN hp (by omega) hK hx (by omega),bs]
  rw[es,ei];rcases(zAV (v:=(sy p c N W pv b t).take c) (by omega)).both (zEb (by omega))with⟨z1,z2,_⟩|⟨z1,z2,_⟩
  · rw[z1,z2,bs,Jj,zE]
    exact⟨_,_,rfl,rfl,by rw[hcl.1];omega⟩
  · rw[z1,z2,bs,Js,zH]
    exact⟨_,_,rfl,rfl,by simp⟩
end
end Go.Pl

namespace Go.Pl
open Go Go.Ab Go.Wk Go.Pc
end Go.Pl

namespace Go.Pl
open Go Go.Ab Go.Wk Go.Pc
theorem zGR{N c:Nat}{f:Nat→Int}:(mkv N f).drop c=mkv (N-c) fun i=>f (c+i):=by
 have hl:((mkv N f).drop c).length=N-c:=by rw[K8,zZ]
 rw[wY hl];exact zW fun j hj=>by rw[sG,yB (by omega)]
theorem jR{n j:Nat}:wL n j=mkv n fun i=>if i=j then 1 else 0:=by rw[wL,show zeros n=J1 n (0:Int)from rfl,uS,qX]
theorem uC{n i:Nat}:at0 (zeros n) i=0:=by
 rcases Jf i n with g|g
 ·simp[zeros,at0,J2,g]
 ·simp[zeros,at0,J2,g]
theorem zCO.p{x:SPr}(h:zCO x)(hl:x.zA.length≤9):Pres x:=⟨⟨hl,h.os.2⟩,h.pl,h.cl,h.tl⟩
structure ExB (n D:Nat) (x:SPr) (m:zC) (T:Mx):Prop where
 hn:n≤6
 o:x.zA.length=n
 p:x.zT.length=n
 c:x.zB.length=n
 cl:∀i,i<n→(x.zB.getD i []).length=n-1-i
 t:T.length=base n n
 m:zWd n m D
theorem zJe.b{n D:Nat}{x:SPr}{m:zC}{T:Mx}(h:zJe n D x m T)(hm:MOk n m D):ExB n D x m T:=⟨h.hn,h.o,h.p,h.c,h.cl,h.t,hm.b⟩
section
variable {D:Nat}{x:SPr}{m:zC}{T:Mx} (h:Pres x) (hE:ExB x.zA.length D x m T) (hT:∀i,i<T.length→Row m.Prime D (T.getD i []))
 include h hE hT
abbrev exx(D:Nat)(x:SPr)(m:zC)(T:Mx):SPr:=ext x.zA.length D x m T
theorem uD:(exx D x m T).zA.length=x.zA.length+D:=by have _:=h;have _:=hE;have _:=hT;simp[exx,ext]
theorem zC5{i:Nat}(hi:i<x.zA.length):at0 (exx D x m T).zA i=at0 x.zA i:=by have _:=h;have _:=hE;have _:=hT;show at0 (x.zA++J1 D m.Prime) i=_;rw[kJ,if_pos hi]
theorem zBz{i:Nat}(hi:x.zA.length≤i)(h2:i<x.zA.length+D):at0 (exx D x m T).zA i=m.Prime:=by have _:=h;have _:=hE;have _:=hT;show at0 (x.zA++J1 D m.Prime) i=_;rw[kJ,if_neg (by omega)];simp[at0,J2,show i-x.zA.length<D by omega]
theorem zMo{v t:List Int}{i:Nat}(hv:v.length=x.zA.length)(hr:∀j,j<x.zA.length→0≤at0 v j∧at0 v j≤at0 x.zA j-1)(hz:∀j,j≤i→j<x.zA.length→at0 v j=0)(ht:Row m.Prime D t)(hi:i<x.zA.length):Exp (exx D x m T).zA (v++t) i:=by
 have hl:=uD h hE hT;refine⟨⟨by rw[J6,hv,ht.1,hl],fun j hj=>?_⟩,fun j hj=>?_⟩
 ·rw[J6,hv,ht.1]at hj
  rw[kJ,hv];split
  ·next g=>rw[zC5 h hE hT g];exact hr j g
  ·next g=>rw[zBz h hE hT (by omega) hj];exact ht.2 _ (by omega)
 ·rw[kJ,if_pos (by omega)];exact hz j hj (by omega)
theorem zKF(i:Nat)(hi:i<base x.zA.length x.zA.length):Row m.Prime D (T.getD i []):=by have _:=h;exact hT i (by rw[hE.t];exact hi)
theorem zFA:zCO (exx D x m T):=by
 have hn:=hE.hn;have h3:=hE.m.d3;have h7:=hE.m.p.pos;have hl:=uD h hE hT;have hb:=sF x.zA.length (by omega);refine⟨⟨trivial,fun i hi=>?_⟩,by rw[hl];exact yW,by rw[hl];exact yW,fun i hi=>?_⟩
 ·rw[hl]at hi
  rcases Jf i x.zA.length with g|g
  ·rw[zC5 h hE hT g];exact h.os.2 i g
  ·rw[zBz h hE hT g hi];exact hE.m.p
 ·rw[hl]at hi
  have hP:(exx D x m T).zT.getD i []=exP x.zA.length D x T i:=xR hi;have hC:(exx D x m T).zB.getD i []=exC x.zA.length D x m T i:=by show(gl (x.zA.length+D) (exC x.zA.length D x m T)).getD i []=_;simp[gl,J2,hi]
  refine⟨?_,?_,?_⟩
  ·rw[hP,exP]
   rcases Jf i x.zA.length with g|g
   ·rw[if_pos g]
    obtain⟨t1,_,_⟩:=h.tl i g;exact zMo h hE hT t1.1.1 (fun j hj=>t1.1.2 j (by rw[t1.1.1];exact hj)) (fun j hj _=>t1.2 j hj) (zKF h hE hT i (by omega)) g
   ·rw[if_neg (by omega)]
    have hz:∀j,at0 (J1 (x.zA.length+D) (0:Int)) j=0:=fun j=>uC
    refine⟨⟨by rw[hl,Jy],fun j hj=>?_⟩,fun j _=>hz j⟩;rw[Jy]at hj;rw[hz];rcases Jf j x.zA.length with g2|g2
    ·rw[zC5 h hE hT g2];have:=(h.os.2 j g2).pos;omega
    ·rw[zBz h hE hT g2 hj];omega
  ·rw[hC,exC,hl]
   split
   ·rw[yW];omega
   ·rw[unC,yW];omega
  ·rw[hC,exC]
   split
   ·next g=>
    intro j hj;rw[yW]at hj;rw[xR hj,exF];split
    ·next g2=>
     have hcl:=hE.cl i g;have hbl:=zF7 x.zA.length (by omega) i g;obtain⟨_,_,t3⟩:=h.tl i g;have t:=t3 j (by omega);exact zMo h hE hT t.1.1 (fun q hq=>t.1.2 q (by rw[t.1.1];exact hq)) (fun q hq _=>t.2 q hq) (zKF h hE hT _ (by omega)) g
    ·next g2=>
     have hz:∀j,at0 (J1 x.zA.length (0:Int)) j=0:=fun j=>uC
     refine zMo h hE hT (by simp) (fun q hq=>?_) (fun q _ _=>hz q) ((hE.m.mat i g).2 _ (by omega)) g;rw[hz];have:=(h.os.2 q hq).pos;omega
   ·next g=>
    intro j hj;rw[unC,yW]at hj;rw[unC,xR hj];refine⟨⟨by rw[hl];exact zZ _ _,fun q hq=>?_⟩,fun q hq=>?_⟩
    ·rw[sU,zZ]at hq
     rw[sU,yB hq];rcases Jf q x.zA.length with g2|g2
     ·rw[zC5 h hE hT g2];have:=(h.os.2 q g2).pos;split<;>omega
     ·rw[zBz h hE hT g2 hq];split<;>omega
    ·rw[sU,yB (by omega),if_neg (by omega)]
theorem zGS{k:Nat}(hk:k<x.zA.length):(lvl (exx D x m T) k).o=at0 x.zA k:=zC5 h hE hT hk
theorem zVk{k:Nat}(hk:k<x.zA.length):(lvl (exx D x m T) k).w=(lvl x k).w++T.getD k []:=by have t1:=(h.tl k hk).1.1.1;have _:=hE;have _:=hT;show((exx D x m T).zT.getD k []).drop (k+1)=_;have hP:(exx D x m T).zT.getD k []=exP x.zA.length D x T k:=xR (by omega);rw[hP,exP,if_pos hk,L4 (by omega)];rfl
def eC1(x:SPr)(T:Mx)(k:Nat):List Vec:=gl (x.zA.length-1-k) fun j=>(lvl x k).cs.getD j []++T.getD (base x.zA.length k+j) []
def eC2(x:SPr)(m:zC)(D k:Nat):List Vec:=((gl D fun j=>(m.zI.getD k []).getD j []).map fun r=>zeros (x.zA.length-1-k)++r)
theorem zGT{k:Nat}(hk:k<x.zA.length):(lvl (exx D x m T) k).cs=eC1 x T k++eC2 x m D k:=by
 have hcl:=hE.cl k hk;have _:=hT;show((exx D x m T).zB.getD k []).map (·.drop (k+1))=_;have hC:(exx D x m T).zB.getD k []=exC x.zA.length D x m T k:=by show(gl (x.zA.length+D) (exC x.zA.length D x m T)).getD k []=_;simp[gl,J2,show k<x.zA.length+D by omega]
 rw[hC,exC,if_pos hk];apply La;intro j
 by_cases hj:j<x.zA.length+D-1-k
 ·have e1:((gl (x.zA.length+D-1-k) (exF x.zA.length x m T k)).map (·.drop (k+1)))[j]? =some ((exF x.zA.length x m T k j).drop (k+1)):=by simp[gl,hj]
  rw[e1,exF]
  by_cases g:j<x.zA.length-1-k
  ·rw[if_pos g,Jo (by rw[eC1,yW];exact g)]
   have t:=(h.tl k hk).2.2 j (by omega);rw[L4 (by have:=t.1.1;omega)];have e2:(eC1 x T k)[j]? =some ((lvl x k).cs.getD j []++T.getD (base x.zA.length k+j) []):=by simp[eC1,gl,g]
   rw[e2]
   congr 2
   simp only[lvl,J2,Ju];rw[J3 (l:=x.zB[k]?.getD []) (by rw[J2]at hcl;omega)];rfl
  ·rw[if_neg g,J8 (by rw[eC1,yW];omega),eC1,yW]
   have e2:(eC2 x m D k)[j-(x.zA.length-1-k)]? =some (zeros (x.zA.length-1-k)++(m.zI.getD k []).getD (j-(x.zA.length-1-k)) []):=by simp[eC2,gl,show j-(x.zA.length-1-k)<D by omega]
   rw[e2,L4 (by simp;omega),Li,show x.zA.length-(k+1)=x.zA.length-1-k from by omega];rfl
 ·rw[Jn (by simp[gl];omega),Jn (by simp[eC1,eC2,gl];omega)]
end
def tlv(p:Int):Nat→Pcp
 |0=>[]
 |d+1=>⟨p,zeros d,xS d⟩::tlv p d
theorem zFB{p:Int}:∀d,(tlv p d).length=d
 |0=>rfl
 |d+1=>by simp[tlv,zFB d]
theorem zFk{p:Int}:∀(d:Nat)(v:Vec),V (tlv p d) v↔Row p d v
 |0,v=>by
  constructor
  ·intro h
   obtain rfl:v=[]:=h;exact⟨rfl,fun i hi=>by omega⟩
  ·intro h
   have:=Jw h.1;subst this;exact rfl
 |d+1,v=>by
  cases v with
  |nil=>exact⟨fun h=>h.elim,fun h=>by have:=h.1;simp at this⟩
  |cons a v=>
   show((0≤a∧a<p)∧V (tlv p d) v)↔_;rw[zFk d v];constructor
   ·rintro⟨⟨h0,h1⟩,h2⟩
    refine⟨by simp[h2.1],fun i hi=>?_⟩;cases i with
    |zero=>simp only[at0,H9];omega
    |succ i=>have:=h2.2 i (by omega);simpa[at0]using this
   ·intro h
    have h0:=h.2 0 (by omega);simp only[at0,H9]at h0;refine⟨⟨h0.1,by omega⟩,by have:=h.1;simpa using this,fun i hi=>?_⟩;have:=h.2 (i+1) (by omega);simpa[at0]using this
abbrev adv(p:Int)(D:Nat)(u v:List Int):List Int:=mkv D fun j=>(at0 u j+at0 v j)%p
theorem zAt{p:Int}{D:Nat}{u v:List Int}(hp:0<p):Row p D (adv p D u v):=by refine⟨zZ _ _,fun j hj=>?_⟩;rw[yB hj];have e1:=Lm (at0 u j+at0 v j) (show p≠0 by omega);have e2:=Kx (at0 u j+at0 v j) hp;omega
theorem zGU{p:Int}{D:Nat}{c:List Int}(hp:0<p):∀(k:Nat)(acc:List Int),Row p D acc→iter k (fun w=>adv p D w c) acc=mkv D fun j=>(at0 acc j+(k:Int)*at0 c j)%p
 |0,acc,ha=>by
  show acc=_
  conv=>lhs;rw[wY ha.1]
  refine zW fun j hj=>?_
  have:=ha.2 j hj;rw[Int.natCast_zero,G8,U7,K6 this.1 (by omega)]
 |k+1,acc,ha=>by
  show iter k (fun w=>adv p D w c) (adv p D acc c)=_;rw[zGU hp k _ (zAt hp)];refine zW fun j hj=>?_
  rw[yB hj,Km,Kb,←Km,←cs,Qo]
  congr 1;omega
theorem zWn{f:Nat→Int}{n:Nat}:S (n+1) f=f 0+S n fun i=>f (i+1):=by
 rw[Jc9,zF8 1 n];simp only[S];rw[Ku]
 congr 1
 exact wC fun i _=>by rw[Jc9]
theorem zFC{p:Int}{D:Nat}(hp:0<p):∀(cs:List Vec)(v acc:Vec),v.length=cs.length→(∀i,i<v.length→0≤at0 v i)→Row p D acc→img (adv p D) cs v acc=mkv D fun j=>(at0 acc j+S cs.length fun k=>at0 v k*ent cs k j)%p
 | [],v,acc,hl,_,ha=>by
  show acc=_
  conv=>lhs;rw[wY ha.1]
  refine zW fun j hj=>?_
  have:=ha.2 j hj;simp only[Lu,S];rw[U7,K6 this.1 (by omega)]
 |c::cs,[],acc,hl,_,_=>by simp at hl
 |c::cs,a::v,acc,hl,hv,ha=>by
  have h0:=hv 0 (by simp);simp only[at0,H9]at h0;have hrow:Row p D (iter a.toNat (fun w=>adv p D w c) acc):=vD (S:=Row p D) (fun _ _=>zAt hp) _ ha;show img (adv p D) cs v (iter a.toNat (fun w=>adv p D w c) acc)=_;rw[zFC hp cs v _ (by simpa using hl) (fun i hi=>by have:=hv (i+1) (by simpa using hi);simpa[at0]using this) hrow,zGU hp _ _ ha];refine zW fun j hj=>?_
  rw[yB hj,Jh,zWn,Km,Kb,←Km,H6 h0,Qp];rfl
theorem zC6{α:Type}{S:α→Prop}{m m':α→α→α}(hm:∀a b,S a→S b→m a b=m' a b)(hc:∀a b,S a→S b→S (m' a b)):∀(cs:List α)(v:Vec)(acc:α),(∀c∈cs,S c)→S acc→img m cs v acc=img m' cs v acc
 | [],_,_,_,_=>by simp[img]
 |c::cs,[],_,_,_=>by simp[img]
 |c::cs,a::v,acc,h1,h2=>by
  have hcS:=h1 c (by simp);have e:∀k acc,S acc→iter k (fun w=>m w c) acc=iter k (fun w=>m' w c) acc∧S (iter k (fun w=>m' w c) acc):=by
   intro k
   induction k with
   |zero=>intro acc ha;exact⟨rfl,ha⟩
   |succ k ih=>
    intro acc ha;show iter k (fun w=>m w c) (m acc c)=iter k (fun w=>m' w c) (m' acc c)∧_;rw[hm acc c ha hcS];exact ih _ (hc _ _ ha hcS)
  show img m cs v (iter a.toNat (fun w=>m w c) acc)=img m' cs v (iter a.toNat (fun w=>m' w c) acc);rw[(e _ _ h2).1];exact zC6 hm hc cs v _ (fun c hc=>h1 c (by simp[hc])) (e _ _ h2).2
theorem zC7{d k j:Nat}(hk:k<d)(hj:j<d):ent (xS d) k j=if j=k then 1 else 0:=by
 have e:(xS d).getD k []=wL d k:=by simp[xS,J2,hk]
 rw[ent,e,jR,yB hj]
theorem tS{p:Int}{D:Nat}(hp:0<p):Row p D (zeros D):=zEJ hp
theorem jA{p:Int}(hp:2≤p):∀(d:Nat)(u v:Vec),Row p d u→Row p d v→mul (tlv p d) u v=adv p d u v
 |0,u,v,hu,_=>by have:=Jw hu.1;subst this;rfl
 |d+1,u,v,hu,hv=>by
  have ih:=jA hp d;have hu':=(zFk (d+1) u).2 hu;have hv':=(zFk (d+1) v).2 hv;cases u with
  |nil=>exact hu'.elim
  |cons a u=>
   cases v with
   |nil=>exact hv'.elim
   |cons b v=>
    obtain⟨⟨a0,a1⟩,hu2⟩:=hu';obtain⟨⟨b0,b1⟩,hv2⟩:=hv';have hu3:=(zFk d u).1 hu2;have hv3:=(zFk d v).1 hv2;change a<p at a1;change b<p at b1;have hsig:∀w,Row p d w→sig (tlv p d) ⟨p,zeros d,xS d⟩ w=w:=fun w hw=>by
     have hur:∀c∈xS d,Row p d c:=fun c hc=>by obtain⟨k,hk,rfl⟩:=Jg.1 hc;rw[jR];exact⟨zZ _ _,fun j hj=>by rw[yB hj];split<;>omega⟩
     unfold sig;rw[zFB,zC6 (S:=Row p d) (m':=adv p d) (fun a b ha hb=>ih a b ha hb) (fun _ _ _ _=>zAt (by omega)) (xS d) w _ hur (tS (by omega)),zFC (by omega) (xS d) w _ (by rw[hw.1];simp[xS]) (fun i hi=>(hw.2 i (by rw[←hw.1];exact hi)).1) (tS (by omega))]
     conv=>rhs;rw[wY hw.1]
     refine zW fun j hj=>?_
     have hul:(xS d).length=d:=by simp[xS]
     have:=hw.2 j hj;rw[hul,uC,Ku,zAS (k:=j) hj (fun k hk hne=>by rw[zC7 hk hj,if_neg (Ne.symm hne),G4]),zC7 hj hj,if_pos rfl,Hc,K6 this.1 (by omega)]
    have hit:∀k,iter k (sig (tlv p d) ⟨p,zeros d,xS d⟩) u=u:=fun k=>zGO (hsig u hu3) k
    show mul (⟨p,zeros d,xS d⟩::tlv p d) (a::u) (b::v)=_;rw[yU,hit,ih u v hu3 hv3];have hz:adv p d (zeros d) (adv p d u v)=adv p d u v:=by
     refine zW fun j hj=>?_
     rw[yB hj,uC,Ku,Kb]
    rw[ih _ _ (tS (by omega)) (zAt (by omega)),hz];have hcons:adv p (d+1) (a::u) (b::v)=(a+b)%p::adv p d u v:=by
     simp only[adv,mkv,Jal,Jk,Jb0]
     congr 1
    rw[hcons];split
    ·next g=>
     have g:a+b≥p:=g;have e:(a+b)%p=a+b-p:=by rw[show a+b=(a+b-p)+p from by omega,U9,K6 (by omega) (by omega)];omega
     exact congrArg (· ::_) e.symm
    ·next g=>
     have g:¬a+b≥p:=g
     congr 1
     exact(K6 (by omega) (by omega)).symm
end Go.Pl

namespace Go.Pl
open Go Go.Ab Go.Wk Go.Pc
theorem zNV{α:Type}{m:α→α→α}:∀(c1:List α)(y:Vec)(c2:List α)(u:Vec)(acc:α),c1.length=y.length→img m (c1++c2) (y++u) acc=img m c2 u (img m c1 y acc)
 | [],[],_,_,_,_=>by cases ‹List α›<;>rfl
 | [],_::_,_,_,_,h=>by simp at h
 |_::_,[],_,_,_,h=>by simp at h
 |c::c1,a::y,c2,u,acc,h=>zNV c1 y c2 u _ (by simpa using h)
theorem zGV{α β:Type}{S:α→Prop}{m:α→α→α}{n:β→β→β}(φ:α→β)(hS:∀a b,S a→S b→S (m a b))(hm:∀a b,S a→S b→φ (m a b)=n (φ a) (φ b)):∀(cs:List α)(v:Vec)(a:α),(∀c∈cs,S c)→S a→φ (img m cs v a)=img n (cs.map φ) v (φ a)
 | [],v,a,_,_=>by cases v<;>rfl
 |_::_,[],_,_,_=>rfl
 |c::cs,t::v,a,hc,ha=>by
  have hcS:=hc c (by simp);have e:∀k a,S a→φ (iter k (fun w=>m w c) a)=iter k (fun w=>n w (φ c)) (φ a)∧S (iter k (fun w=>m w c) a):=by
   intro k
   induction k with
   |zero=>intro a ha;exact⟨rfl,ha⟩
   |succ k ih=>
    intro a ha;have:=ih (m a c) (hS _ _ ha hcS);rw[hm a c ha hcS]at this;exact this
  show φ (img m cs v (iter t.toNat (fun w=>m w c) a))=img n (cs.map φ) v (iter t.toNat (fun w=>n w (φ c)) (φ a));rw[←(e _ a ha).1];exact zGV φ hS hm cs v _ (fun c h=>hc c (by simp[h])) (e _ a ha).2
theorem zKG{p:Int}{D:Nat}{r:List Int}(hr:Row p D r):tO p D r (idM D)=r:=by
 conv=>rhs;rw[wY hr.1]
 refine zW fun j hj=>?_
 have:=hr.2 j hj;have e:∀l,l<D→ent (idM D) l j=if j=l then 1 else 0:=fun l hl=>by rw[ent,zC2 hl,yB hj]
 rw[zAS (k:=j) hj (fun k hk hne=>by rw[e k hk,if_neg (Ne.symm hne),G4]),e j hj,if_pos rfl,Hc,kL this]
theorem zNW{p:Int}{D:Nat}{r:List Int}{A B:Mx}(hA:A.length=D):tO p D (tO p D r A) B=tO p D r (PM p D A B):=by
 refine zW fun j hj=>?_
 have e1:S D (fun l=>at0 (tO p D r A) l*ent B l j)%p=S D (fun l=>S D (fun i=>at0 r i*ent A i l)*ent B l j)%p:=zCd fun l hl=>by rw[tO,yB hl,Jz,Kb,←Jz]
 have e2:S D (fun l=>at0 r l*ent (PM p D A B) l j)%p=S D (fun i=>at0 r i*S D (fun l=>ent A i l*ent B l j))%p:=zCd fun l hl=>by rw[zLT hA hl hj,Jz,Kb,←Jz]
 rw[e1,e2]
 congr 1
 have e3:S D (fun l=>S D (fun i=>at0 r i*ent A i l)*ent B l j)=S D (fun l=>S D (fun i=>at0 r i*ent A i l*ent B l j)):=wC fun l _=>(zNI _ _).symm
 rw[e3,zIU];refine wC fun i _=>?_
 rw[←zDs];exact wC fun l _=>by rw[H8]
theorem zMp{p:Int}{D:Nat}{v:List Int}(hv:Row p D v):adv p D (zeros D) v=v:=by
 conv=>rhs;rw[wY hv.1]
 refine zW fun j hj=>?_
 rw[uC,Ku,kL (hv.2 j hj)]
theorem zRo{p:Int}{D:Nat}{acc v:List Int}{A:Mx}(hl:A.length=D):(mkv D fun j=>(at0 acc j+S A.length fun k=>at0 v k*ent A k j)%p)=adv p D acc (tO p D v A):=by
 refine zW fun j hj=>?_
 rw[tO,yB hj,hl,Int.add_emod_emod]
theorem zCi{p:Int}{D:Nat}{u v:List Int}:adv p D u v=adv p D v u:=zW fun j _=>by rw[Int.add_comm]
section
variable {D:Nat}{x:SPr}{m:zC}{T:Mx} (h:Pres x) (hE:ExB x.zA.length D x m T) (hT:∀i,i<T.length→Row m.Prime D (T.getD i []))
 include h hE hT
theorem zB0:∀(d k:Nat),x.zA.length≤k→k+d=x.zA.length+D→suf (exx D x m T) k=tlv m.Prime d
 |0,k,hk,hd=>by rw[vZ (by rw[uD h hE hT];omega)];rfl
 |d+1,k,hk,hd=>by
  have hl:=uD h hE hT;rw[yK (by omega),zB0 d (k+1) (by omega) (by omega),tlv]
  congr 1
  have hP:(exx D x m T).zT.getD k []=exP x.zA.length D x T k:=xR (by omega);have hC:(exx D x m T).zB.getD k []=exC x.zA.length D x m T k:=by show(gl (x.zA.length+D) (exC x.zA.length D x m T)).getD k []=_;simp[gl,J2,show k<x.zA.length+D by omega]
  unfold lvl;rw[hP,hC,exP,exC,if_neg (by omega),if_neg (by omega),zBz h hE hT hk (by omega),Li,show x.zA.length+D-(k+1)=d from by omega]
  congr 1
  rw[unC,xS,gl,Jb0,show x.zA.length+D-1-k=d from by omega];refine Q7 fun j hj=>?_
  have hj:=Lb.1 hj;show(sU (x.zA.length+D) (k+1+j)).drop (k+1)=wL d j;rw[sU,zGR,jR,show x.zA.length+D-(k+1)=d from by omega];refine zW fun i _=>?_
  by_cases g:i=j
  ·rw[if_pos g,if_pos (by omega)]
  ·rw[if_neg g,if_neg (by omega)]
theorem zCT:∀(d k:Nat),k+d=x.zA.length→ ∀v,V (suf (exx D x m T) k) v↔ ∃y u,v=y++u∧V (suf x k) y∧Row m.Prime D u
 |0,k,hk,v=>by
  rw[zB0 h hE hT D k (by omega) (by omega),zFk,vZ (x:=x) (k:=k) (by omega)];constructor
  ·intro g;exact⟨[],v,rfl,rfl,g⟩
  ·rintro⟨y,u,rfl,hy,hu⟩
   obtain rfl:y=[]:=hy;exact hu
 |d+1,k,hk,v=>by
  have hl:=uD h hE hT;have ih:=zCT d (k+1) (by omega);rw[yK (x:=exx D x m T) (by omega),yK (x:=x) (by omega)];cases v with
  |nil=>
   refine⟨fun g=>g.elim,?_⟩
   rintro⟨y,u,e,hy,hu⟩
   cases y with
   |nil=>exact hy.elim
   |cons a y=>simp at e
  |cons a v=>
   show((0≤a∧a<(lvl (exx D x m T) k).o)∧V (suf (exx D x m T) (k+1)) v)↔_;rw[zGS h hE hT (by omega),ih v];constructor
   ·rintro⟨g,y,u,rfl,hy,hu⟩
    exact⟨a::y,u,rfl,⟨g,hy⟩,hu⟩
   ·rintro⟨y,u,e,hy,hu⟩
    cases y with
    |nil=>exact hy.elim
    |cons b y=>
     simp only[Kh,Jb7.injEq]at e;obtain⟨rfl,rfl⟩:=e;exact⟨hy.1,y,u,rfl,hy.2,hu⟩
theorem zIm:∀(d k:Nat),k+d=x.zA.length→ ∀y u r,V (suf x k) y→Row m.Prime D u→Row m.Prime D r→mul (suf (exx D x m T) k) (y++u) (zeros d++r)=y++adv m.Prime D u r
 |0,k,hk,y,u,r,hy,hu,hr=>by have hp:=hE.m.p.pos;rw[vZ (x:=x) (k:=k) (by omega)]at hy;obtain rfl:y=[]:=hy;rw[zB0 h hE hT D k (by omega) (by omega)];exact jA (by omega) D u r hu hr
 |d+1,k,hk,y,u,r,hy,hu,hr=>by
  have hl:=uD h hE hT;rw[yK (x:=x) (by omega)]at hy;cases y with
  |nil=>exact hy.elim
  |cons a y=>
   obtain⟨⟨a0,a1⟩,hy⟩:=hy;change a<at0 x.zA k at a1;rw[yK (x:=exx D x m T) (by omega)];show mul _ (a::(y++u)) (0::(zeros d++r))=_;rw[yU,zGS h hE hT (by omega),if_neg (by omega)];show(a+0)::mul _ (y++u) (zeros d++r)=_;rw[zIm d (k+1) (by omega) y u r hy hu hr,U7];rfl
theorem zAX{k:Nat}(hk:k≤x.zA.length+D):Pc.Ok (suf (exx D x m T) k):=(zFA h hE hT).okAt (by rw[uD h hE hT];exact hk)
theorem zMq{d k:Nat}(hk:k+d=x.zA.length):∀(rs:List Vec)(v:Vec)(y u:Vec),(∀r∈rs,Row m.Prime D r)→V (suf x k) y→Row m.Prime D u→img (mul (suf (exx D x m T) k)) (rs.map fun r=>zeros d++r) v (y++u)=y++img (adv m.Prime D) rs v u
 | [],v,y,u,_,_,_=>by cases v<;>rfl
 |_::_,[],_,_,_,_,_=>rfl
 |c::rs,t::v,y,u,hr,hy,hu=>by
  have hp:=hE.m.p.pos;have hc:=hr c (by simp);have e:∀q u,Row m.Prime D u→iter q (fun w=>mul (suf (exx D x m T) k) w (zeros d++c)) (y++u)=y++iter q (fun w=>adv m.Prime D w c) u:=by
   intro q
   induction q with
   |zero=>intro u _;rfl
   |succ q ih=>
    intro u hu;show iter q _ (mul _ (y++u) (zeros d++c))=_;rw[zIm h hE hT d k hk y u c hy hu hc,ih _ (zAt (by omega))];rfl
  show img _ (rs.map fun r=>zeros d++r) v (iter t.toNat (fun w=>mul (suf (exx D x m T) k) w (zeros d++c)) (y++u))=_;rw[e _ _ hu,zMq hk rs v y _ (fun r h=>hr r (by simp[h])) hy (vD (S:=Row m.Prime D) (fun _ _=>zAt (by omega)) _ hu)];rfl
theorem zWo{k:Nat}(hk:k<x.zA.length):(gl D fun j=>(m.zI.getD k []).getD j [])=m.zI.getD k []:=by
 have _:=h;have _:=hT;have hl:=(hE.m.mat k hk).1;apply La;intro j;simp only[gl,Ju]
 by_cases g:j<D
 ·rw[Ug g,Hs,J2 (i:=j),J3 (by omega)];rfl
 ·rw[Jn (by simp;omega),Jn (by omega)];rfl
def sgG(D:Nat)(x:SPr)(m:zC)(T:Mx)(k:Nat)(y:Vec):Vec:=img (mul (suf (exx D x m T) (k+1))) (eC1 x T k) y (zeros (suf (exx D x m T) (k+1)).length)
theorem zEc{k:Nat}:(eC1 x T k).length=x.zA.length-1-k:=by have _:=h;have _:=hE;have _:=hT;rw[eC1,yW]
theorem zRp{k:Nat}(hk:k<x.zA.length):∀c∈eC1 x T k,V (suf (exx D x m T) (k+1)) c:=by intro c hc;have ok:=zAX h hE hT (k:=k) (by omega);rw[yK (by rw[uD h hE hT];omega)]at ok;exact ok.2.2.2.1 c (by rw[zGT h hE hT hk];exact Jae _ hc)
theorem zCj{k:Nat}(hk:k≤x.zA.length):zeros (suf (exx D x m T) k).length=zeros (x.zA.length-k)++zeros D:=by rw[xM,uD h hE hT];simp only[zeros,Jm];congr 1;omega
theorem zRq{k:Nat}(hk:k<x.zA.length){y:Vec}:V (suf (exx D x m T) (k+1)) (sgG D x m T k y):=by have ok:=zAX h hE hT (k:=k+1) (by omega);exact qA (xP ok) _ _ (zRp h hE hT hk) (wK ok)
theorem zMr{k:Nat}(hk:k<x.zA.length){y u:Vec}(hy:V (suf x (k+1)) y)(hu:Row m.Prime D u):
  sig (suf (exx D x m T) (k+1)) (lvl (exx D x m T) k) (y++u)=(sgG D x m T k y).take (x.zA.length-(k+1))++adv m.Prime D ((sgG D x m T k y).drop (x.zA.length-(k+1))) (tO m.Prime D u (m.zI.getD k [])):=by
 have hp:=hE.m.p.pos;have hA:=hE.m.mat k hk;have hyl:=sS h (by omega) hy;unfold sig;rw[zGT h hE hT hk,zNV _ _ _ _ _ (by rw[zEc h hE hT];omega)];show img _ (eC2 x m D k) u (sgG D x m T k y)=_;obtain⟨y1,u1,e,hy1,hu1⟩:=(zCT h hE hT (x.zA.length-(k+1)) (k+1) (by omega) _).1 (zRq h hE hT hk (y:=y));have hy1l:=sS h (by omega) hy1;rw[e,eC2,zWo h hE hT hk,show x.zA.length-1-k=x.zA.length-(k+1)from by omega,zMq h hE hT (by omega) _ _ _ _ (fun r hr=>?_) hy1 hu1,zFC (by omega) _ _ _ (by rw[hA.1,hu.1]) (fun i hi=>(hu.2 i (by rw[←hu.1];exact hi)).1) hu1,zRo hA.1,K7 hy1l,Ly hy1l];obtain⟨j,hj,rfl⟩:=Ks.1 hr;have hAl:=hA.1;have:=hA.2 j (by omega)
 rwa [J2,J3 hj]at this
theorem zFD{k:Nat}(hk:k<x.zA.length){u:Vec}(hu:Row m.Prime D u):
  sig (suf (exx D x m T) (k+1)) (lvl (exx D x m T) k) (zeros (x.zA.length-(k+1))++u)=zeros (x.zA.length-(k+1))++tO m.Prime D u (m.zI.getD k []):=by
 have hp:=hE.m.p.pos;have ok:=h.okAt (k:=k+1) (by omega);have hz:=wK ok;rw[xM]at hz;have e:sgG D x m T k (zeros (x.zA.length-(k+1)))=zeros (x.zA.length-(k+1))++zeros D:=by unfold sgG;rw[zAN,zCj h hE hT (by omega)]
 rw[zMr h hE hT hk hz hu,e,K7 (zS _),Ly (zS _),zMp (jN (by omega))]
theorem zGW{k:Nat}(hk:k<x.zA.length):∀(q:Nat){u:Vec},Row m.Prime D u→
  iter q (sig (suf (exx D x m T) (k+1)) (lvl (exx D x m T) k)) (zeros (x.zA.length-(k+1))++u)=zeros (x.zA.length-(k+1))++iter q (fun u=>tO m.Prime D u (m.zI.getD k [])) u
 |0,u,_=>rfl
 |q+1,u,hu=>by have hp:=hE.m.p.pos;show iter q _ (sig _ _ _)=_;rw[zFD h hE hT hk hu,zGW hk q (jN (by omega))];rfl
end
end Go.Pl

namespace Go.Pl
open Go Go.Ab Go.Wk Go.Pc
theorem zEP{p:Int}{D:Nat}{A:Mx}(hA:Mat p D A)(hp:2≤p){r:List Int}(hr:Row p D r):∀q,iter q (fun u=>tO p D u A) r=tO p D r (pw (PM p D) (idM D) A q)
 |0=>(zKG hr).symm
 |q+1=>by
  have hm:Mat p D (pw (PM p D) (idM D) A q):=vD (S:=Mat p D) (fun _ hB=>zCe (by omega) hB.1) q (zAq hp);unfold pw at*
  rw[vK,vK,zEP hA hp hr q];exact zNW hm.1
theorem zRr{p:Int}{D:Nat}(hp:0<p){r:List Int}:iter p.toNat (fun w=>adv p D w r) (zeros D)=zeros D:=by
 rw[zGU hp _ _ (tS hp)];rw[show zeros D=mkv D fun _=>0 from uS D];refine zW fun j hj=>?_
 rw[yB hj,H6 (by omega),Ku,Int.mul_emod_right]
theorem zMs{p:Int}{D:Nat}{A:Mx}:tO p D (zeros D) A=zeros D:=by
 rw[show zeros D=mkv D fun _=>0 from uS D];refine zW fun j hj=>?_
 rw[wC (g:=fun _=>0) fun l hl=>by rw[yB hl,G8],qS,Int.zero_emod]
theorem zOL{p:Int}{D q:Nat}{A:Mx}(hq:q<D)(hA:Mat p D A):tO p D (wL D q) A=A.getD q []:=by
 have hr:=hA.2 q hq
 conv=>rhs;rw[wY hr.1]
 refine zW fun j hj=>?_
 rw[jR,zAS (k:=q) hq (fun i hi hne=>by rw[yB hi,if_neg hne,G8]),yB hq,if_pos rfl,Q9,kL (hr.2 j hj)]
theorem uX{p:Int}{D q:Nat}(hp:2≤p):Row p D (wL D q):=by rw[jR];exact⟨zZ _ _,fun j hj=>by rw[yB hj];split<;>omega⟩
theorem zKH{N D q:Nat}(hq:q<D):wL (N+D) (N+q)=zeros N++wL D q:=by rw[kH (by omega),kH hq,←Jc];simp only[zeros,Jm];rw[show N+D-(N+q+1)=D-(q+1)from by omega]
def aM(m:zC)(D k:Nat)(v:Vec):Mx:=img (PM m.Prime D) (m.zI.drop k) v (idM D)
theorem zRs{p:Int}{D:Nat}(hp:2≤p):Mon (Mat p D) (PM p D) (idM D):=
 ⟨fun ha _=>zCe (by omega) ha.1,zAq (by omega),fun ha hb _=>zKs ha.1 hb.1,fun ha=>zIV ha,fun ha=>zKt ha⟩
section
variable {D:Nat}{x:SPr}{m:zC}{T:Mx} (h:Pres x) (hE:ExB x.zA.length D x m T) (hT:∀i,i<T.length→Row m.Prime D (T.getD i []))
 include h hE hT
theorem zRt{k:Nat}(hk:k<x.zA.length):(eC1 x T k).map (·.take (x.zA.length-(k+1)))=(lvl x k).cs:=by
 have _:=hE;have _:=hT;have hcl:=kK h.w hk;apply La;intro j
 by_cases g:j<x.zA.length-(k+1)
 ·obtain⟨c,_,_,c3,c4⟩:=zDO h hk g
  have hl:=sS h (by omega) c3;have e1:((eC1 x T k).map (·.take (x.zA.length-(k+1))))[j]? =some (((lvl x k).cs.getD j []++T.getD (base x.zA.length k+j) []).take (x.zA.length-(k+1))):=by simp[eC1,gl,show j<x.zA.length-1-k by omega]
  rw[e1,c4,K7 hl,J3 (by omega)];rw[J2,J3 (by omega)]at c4;exact congrArg some c4.symm
 ·rw[Jn (by simp[eC1,gl];omega),Jn (by omega)]
theorem zKI{k:Nat}(hk:k<x.zA.length):m.zI.drop k=m.zI.getD k []::m.zI.drop (k+1):=by have _:=h;have _:=hT;have hl:=hE.m.len;rw[Lt (by omega),J2,J3 (by omega)];rfl
theorem zTL{k:Nat}(hk:k<x.zA.length){b:Int}{y:Vec}:aM m D k (b::y)=PM m.Prime D (pw (PM m.Prime D) (idM D) (m.zI.getD k []) b.toNat) (aM m D (k+1) y):=by
 have M:=zRs hE.m.p.pos.1 (D:=D);unfold aM;rw[zKI h hE hT hk];refine sE M (hE.m.mat k hk) fun c hc=>?_
 obtain⟨i,hi,rfl⟩:=Ks.1 (List.mem_of_mem_drop hc);have:=hE.m.mat i (by rw[←hE.m.len];exact hi)
 rwa [J2,J3 hi]at this
theorem pwM{k q:Nat}(hk:k<x.zA.length):Mat m.Prime D (pw (PM m.Prime D) (idM D) (m.zI.getD k []) q):=by have _:=h;have _:=hT;have _:=hk;have hp:=hE.m.p.pos;exact vD (S:=Mat m.Prime D) (fun _ hB=>zCe (by omega) hB.1) q (zAq (by omega))
theorem zRu:∀(d k:Nat),k+d=x.zA.length→ ∀r y v,Row m.Prime D r→V (suf x k) y→Row m.Prime D v→mul (suf (exx D x m T) k) (zeros d++r) (y++v)=y++adv m.Prime D (tO m.Prime D r (aM m D k y)) v
 |0,k,hk,r,y,v,hr,hy,hv=>by
  have hp:=hE.m.p.pos;rw[vZ (x:=x) (k:=k) (by omega)]at hy;obtain rfl:y=[]:=hy;rw[zB0 h hE hT D k (by omega) (by omega)];have e:aM m D k []=idM D:=by unfold aM;cases m.zI.drop k<;>rfl
  rw[e,zKG hr];exact jA (by omega) D r v hr hv
 |d+1,k,hk,r,y,v,hr,hy,hv=>by
  have hl:=uD h hE hT;have hp:=hE.m.p.pos;have hA:=hE.m.mat k (by omega);rw[yK (x:=x) (by omega)]at hy;cases y with
  |nil=>exact hy.elim
  |cons b y=>
   obtain⟨⟨b0,b1⟩,hy⟩:=hy;change b<at0 x.zA k at b1;rw[yK (x:=exx D x m T) (by omega)];show mul _ (0::(zeros d++r)) (b::(y++v))=_;have e:=zGW h hE hT (k:=k) (by omega) b.toNat hr;rw[show x.zA.length-(k+1)=d from by omega]at e;rw[yU,zGS h hE hT (by omega),if_neg (by omega),e,zEP hA (by omega) hr,zRu d (k+1) (by omega) _ y v (jN (by omega)) hy hv,Ku,zTL h hE hT (by omega),←zNW (pwM h hE hT (by omega)).1];rfl
theorem zKJ{k:Nat}(hk:k<x.zA.length)(ih:∀a b,V (suf (exx D x m T) (k+1)) a→V (suf (exx D x m T) (k+1)) b→(mul (suf (exx D x m T) (k+1)) a b).take (x.zA.length-(k+1))=mul (suf x (k+1)) (a.take (x.zA.length-(k+1))) (b.take (x.zA.length-(k+1)))){v:Vec}(hv:V (suf (exx D x m T) (k+1)) v):
  (sig (suf (exx D x m T) (k+1)) (lvl (exx D x m T) k) v).take (x.zA.length-(k+1))=sig (suf x (k+1)) (lvl x k) (v.take (x.zA.length-(k+1))):=by
 have ok:=zAX h hE hT (k:=k+1) (by omega);obtain⟨y,u,rfl,hy,hu⟩:=(zCT h hE hT (x.zA.length-(k+1)) (k+1) (by omega) _).1 hv;have hyl:=sS h (by omega) hy;obtain⟨y1,u1,e,hy1,hu1⟩:=(zCT h hE hT (x.zA.length-(k+1)) (k+1) (by omega) _).1 (zRq h hE hT hk (y:=y));have hy1l:=sS h (by omega) hy1;rw[zMr h hE hT hk hy hu,K7 (by rw[e,K7 hy1l,hy1l]),K7 hyl];unfold sgG sig;rw[zGV (S:=V (suf (exx D x m T) (k+1))) (n:=mul (suf x (k+1))) (·.take (x.zA.length-(k+1))) (fun a b=>xP ok) ih _ _ _ (zRp h hE hT hk) (wK ok),zRt h hE hT hk,zCj h hE hT (by omega),K7 (zS _),xM]
theorem zJi:∀(d k:Nat),k+d=x.zA.length→ ∀a b,V (suf (exx D x m T) k) a→V (suf (exx D x m T) k) b→(mul (suf (exx D x m T) k) a b).take d=mul (suf x k) (a.take d) (b.take d)
 |0,k,hk,a,b,_,_=>by rw[vZ (x:=x) (by omega),Jx];rfl
 |d+1,k,hk,a,b,ha,hb=>by
  have hl:=uD h hE hT;have ih:=zJi d (k+1) (by omega);have hd:d=x.zA.length-(k+1):=by omega
  have ok:=zAX h hE hT (k:=k+1) (by omega);have ok0:=zAX h hE hT (k:=k) (by omega);rw[hd]at ih;have hs:=fun v hv=>zKJ h hE hT (k:=k) (by omega) ih (v:=v) hv
  rw[yK (x:=exx D x m T) (by omega)]at ha hb ok0 ⊢
  rw[yK (x:=x) (by omega)];cases a with
  |nil=>exact ha.elim
  |cons a u=>
  cases b with
  |nil=>exact hb.elim
  |cons b v=>
   have hit:∀q u,V (suf (exx D x m T) (k+1)) u→(iter q (sig (suf (exx D x m T) (k+1)) (lvl (exx D x m T) k)) u).take d=iter q (sig (suf x (k+1)) (lvl x k)) (u.take d)∧V (suf (exx D x m T) (k+1)) (iter q (sig (suf (exx D x m T) (k+1)) (lvl (exx D x m T) k)) u):=by
    intro q
    induction q with
    |zero=>intro u hu;exact⟨rfl,hu⟩
    |succ q ihq=>
     intro u hu;have:=ihq _ (zDo ok0 hu);rw[hd,hs u hu]at this;rw[hd];exact this
   obtain⟨hi1,hi2⟩:=hit b.toNat u ha.2;have hm:=xP ok hi2 hb.2;rw[yU,Kd,Kd,yU,zGS h hE hT (by omega),show(lvl x k).o=at0 x.zA k from rfl];have e1:=ih _ _ hi2 hb.2;rw[←hd,hi1]at e1;split
   ·rw[Kd]
    have e2:=ih _ _ ok0.2.1 hm;rw[←hd,e1]at e2;rw[e2]
    congr 2
    have ht:=(h.tl k (by omega)).1;have hw:=zHQ ht (by omega);have hwl:(lvl x k).w.length=x.zA.length-(k+1):=sS h (by omega) hw;rw[zVk h hE hT (by omega),K7 (by omega)]
   ·rw[Kd,e1]
end
end Go.Pl

namespace Go.Pl
open Go Go.Ab Go.Wk Go.Pc
theorem zOM{p:Int}{d:Nat}(hp:2≤p):∀c∈xS d,Row p d c:=fun c hc=>by obtain⟨k,_,rfl⟩:=Jg.1 hc;exact uX hp
theorem zTM{p:Int}(hp:2≤p){d:Nat}{w:Vec}(hw:Row p d w):sig (tlv p d) ⟨p,zeros d,xS d⟩ w=w:=by
 unfold sig;rw[zFB,zC6 (S:=Row p d) (m':=adv p d) (fun a b ha hb=>jA hp d a b ha hb) (fun _ _ _ _=>zAt (by omega)) (xS d) w _ (zOM hp) (tS (by omega)),zFC (by omega) (xS d) w _ (by rw[hw.1];simp[xS]) (fun i hi=>(hw.2 i (by rw[←hw.1];exact hi)).1) (tS (by omega))]
 conv=>rhs;rw[wY hw.1]
 refine zW fun j hj=>?_
 have hul:(xS d).length=d:=by simp[xS]
 rw[hul,uC,Ku,zAS (k:=j) hj (fun k hk hne=>by rw[zC7 hk hj,if_neg (Ne.symm hne),G4]),zC7 hj hj,if_pos rfl,Hc,kL (hw.2 j hj)]
structure LCn (x e:SPr) (k:Nat):Prop where
 c1:∀j,k+1≤j→j<x.zA.length→pw (mul (suf e (k+1))) (zeros (suf e (k+1)).length) ((lvl e k).cs.getD (j-(k+1)) []) (at0 e.zA j).toNat=sig (suf e (k+1)) (lvl e k) ((e.zT.getD j []).drop (k+1))
 c2:∀i,k+1≤i→i<x.zA.length→ ∀j,i+1≤j→j<x.zA.length→
  mul (suf e (k+1)) ((lvl e k).cs.getD (j-(k+1)) []) ((lvl e k).cs.getD (i-(k+1)) [])=mul (suf e (k+1)) ((lvl e k).cs.getD (i-(k+1)) []) (sig (suf e (k+1)) (lvl e k) (((e.zB.getD i []).getD (j-(i+1)) []).drop (k+1)))
 c3:sig (suf e (k+1)) (lvl e k) (lvl e k).w=(lvl e k).w
 c4:∀j,k+1≤j→j<x.zA.length→mul (suf e (k+1)) (lvl e k).w (iter (lvl e k).o.toNat (sig (suf e (k+1)) (lvl e k)) (wL (e.zA.length-(k+1)) (j-(k+1))))=mul (suf e (k+1)) (wL (e.zA.length-(k+1)) (j-(k+1))) (lvl e k).w
section
variable {D:Nat}{x:SPr}{m:zC}{T:Mx} (h:Pres x) (hE:ExB x.zA.length D x m T) (hT:∀i,i<T.length→Row m.Prime D (T.getD i []))
 include h hE hT
theorem zRv{k j:Nat}(hk:k<x.zA.length)(hj:x.zA.length≤j)(h2:j<x.zA.length+D):(lvl (exx D x m T) k).cs.getD (j-(k+1)) []=zeros (x.zA.length-(k+1))++(m.zI.getD k []).getD (j-x.zA.length) []:=by rw[zGT h hE hT hk,J2,J8 (by rw[zEc h hE hT];omega),zEc h hE hT,eC2];simp only[gl,Ju];rw[Ug (by omega),show j-(k+1)-(x.zA.length-1-k)=j-x.zA.length from by omega,show x.zA.length-1-k=x.zA.length-(k+1)from by omega];rfl
theorem zVl{k j:Nat}(hk:k<x.zA.length)(hj:k+1≤j)(h2:j<x.zA.length):(lvl (exx D x m T) k).cs.getD (j-(k+1)) []=(lvl x k).cs.getD (j-(k+1)) []++T.getD (base x.zA.length k+(j-(k+1))) []:=by rw[zGT h hE hT hk,J2,Jo (by rw[zEc h hE hT];omega),eC1];simp only[gl,Ju];rw[Ug (by omega)];rfl
theorem zVm{i j:Nat}(hi:i<j)(hj:j<x.zA.length):Row m.Prime D (T.getD (base x.zA.length i+(j-(i+1))) []):=by have _:=h;have hn:=hE.hn;have hb:=zF7 x.zA.length (by omega) i (by omega);exact hT _ (by rw[hE.t];omega)
theorem zMt{i:Nat}(hi:i<x.zA.length):Row m.Prime D (T.getD i []):=by have _:=h;have hn:=hE.hn;have hb:=sF x.zA.length (by omega);exact hT _ (by rw[hE.t];omega)
theorem zMu{k j:Nat}(hj:k≤j)(h2:j<x.zA.length):((exx D x m T).zT.getD j []).drop (k+1)=(x.zT.getD j []).drop (k+1)++T.getD j []:=by have t1:=(h.tl j h2).1.1.1;have _:=hE;have _:=hT;have hP:(exx D x m T).zT.getD j []=exP x.zA.length D x T j:=xR (by omega);rw[hP,exP,if_pos h2,L4 (by omega)]
theorem zWp{k j:Nat}(hk:k<x.zA.length)(hj:x.zA.length≤j)(h2:j<x.zA.length+D):((exx D x m T).zT.getD j []).drop (k+1)=zeros (x.zA.length-(k+1))++zeros D:=by have _:=h;have _:=hE;have _:=hT;have hP:(exx D x m T).zT.getD j []=exP x.zA.length D x T j:=xR (by omega);rw[hP,exP,if_neg (by omega),Li];simp only[zeros,Jm];congr 1;omega
theorem zGX{i:Nat}(hi:i<x.zA.length+D):(exx D x m T).zB.getD i []=exC x.zA.length D x m T i:=by have _:=h;have _:=hE;have _:=hT;show(gl (x.zA.length+D) (exC x.zA.length D x m T)).getD i []=_;simp[gl,J2,hi]
theorem zMv{k i j:Nat}(hk:k≤i)(hi:i<j)(hj:j<x.zA.length):(((exx D x m T).zB.getD i []).getD (j-(i+1)) []).drop (k+1)=((x.zB.getD i []).getD (j-(i+1)) []).drop (k+1)++T.getD (base x.zA.length i+(j-(i+1))) []:=by obtain⟨_,t2,t3⟩:=h.tl i (by omega);have t:=(t3 (j-(i+1)) (by omega)).1.1;rw[zGX h hE hT (by omega),exC,if_pos (by omega),xR (by omega),exF,if_pos (by omega),L4 (by omega)]
theorem zWq{k i j:Nat}(hk:k<x.zA.length)(hi:i<x.zA.length)(hj:x.zA.length≤j)(h2:j<x.zA.length+D):(((exx D x m T).zB.getD i []).getD (j-(i+1)) []).drop (k+1)=zeros (x.zA.length-(k+1))++(m.zI.getD i []).getD (j-x.zA.length) []:=by rw[zGX h hE hT (by omega),exC,if_pos (by omega),xR (by omega),exF,if_neg (by omega),L4 (by simp;omega),Li,show j-(i+1)-(x.zA.length-1-i)=j-x.zA.length from by omega];rfl
theorem zWr{k i j:Nat}(hk:k<x.zA.length)(hi:x.zA.length≤i)(hj:i<j)(h2:j<x.zA.length+D):(((exx D x m T).zB.getD i []).getD (j-(i+1)) []).drop (k+1)=zeros (x.zA.length-(k+1))++wL D (j-x.zA.length):=by
 rw[zGX h hE hT (by omega),exC,if_neg (by omega),unC,xR (by omega),sU,zGR,←zKH (by omega),jR];rw[show x.zA.length+D-(k+1)=x.zA.length-(k+1)+D from by omega];refine zW fun q _=>?_
 by_cases g:q=x.zA.length-(k+1)+(j-x.zA.length)
 ·rw[if_pos g,if_pos (by omega)]
 ·rw[if_neg g,if_neg (by omega)]
theorem zTN(hr:zHp x m D){k:Nat}(hk:k<x.zA.length):pw (PM m.Prime D) (idM D) (m.zI.getD k []) (at0 x.zA k).toNat=aM m D (k+1) (lvl x k).w∧
  ∀i,k<i→i<x.zA.length→PM m.Prime D (m.zI.getD i []) (m.zI.getD k [])=PM m.Prime D (m.zI.getD k []) (aM m D (k+1) ((lvl x k).cs.getD (i-(k+1)) [])):=by
 have R:=zNS h hE.m hr (x.zA.length-k) k (by omega);rw[yK hk,zKI h hE hT hk]at R;obtain⟨r1,r2,_⟩:=R;refine⟨r1,fun i h1 h2=>?_⟩;have hcl:=kK h.w hk;have hl:=hE.m.len;refine r2 (i-(k+1)) _ _ ?_ ?_
 ·rw[Ko,show k+1+(i-(k+1))=i from by omega,J2,J3 (by omega)];rfl
 ·rw[J2,J3 (by omega)];rfl
theorem zv{k:Nat}(hk:k≤x.zA.length):V (suf x k) (zeros (x.zA.length-k)):=by
 have _:=hE;have _:=hT;have:=wK (h.okAt hk)
 rwa [xM]at this
theorem zWs(hr:zHp x m D){k:Nat}(hk:k<x.zA.length)(hc:LCn x (exx D x m T) k):LC (exx D x m T) k:=by
 have hp:=hE.m.p.pos;have hl:=uD h hE hT;have hA:=hE.m.mat k hk;obtain⟨r1,r2⟩:=zTN h hE hT hr hk;have hz:=zv h hE hT (k:=k+1) (by omega);have hD0:Row m.Prime D (zeros D):=tS (by omega);have hw:=(zWb h hk).2;refine⟨fun j h1 h2=>?_,fun i h1 h2 j h3 h4=>?_,hc.c3,fun j h1 h2=>?_⟩
 ·rw[hl]at h2
  rcases Jf j x.zA.length with g|g
  ·exact hc.c1 j h1 g
  ·have hq:=hA.2 (j-x.zA.length) (by omega)
   rw[zRv h hE hT hk g h2,zWp h hE hT hk g h2,zFD h hE hT hk hD0,zMs,zBz h hE hT g h2,zCj h hE hT (by omega)];have e:=zMq h hE hT (d:=x.zA.length-(k+1)) (k:=k+1) (by omega) [(m.zI.getD k []).getD (j-x.zA.length) []] [m.Prime] _ _ (fun r hr=>by rw[List.mem_singleton.1 hr];exact hq) hz hD0;have e2:iter m.Prime.toNat (fun w=>adv m.Prime D w ((m.zI.getD k []).getD (j-x.zA.length) [])) (zeros D)=zeros D:=zRr (by omega);unfold pw;refine e.trans ?_;show zeros _++iter m.Prime.toNat (fun w=>adv m.Prime D w ((m.zI.getD k []).getD (j-x.zA.length) [])) (zeros D)=_;rw[e2]
 ·rw[hl]at h4
  rcases Jf j x.zA.length with g|g
  ·exact hc.c2 i h1 (by omega) j h3 g
  ·have hq:=hA.2 (j-x.zA.length) (by omega)
   rw[zRv h hE hT hk g h4];rcases Jf i x.zA.length with gi|gi
   ·have hAi:=hE.m.mat i gi
    have hqi:=hAi.2 (j-x.zA.length) (by omega);have hcv:=(jL h hk h1 gi).2.2;have ht:=zVm h hE hT (i:=k) (j:=i) (by omega) gi;rw[zVl h hE hT hk h1 gi,zWq h hE hT hk gi g h4,zFD h hE hT hk hqi,zRu h hE hT _ (k+1) (by omega) _ _ _ hq hcv ht,zIm h hE hT _ (k+1) (by omega) _ _ _ hcv ht (jN (by omega)),zCi]
    congr 2
    rw[←zBs (by rw[hA.1];omega),←zBs (by rw[hAi.1];omega),r2 i (by omega) gi]
   ·have hqi:=hA.2 (i-x.zA.length) (by omega)
    rw[zRv h hE hT hk gi (by omega),zWr h hE hT hk gi (by omega) h4,zFD h hE hT hk (uX (by omega)),zOL (by omega) hA,zIm h hE hT _ (k+1) (by omega) _ _ _ hz hq hqi,zIm h hE hT _ (k+1) (by omega) _ _ _ hz hqi hq,zCi]
 ·rw[hl]at h2 ⊢
  rcases Jf j x.zA.length with g|g
  ·have:=hc.c4 j h1 g
   rwa [hl]at this
  ·have ht:=zMt h hE hT hk
   have hu:Row m.Prime D (wL D (j-x.zA.length)):=uX (by omega);rw[show x.zA.length+D-(k+1)=x.zA.length-(k+1)+D from by omega,show j-(k+1)=x.zA.length-(k+1)+(j-x.zA.length)from by omega,zKH (by omega),zGS h hE hT hk,zGW h hE hT hk _ hu,zVk h hE hT hk,zEP hA (by omega) hu,r1,zRu h hE hT _ (k+1) (by omega) _ _ _ hu hw ht,zIm h hE hT _ (k+1) (by omega) _ _ _ hw ht (jN (by omega)),zCi]
theorem zWt{k:Nat}(hk:x.zA.length≤k)(h2:k<x.zA.length+D):LC (exx D x m T) k:=by
 have hp:=hE.m.p.pos;have hl:=uD h hE hT;have hs:=zB0 h hE hT (x.zA.length+D-(k+1)) (k+1) (by omega) (by omega);have hL:=zB0 h hE hT (x.zA.length+D-(k+1)+1) k (by omega) (by omega);rw[yK (by omega),hs,tlv]at hL;have hlv:lvl (exx D x m T) k=⟨m.Prime,zeros (x.zA.length+D-(k+1)),xS (x.zA.length+D-(k+1))⟩:=(Jb7.inj hL).1
 generalize hd:x.zA.length+D-(k+1)=d at*
 have hsig:∀w,Row m.Prime d w→sig (tlv m.Prime d) ⟨m.Prime,zeros d,xS d⟩ w=w:=fun w hw=>zTM (by omega) hw
 have hzr:Row m.Prime d (zeros d):=tS (by omega);have hum:∀j,(xS d).getD j []=if j<d then wL d j else[]:=fun j=>by
  by_cases g:j<d
  ·rw[if_pos g,zG9 g]
  ·rw[if_neg g,J2,Jn (by simp[xS];omega)];rfl
 refine⟨fun j h1 h3=>?_,fun i h1 h3 j h4 h5=>?_,?_,fun j h1 h3=>?_⟩
 ·rw[hl]at h3
  have hP:(exx D x m T).zT.getD j []=exP x.zA.length D x T j:=xR (by omega);rw[hs,hlv,zBz h hE hT (by omega) h3,hP,exP,if_neg (by omega),Li,hd];show pw (mul (tlv m.Prime d)) (zeros (tlv m.Prime d).length) ((xS d).getD (j-(k+1)) []) m.Prime.toNat=sig (tlv m.Prime d) ⟨m.Prime,zeros d,xS d⟩ (zeros d);rw[hsig _ hzr,hum,if_pos (by omega),zFB];have e:=zC6 (S:=Row m.Prime d) (m':=adv m.Prime d) (fun a b ha hb=>jA (by omega) d a b ha hb) (fun _ _ _ _=>zAt (by omega)) [wL d (j-(k+1))] [m.Prime] (zeros d) (fun c hc=>by rw[List.mem_singleton.1 hc];exact uX (by omega)) hzr;exact e.trans (zRr (by omega))
 ·rw[hl]at h3 h5
  rw[hs,hlv,zGX h hE hT h3,exC,if_neg (by omega),unC,xR (by omega),sU,zGR,hd];have e:(mkv d fun q=>if k+1+q=i+1+(j-(i+1))then(1:Int)else 0)=wL d (j-(k+1)):=by
   rw[jR];refine zW fun q _=>?_
   by_cases g:q=j-(k+1)
   ·rw[if_pos g,if_pos (by omega)]
   ·rw[if_neg g,if_neg (by omega)]
  rw[e,hsig _ (uX (by omega))];show mul (tlv m.Prime d) ((xS d).getD (j-(k+1)) []) ((xS d).getD (i-(k+1)) [])=mul (tlv m.Prime d) ((xS d).getD (i-(k+1)) []) (wL d (j-(k+1)));rw[hum,hum,if_pos (by omega),if_pos (by omega),jA (by omega) d _ _ (uX (by omega)) (uX (by omega)),jA (by omega) d _ _ (uX (by omega)) (uX (by omega)),zCi]
 ·rw[hs,hlv,hsig _ hzr]
 ·rw[hl]at h3 ⊢
  have hu:Row m.Prime d (wL d (j-(k+1))):=uX (by omega);rw[hs,hlv,hd,zGO (hsig _ hu),jA (by omega) d _ _ hzr hu,jA (by omega) d _ _ hu hzr,zCi]
theorem zKK:∀(d k:Nat),x.zA.length≤k→k+d=x.zA.length+D→vB (suf (exx D x m T) k)
 |0,k,hk,hd=>by rw[vZ (by rw[uD h hE hT];omega)];simp only[vB]
 |d+1,k,hk,hd=>(zAR (zFA h hE hT) (by rw[uD h hE hT];omega)).2 ⟨zKK d (k+1) (by omega) (by omega),zWt h hE hT hk (by omega)⟩
theorem zTO(hr:zHp x m D):vB (suf (exx D x m T) 0)↔ ∀k,k<x.zA.length→LCn x (exx D x m T) k:=by
 have hl:=uD h hE hT;have key:∀(d k:Nat),k+d=x.zA.length→(vB (suf (exx D x m T) k)↔ ∀i,k≤i→i<x.zA.length→LCn x (exx D x m T) i):=by
  intro d
  induction d with
  |zero=>intro k hk;exact⟨fun _ i h1 h2=>by omega,fun _=>zKK h hE hT D k (by omega) (by omega)⟩
  |succ d ih=>
   intro k hk;rw[zAR (zFA h hE hT) (by omega),ih (k+1) (by omega)];constructor
   ·rintro⟨g1,g2⟩ i h1 h2
    rcases Jf k i with g|g
    ·exact g1 i (by omega) h2
    ·obtain rfl:i=k:=by omega
     exact⟨fun j a b=>g2.c1 j a (by omega),fun i a b j c d=>g2.c2 i a (by omega) j c (by omega),g2.c3,fun j a b=>g2.c4 j a (by omega)⟩
   ·exact fun g=>⟨fun i h1 h2=>g i (by omega) h2,zWs h hE hT hr (by omega) (g k (by omega) (by omega))⟩
 have:=key x.zA.length 0 (by omega);rw[this];exact⟨fun g k hk=>g k (by omega) hk,fun g k _ hk=>g k hk⟩
end
end Go.Pl

namespace Go.Pl
open Go Go.Ab Go.Wk Go.Pc
def prE(x:SPr)(k:Nat)(w:Vec):zG:=⟨fv k (w.take (x.zA.length-k)),w.drop (x.zA.length-k)⟩
theorem tX{x:SPr}{k:Nat}{y u:Vec}(hy:y.length=x.zA.length-k):prE x k (y++u)=⟨fv k y,u⟩:=by rw[prE,K7 hy,Ly hy]
theorem zB1{α α' β:Type}{body:α×α'×Int→Option ((α×α'×Int)⊕(α×α'))}{S:β→Prop}(e1:β→α)(e2:β→α')(g:β→β)(n:Int)(hn:0≤n)(hS:∀a,S a→S (g a))
  (h:∀a(i:Nat),S a→(i:Int)<n→body (e1 a,e2 a,(i:Int))=some (.inl (e1 (g a),e2 (g a),((i+1:Nat):Int))))(he:∀a,S a→body (e1 a,e2 a,n)=some (.inr (e1 a,e2 a))){a:β}(ha:S a):
  zF body (e1 a,e2 a,0)=some (e1 (iter n.toNat g a),e2 (iter n.toNat g a)):=by
 have hit:∀k,S (iter k g a):=fun k=>vD (S:=S) hS k ha
 exact zN (body:=body) (r:=(e1 (iter n.toNat g a),e2 (iter n.toNat g a))) (fun i=>(e1 (iter i g a),e2 (iter i g a),(i:Int))) n.toNat (fun i hi=>by
  rw[h _ i (hit i) (by omega),vK]) (by
  rw[show((n.toNat:Nat):Int)=n from by omega];exact he _ (hit _))
structure Mv (D n:Nat) (m0 m:zC):Prop where
 pr:m0.Prime=m.Prime
 mv:∀k,k<n→ ∀u,Row m.Prime D u→zUw m0 u (k:Int)=some (tO m.Prime D u (m.zI.getD k []))
theorem Mv.self{n D:Nat}{m:zC}(hE:MOk n m D):Mv D n m m:=by
 refine⟨rfl,fun k hk u hu=>?_⟩;have h3:=hE.d3;have h1:=hE.d1;have hA:=hE.mat k hk;have hul:=hu.1;have hl:=hE.len;unfold zUw;have e1:zIp m u (k:Int) ([],0)=some (.inl (tO m.Prime D u (m.zI.getD k []),(D:Int))):=by
  unfold zIp;simp only
  rw[decide_eq_true (by omega),zH,hE.d,zD (by omega) (by omega),bs,Ku];have hsl:zQ u 0 (D:Int)=some u:=by
   unfold zQ;rw[if_pos ⟨by omega,by omega,by omega⟩]
   congr 1
   rw[show((D:Int)).toNat=D from by omega,show(0:Int).toNat=0 from rfl,Hx,Je (by omega)]
  rw[hsl,bs,yC [] (by omega),bs,zDt hE.p (by omega) hu hA,bs,yF (by rw[tO,zZ];simp;omega),bs,bs,Jp]
 have e2:zIp m u (k:Int) (tO m.Prime D u (m.zI.getD k []),(D:Int))=some (.inr (tO m.Prime D u (m.zI.getD k []))):=by
  unfold zIp;simp only
  rw[decide_eq_false (by omega),zE]
 rw[yL,e1];simp only
 rw[yL,e2];rfl
section
variable {D:Nat}{x:SPr}{m0 m:zC}{T:Mx} (h:Pres x) (hE:ExB x.zA.length D x m T) (hT:∀i,i<T.length→Row m.Prime D (T.getD i []))
def zRw(D:Nat)(x:SPr)(m0 m:zC)(T:Mx)(k:Nat)(g:zP→Int→zG→zG→Option zG):Prop:=
 ∀a b,V (suf (exx D x m T) k) a→V (suf (exx D x m T) k) b→g ⟨x,m0,T⟩ k (prE x k a) (prE x k b)=some (prE x k (mul (suf (exx D x m T) k) a b))
def zRx(D:Nat)(x:SPr)(m0 m:zC)(T:Mx)(k:Nat)(g:zP→Int→zG→Option zG):Prop:=
 ∀v,V (suf (exx D x m T) (k+1)) v→g ⟨x,m0,T⟩ k (prE x (k+1) v)=some (prE x (k+1) (sig (suf (exx D x m T) (k+1)) (lvl (exx D x m T) k) v))
 include h hE hT
theorem zNX{k i j:Nat}(hk:k≤i)(hi:i<j)(hj:j<x.zA.length):zJp ⟨x,m0,T⟩ (i:Int) (j:Int)=some (prE x (k+1) ((((exx D x m T).zB.getD i []).getD (j-(i+1)) []).drop (k+1)))∧V (suf (exx D x m T) (k+1)) ((((exx D x m T).zB.getD i []).getD (j-(i+1)) []).drop (k+1)):=by
 have hn:=hE.hn;have hb:=zF7 x.zA.length (by omega) i (by omega);have ht:=hE.t;obtain⟨_,t2,t3⟩:=h.tl i (by omega);have tt:=t3 (j-(i+1)) (by omega);obtain⟨e1,e2⟩:=zCb (k:=k+1) tt (by omega) (by omega);have hl:=sS h (by omega) e2;have hcl:=h.cl;have hr:=zVm h hE hT hi hj;refine⟨?_,?_⟩
 ·rw[zMv h hE hT hk hi hj,tX hl,←e1]
  unfold zJp;dsimp only
  rw[yC [] (by omega),bs,zD (by omega) (by omega),bs,zD (by omega) (by omega),bs,show(j:Int)-(i:Int)-1=((j-(i+1):Nat):Int)from by omega,yC [] (by omega),bs,zMb x.zA.length (by omega) j hj i hi,bs,yC [] (by omega),bs,show j-i-1=j-(i+1)from by omega]
 ·rw[zMv h hE hT hk hi hj]
  exact(zCT h hE hT (x.zA.length-(k+1)) (k+1) (by omega) _).2 ⟨_,_,rfl,e2,hr⟩
theorem zEd{k j:Nat}(hk:k<j)(hj:j<x.zA.length):zJp ⟨x,m0,T⟩ (k:Int) (j:Int)=some (prE x (k+1) ((lvl (exx D x m T) k).cs.getD (j-(k+1)) []))∧V (suf (exx D x m T) (k+1)) ((lvl (exx D x m T) k).cs.getD (j-(k+1)) []):=by
 have e:(lvl (exx D x m T) k).cs.getD (j-(k+1)) []=(((exx D x m T).zB.getD k []).getD (j-(k+1)) []).drop (k+1):=by
  have hC:((exx D x m T).zB.getD k []).length=x.zA.length+D-1-k:=by rw[zGX h hE hT (by omega),exC,if_pos (by omega),yW]
  simp only[lvl];rw[J2,Ju,J3 (by omega),J2 (l:=(exx D x m T).zB.getD k []),J3 (by omega)];rfl
 rw[e];exact zNX h hE hT (Ji k) hk hj
theorem zJj{k j:Nat}(hk:k≤j)(hj:j<x.zA.length):zMD ⟨x,m0,T⟩ (j:Int)=some (prE x (k+1) (((exx D x m T).zT.getD j []).drop (k+1)))∧V (suf (exx D x m T) (k+1)) (((exx D x m T).zT.getD j []).drop (k+1)):=by
 have hn:=hE.hn;have hb:=sF x.zA.length (by omega);have ht:=hE.t;have hpl:=h.pl;have t1:=(h.tl j hj).1;obtain⟨e1,e2⟩:=zCb (k:=k+1) t1 (by omega) (by omega);have hl:=sS h (by omega) e2;have hr:=zMt h hE hT hj;refine⟨?_,?_⟩
 ·rw[zMu h hE hT hk hj,tX hl,←e1]
  unfold zMD;dsimp only
  rw[yC [] (by omega),bs,yC [] (by omega),bs]
 ·rw[zMu h hE hT hk hj]
  exact(zCT h hE hT (x.zA.length-(k+1)) (k+1) (by omega) _).2 ⟨_,_,rfl,e2,hr⟩
theorem zJk{k:Nat}(hk:k≤x.zA.length)(h0:0<x.zA.length):zLk ⟨x,m0,T⟩=some (prE x k (zeros (suf (exx D x m T) k).length)):=by
 have hn:=hE.hn;have h3:=hE.m.d3;have hb:=sF x.zA.length (by omega);have ht:=hE.t;have hr:=zMt h hE hT h0;have hrl:=hr.1;unfold zLk;dsimp only
 have e0:ixO T 0=some (T.getD 0 []):=yC (i:=0) [] (by omega);rw[decide_eq_true (by omega),zH,e0,bs,yO (by omega),bs,yO (by omega),bs,zCj h hE hT hk,tX (zS _),hrl,fv]
 congr 2
 simp only[zeros,Jm];congr 1;omega
theorem zRy{u v:Vec}(hu:Row m.Prime D u)(hv:Row m.Prime D v):f_n m.Prime u 1 v=some (adv m.Prime D u v):=by
 have _:=h;have _:=hT;have h3:=hE.m.d3;rw[wZ hE.m.p hu hv (by omega) (by omega)]
 congr 1
 exact zW fun j _=>by rw[Q9]
theorem prV{k:Nat}(hk:k≤x.zA.length){w:Vec}(hw:V (suf (exx D x m T) k) w):∃y u,w=y++u∧V (suf x k) y∧Row m.Prime D u∧prE x k w=⟨fv k y,u⟩∧y.length=x.zA.length-k:=by obtain⟨y,u,rfl,hy,hu⟩:=(zCT h hE hT (x.zA.length-k) k (by omega) _).1 hw;have hyl:=sS h hk hy;exact⟨y,u,rfl,hy,hu,tX hyl,hyl⟩
variable (hM:Mv D x.zA.length m0 m)
 include hM
theorem zKL{k:Nat}(hk:k<x.zA.length){g:zP→Int→zG→zG→Option zG}(hg:zRw D x m0 m T (k+1) g):zRx D x m0 m T k (b_f g):=by
 intro v hv;have hn:=hE.hn;have hp:=hE.m.p.pos;have ok:=zAX h hE hT (k:=k+1) (by omega);have hA:=hE.m.mat k hk;obtain⟨y,u,rfl,hy,hu,hpr,hyl⟩:=prV h hE hT (k:=k+1) (by omega) hv;obtain⟨_,hyr⟩:=zDq h.os (x.zA.length-(k+1)) (k+1) y (by omega) hy;have hcl:=zEc h hE hT (k:=k);have hcs:=zRp h hE hT hk;have hcg:∀i,i<x.zA.length-(k+1)→(eC1 x T k).getD i []=(lvl (exx D x m T) k).cs.getD i []:=fun i hi=>by rw[zGT h hE hT hk,J2,J2,Jo (by omega)]
 obtain⟨A,hAe⟩:∃A:Nat→Vec,∀i,A i=img (mul (suf (exx D x m T) (k+1))) ((eC1 x T k).take i) (y.take i) (zeros (suf (exx D x m T) (k+1)).length):=⟨_,fun _=>rfl⟩;have hI:∀i,V (suf (exx D x m T) (k+1)) (A i):=fun i=>by rw[hAe];exact qA (xP ok) _ _ (fun c hc=>hcs c (Gl hc)) (wK ok)
 have hA0:A 0=zeros (suf (exx D x m T) (k+1)).length:=by rw[hAe];simp only[Jx,img]
 have hAn:A (x.zA.length-(k+1))=sgG D x m T k y:=by rw[hAe,Je (by omega),Je (by omega)];rfl
 rw[hpr];unfold b_f;dsimp only
 rw[zJk h hE hT (k:=k+1) (by omega) (by omega),bs,zD (by omega) (by omega),bs,cs];have:=zN (body:=zSP g ⟨x,m0,T⟩ k ⟨fv (k+1) y,u⟩) (r:=((prE x (k+1) (sgG D x m T k y)).x,(prE x (k+1) (sgG D x m T k y)).v))
  (fun i=>((prE x (k+1) (A i)).x,(prE x (k+1) (A i)).v,((k+1+i:Nat):Int))) (x.zA.length-(k+1)) (fun i hi=>by
  have hr:=hyr i hi;obtain⟨c1,c2⟩:=zEd h hE hT (k:=k) (j:=k+1+i) (by omega) (by omega);rw[show k+1+i-(k+1)=i from by omega]at c1 c2;unfold zSP;dsimp only
  rw[decide_eq_true (by rw[zBZ h (by omega) hy];omega),zH];rw[zB1 (S:=V (suf (exx D x m T) (k+1))) (fun w=>(prE x (k+1) w).x) (fun w=>(prE x (k+1) w).v) (fun w=>mul (suf (exx D x m T) (k+1)) w ((lvl (exx D x m T) k).cs.getD i [])) (at0 y i) hr.1 (fun w hw=>xP ok hw c2) (fun w q hw hq=>by
   unfold zUx;dsimp only
   rw[fv,zKk (by omega),bs,decide_eq_true hq,zH,zD (by omega) (by omega),bs,c1,bs,cs,show(zG.mk (prE x (k+1) w).x (prE x (k+1) w).v)=prE x (k+1) w from rfl,hg w _ hw c2,bs,zD (by omega) (by omega),bs,cs]) (fun w hw=>by
   unfold zUx;dsimp only
   rw[fv,zKk (by omega),bs,decide_eq_false (by omega),zE]) (hI i),bs,zD (by omega) (by omega),bs,cs]
  rw[hAe (i+1),zAP _ _ _ _ (by omega) (by omega),hcg i hi,←hAe];rfl) (by
  unfold zSP;dsimp only
  rw[decide_eq_false (by rw[zBZ h (by omega) hy];omega),zE,hAn])
 rw[hA0,G7]at this;rw[this,bs,hM.mv k hk _ hu,bs];obtain⟨y1,u1,e,hy1,hu1,hpr1,hyl1⟩:=prV h hE hT (k:=k+1) (by omega) (zRq h hE hT hk (y:=y));rw[zMr h hE hT hk hy hu,hpr1,e,K7 hyl1,Ly hyl1,tX hyl1];dsimp only
 rw[hM.pr,zRy h hE hT hu1 (jN (by omega)),bs]
theorem zRz{k:Nat}(hk:k<x.zA.length){g:zP→Int→zG→zG→Option zG}{gi:zP→Int→zG→Option zG}(hg:zRw D x m0 m T (k+1) g)(hi:zRx D x m0 m T k gi):zRw D x m0 m T k (b_d gi g):=by
 have _:=hM;intro a b ha hb;have hn:=hE.hn;have hl:=uD h hE hT;have hp:=(h.os.2 k hk).pos;have ok:=zAX h hE hT (k:=k+1) (by omega);have ok0:=zAX h hE hT (k:=k) (by omega);obtain⟨al,au,rfl,hal,hau,hpa,hall⟩:=prV h hE hT (k:=k) (by omega) ha;obtain⟨bl,bu,rfl,hbl,hbu,hpb,hbll⟩:=prV h hE hT (k:=k) (by omega) hb;rw[hpa,hpb];rw[yK (x:=x) hk]at hal hbl;rw[yK (x:=exx D x m T) (by omega)]at ok0 ⊢
 obtain⟨a0,a,rfl⟩:∃a0 a',al=a0::a':=by cases al with|nil=>exact hal.elim|cons p q=>exact⟨p,q,rfl⟩
 obtain⟨b0,b,rfl⟩:∃a0 a',bl=a0::a':=by cases bl with|nil=>exact hbl.elim|cons p q=>exact⟨p,q,rfl⟩
 obtain⟨⟨a1,a2⟩,hal⟩:=hal;obtain⟨⟨b1,b2⟩,hbl⟩:=hbl;change a0<at0 x.zA k at a2;change b0<at0 x.zA k at b2;have hal1:=sS h (by omega) hal;have hbl1:=sS h (by omega) hbl;have hA:=(zCT h hE hT (x.zA.length-(k+1)) (k+1) (by omega) (a++au)).2 ⟨_,_,rfl,hal,hau⟩;have hB:=(zCT h hE hT (x.zA.length-(k+1)) (k+1) (by omega) (b++bu)).2 ⟨_,_,rfl,hbl,hbu⟩;have own:∀u,V (suf x (k+1)) u→f_v (fv (k+1) u)=some (fv (k+1) u):=fun u hu=>tN (by rw[zBZ h (by omega) hu];omega)
 have own':∀(c:Int) u,V (suf x (k+1)) u→f_v (fv k (c::u))=some (fv k (c::u)):=fun c u hu=>tN (by have:=sS h (by omega) hu;rw[fv,J6,zS,Jh];omega)
 have hsig:∀u,V (suf (exx D x m T) (k+1)) u→V (suf (exx D x m T) (k+1)) (sig (suf (exx D x m T) (k+1)) (lvl (exx D x m T) k) u):=fun u hu=>zDo ok0 hu
 have hit:V (suf (exx D x m T) (k+1)) (iter b0.toNat (sig (suf (exx D x m T) (k+1)) (lvl (exx D x m T) k)) (a++au)):=vD hsig _ hA;have ea:(⟨fv (k+1) a,au⟩:zG)=prE x (k+1) (a++au):=(tX hal1).symm;have eb:(⟨fv (k+1) b,bu⟩:zG)=prE x (k+1) (b++bu):=(tX hbl1).symm;unfold b_d;dsimp only
 rw[decide_eq_false (by omega),zE,own' _ _ hal,bs,own' _ _ hbl,bs,zBX,bs,zBX,bs,J7,zCP,zCP,zBq,zBq];have e1:zF (zPl gi ⟨x,m0,T⟩ k ⟨fv k (b0::b),bu⟩) (zeros (k+1)++a,au,0)=some ((prE x (k+1) (iter b0.toNat (sig (suf (exx D x m T) (k+1)) (lvl (exx D x m T) k)) (a++au))).x,(prE x (k+1) (iter b0.toNat (sig (suf (exx D x m T) (k+1)) (lvl (exx D x m T) k)) (a++au))).v):=by
  have:=zB1 (body:=zPl gi ⟨x,m0,T⟩ k ⟨fv k (b0::b),bu⟩) (S:=V (suf (exx D x m T) (k+1))) (fun w=>(prE x (k+1) w).x) (fun w=>(prE x (k+1) w).v) (sig (suf (exx D x m T) (k+1)) (lvl (exx D x m T) k)) b0 b1 hsig (fun w q hw hq=>by
   unfold zPl;dsimp only
   rw[zBX,bs,decide_eq_true hq,zH,show(zG.mk (prE x (k+1) w).x (prE x (k+1) w).v)=prE x (k+1) w from rfl,hi w hw,bs,zD (by omega) (by omega),bs,cs]) (fun w hw=>by
   unfold zPl;dsimp only
   rw[zBX,bs,decide_eq_false (by omega),zE]) hA
  rw[←ea]at this;exact this
 rw[e1,bs,zD (by omega) (by omega),bs,cs];dsimp only
 rw[show zeros (k+1)++b=fv (k+1) b from rfl,eb,show(zG.mk (prE x (k+1) (iter b0.toNat (sig (suf (exx D x m T) (k+1)) (lvl (exx D x m T) k)) (a++au))).x (prE x (k+1) (iter b0.toNat (sig (suf (exx D x m T) (k+1)) (lvl (exx D x m T) k)) (a++au))).v)=prE x (k+1) (iter b0.toNat (sig (suf (exx D x m T) (k+1)) (lvl (exx D x m T) k)) (a++au))from rfl,hg _ _ hit hB,bs,bs,bs,zD (by omega) (by omega),bs,yE hk,bs];have hm:=xP ok hit hB;show _=some (prE x k (mul _ (a0::(a++au)) (b0::(b++bu))));rw[yU,zGS h hE hT hk]
 generalize mul (suf (exx D x m T) (k+1)) (iter b0.toNat (sig (suf (exx D x m T) (k+1)) (lvl (exx D x m T) k)) (a++au)) (b++bu)=r at hm ⊢
 have fin:∀(c:Int) w,V (suf (exx D x m T) (k+1)) w→((f_v (prE x (k+1) w).x).bind fun r22=>(ixO r22 (k:Int)).bind fun _=>some (zG.mk (r22.set k c) (prE x (k+1) w).v))=some (prE x k (c::w)):=fun c w hw=>by
  obtain⟨w1,w2,rfl,h1,h2,h3,h4⟩:=prV h hE hT (k:=k+1) (by omega) hw;have e3:prE x k (c::(w1++w2))=⟨fv k (c::w1),w2⟩:=tX (y:=c::w1) (by rw[Jh];omega);rw[h3,e3];dsimp only
  rw[own _ h1,bs,fv,←zBq,zBX,bs,zCP]
 by_cases hge:a0+b0≥at0 x.zA k
 ·obtain⟨p1,p2⟩:=zJj h hE hT (k:=k) (j:=k) (Ji k) hk
  change V (suf (exx D x m T) (k+1)) (lvl (exx D x m T) k).w at p2;rw[decide_eq_true hge,zH,if_pos hge,bs,zD (by omega) (by omega),bs,bs,p1,bs];have e4:=hg _ _ p2 hm;rw[show(((exx D x m T).zT.getD k []).drop (k+1))=(lvl (exx D x m T) k).w from rfl,e4,bs];exact fin _ _ (xP ok p2 hm)
 ·rw[decide_eq_false hge,zE,if_neg hge]
  exact fin _ _ hm
theorem zDy:∀(d k:Nat),k+d=x.zA.length→(∀q,2*d+1≤q→zRw D x m0 m T k (zMF q))∧(1≤d→ ∀q,2*d≤q→zRx D x m0 m T k (zME q))
 |0,k,hk=>by
  refine⟨fun q hq a b ha hb=>?_,fun h=>by omega⟩;have hn:=hE.hn;have hp:=hE.m.p.pos;obtain⟨q,rfl⟩:∃m',q=m'+1:=⟨q-1,by omega⟩;rw[zB0 h hE hT D k (by omega) (by omega)]at ha hb ⊢
  have ha':=(zFk _ _).1 ha;have hb':=(zFk _ _).1 hb;show b_d _ _ ⟨x,m0,T⟩ k _ _=_;unfold b_d;have e:∀w:Vec,prE x k w=⟨zeros k,w⟩:=fun w=>by rw[prE,show x.zA.length-k=0 from by omega,Jx,Hx,fv,J9]
  rw[e,e,e];dsimp only
  rw[decide_eq_true (by omega),zH,yO (by omega),bs,hM.pr,zRy h hE hT ha' hb',bs,jA (by omega) D _ _ ha' hb',show x.zA.length=k from by omega];rfl
 |d+1,k,hk=>by
  obtain⟨h1,h2⟩:=zDy d (k+1) (by omega);have hI:∀q,2*(d+1)≤q→zRx D x m0 m T k (zME q):=fun q hq=>by obtain⟨q,rfl⟩:∃m',q=m'+1:=⟨q-1,by omega⟩;exact zKL h hE hT hM (by omega) (h1 q (by omega))
  refine⟨fun q hq=>?_,fun _=>hI⟩;obtain⟨q,rfl⟩:∃m',q=m'+1:=⟨q-1,by omega⟩;exact zRz h hE hT hM (by omega) (h1 q (by omega)) (hI q (by omega))
theorem zGY{k:Nat}(hk:k≤x.zA.length):zRw D x m0 m T k f_d:=fun a b ha hb=>
 zAJ (2*(x.zA.length-k)+1) fun q hq=>(zDy h hE hT hM (x.zA.length-k) k (by omega)).1 q hq a b ha hb
theorem zAu{k:Nat}(hk:k<x.zA.length):zRx D x m0 m T k f_f:=fun v hv=>
 zAJ (2*(x.zA.length-k)) fun q hq=>(zDy h hE hT hM (x.zA.length-k) k (by omega)).2 (by omega) q hq v hv
end
end Go.Pl

namespace Go.Pl
open Go Go.Ab Go.Wk Go.Pc
structure GR (p:Int) (D:Nat) (Z:Vec→Prop) (L:Mx) (N:Nat) (C:Prop):Prop where
 len:L.length≤N
 row:∀r∈L,Row p D r
 iff:(∀r∈L,Z r)↔C
theorem GR.nil{p:Int}{D N:Nat}{Z:Vec→Prop}:GR p D Z [] N True:=⟨by simp,by simp,by simp⟩
theorem GR.app{p:Int}{D N M:Nat}{Z:Vec→Prop}{L L':Mx}{C C':Prop}(h:GR p D Z L N C)(h':GR p D Z L' M C'):GR p D Z (L++L') (N+M) (C∧C'):=by
 refine⟨by have:=h.len;have:=h'.len;rw[J6];omega,fun r hr=>?_,?_⟩
 ·rcases Lf.1 hr with g|g
  ·exact h.row r g
  ·exact h'.row r g
 ·rw[←h.iff,←h'.iff]
  exact⟨fun g=>⟨fun r hr=>g r (Jae _ hr),fun r hr=>g r (List.mem_append_right _ hr)⟩,fun g r hr=>(Lf.1 hr).elim (g.1 r) (g.2 r)⟩
theorem GR.one{p:Int}{D:Nat}{Z:Vec→Prop}{r:List Int}{C:Prop}(hr:Row p D r)(h:Z r↔C):GR p D Z [r] 1 C:=
 ⟨by simp,fun q hq=>by rw[List.mem_singleton.1 hq];exact hr,by rw[←h];exact⟨fun g=>g r (by simp),fun g q hq=>by rw[List.mem_singleton.1 hq];exact g⟩⟩
theorem GR.to{p:Int}{D N M:Nat}{Z:Vec→Prop}{L:Mx}{C C':Prop}(h:GR p D Z L N C)(hN:N≤M)(hc:C↔C'):GR p D Z L M C':=⟨by have:=h.len;omega,h.row,h.iff.trans hc⟩
def c1Q(Q:Nat→Vec→Vec→Prop)(e:SPr)(k j:Nat):Prop:=Q (k+1) (pw (mul (suf e (k+1))) (zeros (suf e (k+1)).length) ((lvl e k).cs.getD (j-(k+1)) []) (at0 e.zA j).toNat) (sig (suf e (k+1)) (lvl e k) ((e.zT.getD j []).drop (k+1)))
def c2Q(Q:Nat→Vec→Vec→Prop)(e:SPr)(k i j:Nat):Prop:=Q (k+1) (mul (suf e (k+1)) ((lvl e k).cs.getD (j-(k+1)) []) ((lvl e k).cs.getD (i-(k+1)) [])) (mul (suf e (k+1)) ((lvl e k).cs.getD (i-(k+1)) []) (sig (suf e (k+1)) (lvl e k) (((e.zB.getD i []).getD (j-(i+1)) []).drop (k+1))))
def c4Q(Q:Nat→Vec→Vec→Prop)(e:SPr)(k j:Nat):Prop:=Q (k+1) (mul (suf e (k+1)) (lvl e k).w (iter (lvl e k).o.toNat (sig (suf e (k+1)) (lvl e k)) (wL (e.zA.length-(k+1)) (j-(k+1))))) (mul (suf e (k+1)) (wL (e.zA.length-(k+1)) (j-(k+1))) (lvl e k).w)
structure LCQ (Q:Nat→Vec→Vec→Prop) (x e:SPr) (k:Nat):Prop where
 c1:∀j,k+1≤j→j<x.zA.length→c1Q Q e k j
 c2:∀i,k+1≤i→i<x.zA.length→ ∀j,i+1≤j→j<x.zA.length→c2Q Q e k i j
 c3:Q (k+1) (sig (suf e (k+1)) (lvl e k) (lvl e k).w) (lvl e k).w
 c4:∀j,k+1≤j→j<x.zA.length→c4Q Q e k j
section
variable {D:Nat}{x:SPr}{m0 m:zC}{T:Mx} (h:Pres x) (hE:ExB x.zA.length D x m T) (hT:∀i,i<T.length→Row m.Prime D (T.getD i []))
 include h hE hT
theorem zGZ{k:Nat}(hk:k≤x.zA.length){a b:Vec}(ha:V (suf (exx D x m T) k) a)(hb:V (suf (exx D x m T) k) b):(mul (suf (exx D x m T) k) a b).take (x.zA.length-k)=mul (suf x k) (a.take (x.zA.length-k)) (b.take (x.zA.length-k)):=zJi h hE hT _ k (by omega) a b ha hb
theorem zJl{k:Nat}(hk:k<x.zA.length){v:Vec}(hv:V (suf (exx D x m T) (k+1)) v):(sig (suf (exx D x m T) (k+1)) (lvl (exx D x m T) k) v).take (x.zA.length-(k+1))=sig (suf x (k+1)) (lvl x k) (v.take (x.zA.length-(k+1))):=
 zKJ h hE hT hk (zJi h hE hT _ (k+1) (by omega)) hv
theorem zEQ{k:Nat}(hk:k<x.zA.length){v:Vec}(hv:V (suf (exx D x m T) (k+1)) v):V (suf (exx D x m T) (k+1)) (sig (suf (exx D x m T) (k+1)) (lvl (exx D x m T) k) v):=by have hok:=zAX h hE hT (k:=k) (by omega);rw[yK (x:=exx D x m T) (by rw[uD h hE hT];omega)]at hok;exact zDo hok hv
theorem zNY{k:Nat}(hk:k<x.zA.length):∀(q:Nat){v:Vec},V (suf (exx D x m T) (k+1)) v→(iter q (sig (suf (exx D x m T) (k+1)) (lvl (exx D x m T) k)) v).take (x.zA.length-(k+1))=iter q (sig (suf x (k+1)) (lvl x k)) (v.take (x.zA.length-(k+1)))
 |0,_,_=>rfl
 |q+1,v,hv=>by have:=zNY hk q (zEQ h hE hT hk hv);rw[zJl h hE hT hk hv]at this;exact this
theorem zTP{k:Nat}(hk:k≤x.zA.length):(zeros (suf (exx D x m T) k).length).take (x.zA.length-k)=zeros (suf x k).length:=by rw[zCj h hE hT hk,K7 (zS _),xM]
theorem zYo{k:Nat}(hk:k≤x.zA.length){c:Vec}(hc:V (suf (exx D x m T) k) c)(q:Nat):(pw (mul (suf (exx D x m T) k)) (zeros (suf (exx D x m T) k).length) c q).take (x.zA.length-k)=pw (mul (suf x k)) (zeros (suf x k).length) (c.take (x.zA.length-k)) q:=by have ok:=zAX h hE hT (k:=k) (by omega);have:=zGV (S:=V (suf (exx D x m T) k)) (n:=mul (suf x k)) (·.take (x.zA.length-k)) (fun a b=>xP ok) (fun a b=>zGZ h hE hT hk) [c] [(q:Int)] (zeros (suf (exx D x m T) k).length) (fun a ha=>by rw[List.mem_singleton.1 ha];exact hc) (wK ok);simp only[Jk,Lr,img,J7]at this;rw[zTP h hE hT hk]at this;exact this
section
variable {k:Nat} (hk:k<x.zA.length)
 include hk
theorem zR0{j:Nat}(h1:k+1≤j)(h2:j<x.zA.length):((lvl (exx D x m T) k).cs.getD (j-(k+1)) []).take (x.zA.length-(k+1))=(lvl x k).cs.getD (j-(k+1)) []:=by rw[zVl h hE hT hk h1 h2,K7 (sS h (by omega) (jL h hk h1 h2).2.2)]
theorem zMw{j:Nat}(h1:k≤j)(h2:j<x.zA.length):(((exx D x m T).zT.getD j []).drop (k+1)).take (x.zA.length-(k+1))=(x.zT.getD j []).drop (k+1):=by have t1:=(h.tl j h2).1.1.1;rw[zMu h hE hT h1 h2,K7 (by rw[K8];omega)]
theorem zWu{i j:Nat}(h1:k+1≤i)(h2:i<j)(h3:j<x.zA.length):((((exx D x m T).zB.getD i []).getD (j-(i+1)) []).drop (k+1)).take (x.zA.length-(k+1))=((x.zB.getD i []).getD (j-(i+1)) []).drop (k+1):=by rw[zMv h hE hT (by omega) h2 h3,K7 (sS h (by omega) (zQK h hk h1 h2 h3).2.2)]
theorem zWv{j:Nat}(h1:k+1≤j)(h2:j<x.zA.length):wL ((exx D x m T).zA.length-(k+1)) (j-(k+1))=wL (x.zA.length-(k+1)) (j-(k+1))++zeros D:=by rw[uD h hE hT,kH (by omega),kH (by omega),Jc,Kh];simp only[zeros,Jm];rw[show x.zA.length+D-(k+1)-(j-(k+1)+1)=x.zA.length-(k+1)-(j-(k+1)+1)+D from by omega]
end
variable (hM:Mv D x.zA.length m0 m) {Z:Vec→Prop}{Q:Nat→Vec→Vec→Prop} (hZ:∀k,k≤x.zA.length→ ∀a b,V (suf (exx D x m T) k) a→V (suf (exx D x m T) k) b→a.take (x.zA.length-k)=b.take (x.zA.length-k)→(Z (xK m.Prime D (a.drop (x.zA.length-k)) (-1) (b.drop (x.zA.length-k)))↔Q k a b))
 include hM hZ
theorem zJm{k:Nat}(hk:k≤x.zA.length){a b:Vec}(ha:V (suf (exx D x m T) k) a)(hb:V (suf (exx D x m T) k) b)(e:a.take (x.zA.length-k)=b.take (x.zA.length-k)):∃r,zLl ⟨x,m0,T⟩ (prE x k a) (prE x k b)=some r∧Row m.Prime D r∧(Z r↔Q k a b):=by
 have h7:=hE.m.p.pos;have h3:=hE.m.d3;obtain⟨y,u,rfl,hy,hu,hpr,hyl⟩:=prV h hE hT hk ha;obtain⟨z,v,rfl,hz,hv,hpr2,hzl⟩:=prV h hE hT hk hb;have hz0:=hZ k hk _ _ ha hb e;rw[Ly hyl,Ly hzl]at hz0;unfold zLl;rw[hpr,hpr2];dsimp only
 rw[hM.pr,zD (by omega) (by omega),bs,wZ hE.m.p hu hv (by omega) (by omega),bs,zAa];exact⟨_,rfl,tP hE.m.p,hz0⟩
section
variable {k:Nat} (hk:k<x.zA.length) (hc:LC x k)
 include hk
 include hc
theorem zYV{j:Nat}(h1:k+1≤j)(h2:j<x.zA.length){L0 L:Mx}{N:Nat}{C:Prop}(hL:GR m.Prime D Z L N C)(hN:N≤1000){f:Mx→Option (Mx×Int⊕Mx)}:∃L',((zLk ⟨x,m0,T⟩).bind fun r2=>
  (zF (zPm ⟨x,m0,T⟩ (k:Int) (L0,(j:Int))) (r2.x,r2.v,0)).bind fun r8=>
  (zMD ⟨x,m0,T⟩ (j:Int)).bind fun r9=>
  (f_f ⟨x,m0,T⟩ (k:Int) r9).bind fun r10=>
  (zLl ⟨x,m0,T⟩ (zG.mk r8.1 r8.2) r10).bind fun r11=>
  (yZ L [r11]).bind f)=f L'∧GR m.Prime D Z L' (N+1) (C∧c1Q Q (exx D x m T) k j):=by
 have ok:=zAX h hE hT (k:=k+1) (by omega);have hn:=hE.hn;have hp:=(h.os.2 j h2).pos;have hz:=wK ok;obtain⟨c1,c2⟩:=zEd h hE hT (k:=k) (j:=j) (by omega) h2;obtain⟨p1,p2⟩:=zJj h hE hT (k:=k) (j:=j) (by omega) h2;have hA:=zGY h hE hT hM (k:=k+1) (by omega);have hI:=zAu h hE hT hM hk;have hlp:zF (zPm ⟨x,m0,T⟩ (k:Int) (L0,(j:Int))) ((prE x (k+1) (zeros (suf (exx D x m T) (k+1)).length)).x,(prE x (k+1) (zeros (suf (exx D x m T) (k+1)).length)).v,0)=some ((prE x (k+1) (pw (mul (suf (exx D x m T) (k+1))) (zeros (suf (exx D x m T) (k+1)).length) ((lvl (exx D x m T) k).cs.getD (j-(k+1)) []) (at0 x.zA j).toNat)).x,(prE x (k+1) (pw (mul (suf (exx D x m T) (k+1))) (zeros (suf (exx D x m T) (k+1)).length) ((lvl (exx D x m T) k).cs.getD (j-(k+1)) []) (at0 x.zA j).toNat)).v):=
  zB1 (S:=V (suf (exx D x m T) (k+1))) (fun w=>(prE x (k+1) w).x) (fun w=>(prE x (k+1) w).v) (fun w=>mul (suf (exx D x m T) (k+1)) w ((lvl (exx D x m T) k).cs.getD (j-(k+1)) [])) (at0 x.zA j) (by omega) (fun w hw=>xP ok hw c2) (fun w q hw hq=>by
   unfold zPm;dsimp only
   rw[yE h2,bs,decide_eq_true hq,zH,zD (by omega) (by omega),bs,c1,bs,cs,show(zG.mk (prE x (k+1) w).x (prE x (k+1) w).v)=prE x (k+1) w from rfl,hA w _ hw c2,bs,zD (by omega) (by omega),bs,cs]) (fun w hw=>by
   unfold zPm;dsimp only
   rw[yE h2,bs,decide_eq_false (by omega),zE]) hz
 have hpw:V (suf (exx D x m T) (k+1)) (pw (mul (suf (exx D x m T) (k+1))) (zeros (suf (exx D x m T) (k+1)).length) ((lvl (exx D x m T) k).cs.getD (j-(k+1)) []) (at0 x.zA j).toNat):=vD (fun w hw=>xP ok hw c2) _ hz;obtain⟨r,r1,r2,r3⟩:=zJm h hE hT hM hZ (k:=k+1) (by omega) hpw (zEQ h hE hT hk p2) (by rw[zYo h hE hT (by omega) c2,zJl h hE hT hk p2,zR0 h hE hT hk h1 h2,zMw h hE hT hk (by omega) h2];exact hc.c1 j h1 h2)
 have hll:=hL.len;refine⟨L++[r],?_,hL.app (GR.one r2 (r3.trans ?_))⟩
 ·rw[zJk h hE hT (k:=k+1) (by omega) (by omega),bs,hlp,bs,p1,bs,hI _ p2,bs]
  dsimp only
  rw[r1,bs,yF (by simp;omega),bs]
 ·unfold c1Q;rw[zC5 h hE hT h2]
theorem zYW{j:Nat}(h1:k+1≤j)(h2:j<x.zA.length){L0 L:Mx}{N:Nat}{C:Prop}(hL:GR m.Prime D Z L N C)(hN:N≤1000):∃L',zF (zPn ⟨x,m0,T⟩ (k:Int) (L0,(j:Int))) (L,((j+1:Nat):Int))=some L'∧GR m.Prime D Z L' (N+(x.zA.length-(j+1))) (C∧ ∀j2,j+1≤j2→j2<x.zA.length→c2Q Q (exx D x m T) k j j2):=by
 have ok:=zAX h hE hT (k:=k+1) (by omega);have hn:=hE.hn;have hA:=zGY h hE hT hM (k:=k+1) (by omega);have hI:=zAu h hE hT hM hk;refine vT (fun i(s:Mx×Int)=>s.2=((j+1+i:Nat):Int)∧GR m.Prime D Z s.1 (N+i) (C∧ ∀j2,j+1≤j2→j2<j+1+i→c2Q Q (exx D x m T) k j j2)) (x.zA.length-(j+1)) (fun i s hi ⟨hs,hg⟩=>?_) (fun s ⟨hs,hg⟩=>?_) ⟨rfl,hL.to (by omega) ⟨fun g=>⟨g,fun j2 a b=>by omega⟩,fun g=>g.1⟩⟩
 ·left
  obtain⟨L1,s2⟩:=s;dsimp only at hs hg;subst hs;have g2:j+1+i<x.zA.length:=by omega
  obtain⟨a1,a2⟩:=zEd h hE hT (k:=k) (j:=j) (by omega) h2;obtain⟨b1,b2⟩:=zEd h hE hT (k:=k) (j:=j+1+i) (by omega) g2;obtain⟨d1,d2⟩:=zNX h hE hT (k:=k) (i:=j) (j:=j+1+i) (by omega) (by omega) g2;have hs:=zEQ h hE hT hk d2;obtain⟨r,r1,r2,r3⟩:=zJm h hE hT hM hZ (k:=k+1) (by omega) (xP ok b2 a2) (xP ok a2 hs) (by rw[zGZ h hE hT (by omega) b2 a2,zGZ h hE hT (by omega) a2 hs,zJl h hE hT hk d2,zR0 h hE hT hk h1 h2,zR0 h hE hT hk (by omega) g2,zWu h hE hT hk h1 (by omega) g2];exact hc.c2 j h1 h2 (j+1+i) (by omega) g2)
  have hll:=hg.len;refine⟨(L1++[r],((j+1+i+1:Nat):Int)),?_,rfl,(hg.app (GR.one r2 r3)).to (by omega) ?_⟩
  ·unfold zPn
   dsimp only
   rw[decide_eq_true (by omega),zH,a1,bs,b1,bs,d1,bs,hI _ d2,bs,zD (by omega) (by omega),bs,cs,hA _ _ b2 a2,bs,bs,hA _ _ a2 hs,bs,r1,bs,yF (by simp;omega),bs,zD (by omega) (by omega),bs,cs]
  ·constructor
   ·rintro⟨⟨g1,g3⟩,g4⟩
    refine⟨g1,fun j2 e1 e2=>?_⟩;rcases Jf j2 (j+1+i)with e|e
    ·exact g3 j2 e1 e
    ·obtain rfl:j2=j+1+i:=by omega
     exact g4
   ·rintro⟨g1,g3⟩
    exact⟨⟨g1,fun j2 e1 e2=>g3 j2 e1 (by omega)⟩,g3 (j+1+i) (by omega) (by omega)⟩
 ·obtain⟨L1,s2⟩:=s
  dsimp only at hs hg;subst hs;refine⟨L1,?_,hg.to (Ji _) ?_⟩
  ·unfold zPn
   dsimp only
   rw[decide_eq_false (by omega),zE]
  ·rw[show j+1+(x.zA.length-(j+1))=x.zA.length from by omega]
theorem zYX:∃L',zF (zSQ ⟨x,m0,T⟩ (k:Int)) ([],((k+1:Nat):Int))=some L'∧GR m.Prime D Z L' 100 (∀j,k+1≤j→j<x.zA.length→c1Q Q (exx D x m T) k j∧ ∀j2,j+1≤j2→j2<x.zA.length→c2Q Q (exx D x m T) k j j2):=by
 have hn:=hE.hn;refine vT (fun i(s:Mx×Int)=>s.2=((k+1+i:Nat):Int)∧GR m.Prime D Z s.1 (7*i) (∀j,k+1≤j→j<k+1+i→c1Q Q (exx D x m T) k j∧ ∀j2,j+1≤j2→j2<x.zA.length→c2Q Q (exx D x m T) k j j2)) (x.zA.length-(k+1)) (fun i s hi ⟨hs,hg⟩=>?_) (fun s ⟨hs,hg⟩=>?_) ⟨rfl,(GR.nil (N:=0)).to (by omega) ⟨fun _ j a b=>by omega,fun _=>trivial⟩⟩
 ·left
  obtain⟨L1,s2⟩:=s;dsimp only at hs hg;subst hs;have g2:k+1+i<x.zA.length:=by omega
  obtain⟨L2,e2,hg2⟩:=zYV h hE hT hM hZ hk hc (j:=k+1+i) (by omega) g2 (L0:=L1) hg (by omega) (f:=fun v12=>(rng (((k+1+i:Nat):Int)+1)).bind fun v13=>
   (zF (zPn ⟨x,m0,T⟩ (k:Int) (L1,((k+1+i:Nat):Int))) (v12,v13)).bind fun r25=>
   (rng (((k+1+i:Nat):Int)+1)).bind fun v26=>some (.inl (r25,v26)))
  obtain⟨L3,e3,hg3⟩:=zYW h hE hT hM hZ hk hc (j:=k+1+i) (by omega) g2 (L0:=L1) hg2 (by omega);refine⟨(L3,((k+1+i+1:Nat):Int)),?_,rfl,hg3.to (by omega) ?_⟩
  ·unfold zSQ
   dsimp only
   rw[decide_eq_true (by omega),zH,e2,zD (by omega) (by omega),bs,cs,e3,bs,bs]
  ·constructor
   ·rintro⟨⟨g1,g3⟩,g4⟩ j e1 e2
    rcases Jf j (k+1+i)with e|e
    ·exact g1 j e1 e
    ·obtain rfl:j=k+1+i:=by omega
     exact⟨g3,g4⟩
   ·intro g
    have:=g (k+1+i) (by omega) (by omega);exact⟨⟨fun j e1 e2=>g j e1 (by omega),this.1⟩,this.2⟩
 ·obtain⟨L1,s2⟩:=s
  dsimp only at hs hg;subst hs;refine⟨L1,?_,hg.to (by omega) ?_⟩
  ·unfold zSQ
   dsimp only
   rw[decide_eq_false (by omega),zE]
  ·rw[show k+1+(x.zA.length-(k+1))=x.zA.length from by omega]
theorem zR1{j:Nat}(h1:k+1≤j)(h2:j<x.zA.length):∃r,zLk ⟨x,m0,T⟩=some r∧ixO r.x (j:Int)=some 0∧r.x.set j 1=(prE x (k+1) (wL (x.zA.length-(k+1)) (j-(k+1))++zeros D)).x∧r.v=(prE x (k+1) (wL (x.zA.length-(k+1)) (j-(k+1))++zeros D)).v:=by
 have _:=hM;have _:=hZ;have _:=hc;have hn:=hE.hn;have hul:(wL (x.zA.length-(k+1)) (j-(k+1))).length=x.zA.length-(k+1):=by rw[jR,zZ]
 refine⟨_,zJk h hE hT (k:=k+1) (by omega) (by omega),?_,?_,?_⟩
 ·rw[zCj h hE hT (by omega),tX (zS _)]
  dsimp only
  simp only[fv,zeros,Jm];rw[wU,Ki,if_pos (by omega)]
 ·rw[zCj h hE hT (by omega),tX (zS _),tX hul]
  dsimp only
  have e1:fv (k+1) (zeros (x.zA.length-(k+1)))=zeros j++0::zeros (x.zA.length-(k+1)-(j-(k+1)+1)):=by
   simp only[fv,zeros];rw[←Kj,Jm,Jm]
   congr 1;omega
  rw[e1,zCP,fv,kH (by omega),←Jc];simp only[zeros,Jm];rw[show k+1+(j-(k+1))=j from by omega]
 ·rw[zCj h hE hT (by omega),tX (zS _),tX hul]
theorem zYY{L:Mx}{N:Nat}{C:Prop}(hL:GR m.Prime D Z L N C)(hN:N≤1000):∃L',zF (zPo ⟨x,m0,T⟩ (k:Int) (prE x (k+1) (((exx D x m T).zT.getD k []).drop (k+1)))) (L,((k+1:Nat):Int))=some L'∧GR m.Prime D Z L' (N+(x.zA.length-(k+1))) (C∧ ∀j,k+1≤j→j<x.zA.length→c4Q Q (exx D x m T) k j):=by
 have hn:=hE.hn;have hpk:=(h.os.2 k hk).pos;have h7:=hE.m.p.pos;have ok:=zAX h hE hT (k:=k+1) (by omega);have hA:=zGY h hE hT hM (k:=k+1) (by omega);have hI:=zAu h hE hT hM hk;obtain⟨p1,p2⟩:=zJj (m0:=m0) h hE hT (k:=k) (j:=k) (Ji k) hk;change V (suf (exx D x m T) (k+1)) (lvl (exx D x m T) k).w at p2;change∃L',zF (zPo ⟨x,m0,T⟩ (k:Int) (prE x (k+1) (lvl (exx D x m T) k).w)) (L,((k+1:Nat):Int))=some L'∧_;have htw:(lvl (exx D x m T) k).w.take (x.zA.length-(k+1))=(lvl x k).w:=zMw h hE hT hk (Ji k) hk;have ho:(lvl (exx D x m T) k).o=at0 x.zA k:=zGS h hE hT hk;refine vT (fun i(s:Mx×Int)=>s.2=((k+1+i:Nat):Int)∧GR m.Prime D Z s.1 (N+i) (C∧ ∀j,k+1≤j→j<k+1+i→c4Q Q (exx D x m T) k j)) (x.zA.length-(k+1)) (fun i s hi ⟨hs,hg⟩=>?_) (fun s ⟨hs,hg⟩=>?_) ⟨rfl,hL.to (by omega) ⟨fun g=>⟨g,fun j2 a b=>by omega⟩,fun g=>g.1⟩⟩
 ·left
  obtain⟨L1,s2⟩:=s;dsimp only at hs hg;subst hs;have g2:k+1+i<x.zA.length:=by omega
  obtain⟨r33,z1,z2,z3,z4⟩:=zR1 h hE hT hM hZ hk hc (j:=k+1+i) (by omega) g2;have hue:=zWv h hE hT hk (j:=k+1+i) (by omega) g2;have hux:V (suf x (k+1)) (wL (x.zA.length-(k+1)) (k+1+i-(k+1))):=by
   have:=zDn (h.okAt (k:=k+1) (by omega)) (j:=k+1+i-(k+1)) (by rw[xM];omega)
   rwa [xM]at this
  have hul:=sS h (by omega) hux;have huV:V (suf (exx D x m T) (k+1)) (wL (x.zA.length-(k+1)) (k+1+i-(k+1))++zeros D):=(zCT h hE hT (x.zA.length-(k+1)) (k+1) (by omega) _).2 ⟨_,_,rfl,hux,tS (by omega)⟩;have hit:V (suf (exx D x m T) (k+1)) (iter (at0 x.zA k).toNat (sig (suf (exx D x m T) (k+1)) (lvl (exx D x m T) k)) (wL (x.zA.length-(k+1)) (k+1+i-(k+1))++zeros D)):=vD (fun w hw=>zEQ h hE hT hk hw) _ huV;have hlp:zF (zSR ⟨x,m0,T⟩ (k:Int)) ((prE x (k+1) (wL (x.zA.length-(k+1)) (k+1+i-(k+1))++zeros D)).x,(prE x (k+1) (wL (x.zA.length-(k+1)) (k+1+i-(k+1))++zeros D)).v,0)=some ((prE x (k+1) (iter (at0 x.zA k).toNat (sig (suf (exx D x m T) (k+1)) (lvl (exx D x m T) k)) (wL (x.zA.length-(k+1)) (k+1+i-(k+1))++zeros D))).x,(prE x (k+1) (iter (at0 x.zA k).toNat (sig (suf (exx D x m T) (k+1)) (lvl (exx D x m T) k)) (wL (x.zA.length-(k+1)) (k+1+i-(k+1))++zeros D))).v):=
   zB1 (S:=V (suf (exx D x m T) (k+1))) (fun w=>(prE x (k+1) w).x) (fun w=>(prE x (k+1) w).v) (sig (suf (exx D x m T) (k+1)) (lvl (exx D x m T) k)) (at0 x.zA k) (by omega) (fun w hw=>zEQ h hE hT hk hw) (fun w q hw hq=>by
    unfold zSR;dsimp only
    rw[yE hk,bs,decide_eq_true hq,zH,show(zG.mk (prE x (k+1) w).x (prE x (k+1) w).v)=prE x (k+1) w from rfl,hI w hw,bs,zD (by omega) (by omega),bs,cs]) (fun w hw=>by
    unfold zSR;dsimp only
    rw[yE hk,bs,decide_eq_false (by omega),zE]) huV
  obtain⟨r,r1,r2,r3⟩:=zJm h hE hT hM hZ (k:=k+1) (by omega) (xP ok p2 hit) (xP ok huV p2) (by rw[zGZ h hE hT (by omega) p2 hit,zGZ h hE hT (by omega) huV p2,zNY h hE hT hk _ huV,htw,K7 hul];exact hc.c4 (k+1+i) (by omega) g2)
  have hll:=hg.len;refine⟨(L1++[r],((k+1+i+1:Nat):Int)),?_,rfl,(hg.app (GR.one r2 r3)).to (by omega) ?_⟩
  ·unfold zPo
   dsimp only
   rw[decide_eq_true (by omega),zH,z1,bs,z2,bs,J7,z3,z4,hlp,bs,zD (by omega) (by omega),bs,cs];dsimp only
   have e1:=hA _ _ p2 hit;have e2:=hA _ _ huV p2;rw[show∀w,(zG.mk (prE x (k+1) w).x (prE x (k+1) w).v)=prE x (k+1) w from fun _=>rfl,show∀w,(zG.mk (prE x (k+1) w).x (prE x (k+1) w).v)=prE x (k+1) w from fun _=>rfl,e1,bs,bs,e2,bs,r1,bs,yF (by simp;omega),bs,zD (by omega) (by omega),bs,cs]
  ·have e4:c4Q Q (exx D x m T) k (k+1+i)↔Q (k+1) (mul (suf (exx D x m T) (k+1)) (lvl (exx D x m T) k).w (iter (at0 x.zA k).toNat (sig (suf (exx D x m T) (k+1)) (lvl (exx D x m T) k)) (wL (x.zA.length-(k+1)) (k+1+i-(k+1))++zeros D))) (mul (suf (exx D x m T) (k+1)) (wL (x.zA.length-(k+1)) (k+1+i-(k+1))++zeros D) (lvl (exx D x m T) k).w):=by
    unfold c4Q;rw[hue,ho]
   rw[←e4];constructor
   ·rintro⟨⟨g1,g3⟩,g4⟩
    refine⟨g1,fun j2 e1 e2=>?_⟩;rcases Jf j2 (k+1+i)with e|e
    ·exact g3 j2 e1 e
    ·obtain rfl:j2=k+1+i:=by omega
     exact g4
   ·rintro⟨g1,g3⟩
    exact⟨⟨g1,fun j2 e1 e2=>g3 j2 e1 (by omega)⟩,g3 (k+1+i) (by omega) (by omega)⟩
 ·obtain⟨L1,s2⟩:=s
  dsimp only at hs hg;subst hs;refine⟨L1,?_,hg.to (Ji _) ?_⟩
  ·unfold zPo
   dsimp only
   rw[decide_eq_false (by omega),zE]
  ·rw[show k+1+(x.zA.length-(k+1))=x.zA.length from by omega]
theorem zWw:∃L,f_i ⟨x,m0,T⟩ (k:Int)=some L∧GR m.Prime D Z L 120 (LCQ Q x (exx D x m T) k):=by
 have hn:=hE.hn;have hI:=zAu h hE hT hM hk;obtain⟨p1,p2⟩:=zJj h hE hT (k:=k) (j:=k) (Ji k) hk;obtain⟨L1,e1,g1⟩:=zYX h hE hT hM hZ hk hc;have hs:=zEQ h hE hT hk p2;obtain⟨r,r1,r2,r3⟩:=zJm h hE hT hM hZ (k:=k+1) (by omega) hs p2 (by rw[zJl h hE hT hk p2,zMw h hE hT hk (Ji k) hk];exact hc.c3)
 obtain⟨L2,e2,g2⟩:=zYY h hE hT hM hZ hk hc (g1.app (GR.one r2 r3)) (by omega);have hll:=g1.len;refine⟨L2,?_,g2.to (by omega) ?_⟩
 ·unfold f_i
  rw[zD (by omega) (by omega),bs,cs,e1,bs,p1,bs,hI _ p2,bs,r1,bs,yF (by simp;omega),bs,bs,e2,bs]
 ·constructor
  ·rintro⟨⟨a1,a2⟩,a3⟩
   exact⟨fun j b1 b2=>(a1 j b1 b2).1,fun i b1 b2 j b3 b4=>(a1 i b1 b2).2 j b3 b4,a2,a3⟩
  ·intro a
   exact⟨⟨fun j b1 b2=>⟨a.c1 j b1 b2,fun j2 b3 b4=>a.c2 j b1 b2 j2 b3 b4⟩,a.c3⟩,a.c4⟩
end
theorem zWx(hx:vB (suf x 0)):∃L,zUy ⟨x,m0,T⟩=some L∧GR m.Prime D Z L 1000 (∀k,k<x.zA.length→LCQ Q x (exx D x m T) k):=by
 have hn:=hE.hn;have h3:=hE.m.d3;have hlc:∀k,k<x.zA.length→LC x k:=fun k hk=>((zAR h.w hk).1 (zC0 hx k)).2
 obtain⟨L,e,g⟩:=vT (body:=zLm ⟨x,m0,T⟩) (Q:=fun L=>GR m.Prime D Z L 1000 (∀k,k<x.zA.length→LCQ Q x (exx D x m T) k)) (fun i(s:Mx×Int)=>s.2=(i:Int)∧GR m.Prime D Z s.1 (120*i) (∀k,k<i→LCQ Q x (exx D x m T) k)) x.zA.length (fun i s hi ⟨hs,hg⟩=>by
  left;obtain⟨L1,s2⟩:=s;dsimp only at hs hg;subst hs;obtain⟨L2,e2,g2⟩:=zWw h hE hT hM hZ hi (hlc i hi);have l1:=hg.len;have l2:=g2.len;refine⟨(L1++L2,((i+1:Nat):Int)),?_,rfl,(hg.app g2).to (by omega) ?_⟩
  ·unfold zLm
   dsimp only
   rw[yI hi,zH,e2,bs,yF (by omega),bs,zD (by omega) (by omega),bs,cs]
  ·constructor
   ·rintro⟨a1,a2⟩ k hk
    rcases Jf k i with e|e
    ·exact a1 k e
    ·obtain rfl:k=i:=by omega
     exact a2
   ·exact fun a=>⟨fun k hk=>a k (by omega),a i (by omega)⟩) (fun s ⟨hs,hg⟩=>by
  obtain⟨L1,s2⟩:=s;dsimp only at hs hg;subst hs;refine⟨L1,?_,hg.to (by omega) Iff.rfl⟩;unfold zLm;dsimp only
  rw[yS,zE]) (s:=([],0)) ⟨rfl,(GR.nil (N:=0)).to (by omega) ⟨fun _ k hk=>by omega,fun _=>trivial⟩⟩
 exact⟨L,by unfold zUy;rw[e,bs],g⟩
end
section
variable {D:Nat}{x:SPr}{m0 m:zC}{T:Mx} (h:Pres x) (hE:ExB x.zA.length D x m T) (hT:∀i,i<T.length→Row m.Prime D (T.getD i [])) (hM:Mv D x.zA.length m0 m)
 include h hE hT hM
theorem zNZ(hx:vB (suf x 0))(hr:zHp x m D):IsB (zSS x m0 T) (vB (suf (exx D x m T) 0)):=by
 have hn:=hE.hn;have h3:=hE.m.d3;have hp:=hE.m.p.pos;obtain⟨L,e,g⟩:=zWx h hE hT hM (Z:=fun r=>r=zeros D) (Q:=fun _ a b=>a=b) (fun k hk a b ha hb e=>by
  obtain⟨y,u,rfl,hy,hu,_,hyl⟩:=prV h hE hT hk ha;obtain⟨z,v,rfl,hz,hv,_,hzl⟩:=prV h hE hT hk hb;rw[K7 hyl,K7 hzl]at e;subst e;rw[Ly hyl,Ly hyl,List.append_cancel_left_eq,←zO9 (p:=m.Prime) hu hv];constructor
  ·intro g j hj;rw[g,uC]
  ·intro g
   rw[wY (zAU (p:=m.Prime) (r:=u) (s:=v) (k:=-1)),show zeros D=mkv D fun _=>0 from uS D];exact zW fun j hj=>g j hj) hx
 have hll:=g.len;unfold zSS;rw[e,bs];refine(sC (body:=zLn L) L.length (fun i=> ∀j,j<(L.getD i []).length→at0 (L.getD i []) j=0) rfl (fun i hi _=>?_) ?_).iff ?_
 ·have hrow:=g.row (L.getD i []) (by rw[J2,J3 hi];exact K9 hi)
  unfold zLn;rw[yI hi,zH,yC [] hi,bs];rcases zAV (v:=L.getD i []) (by rw[hrow.1];omega)with⟨z1,z2⟩|⟨z1,z2⟩
  ·left
   rw[z1,bs,Jj,zE,zD (by omega) (by omega),bs,cs];exact⟨rfl,z2⟩
  ·right
   rw[z1,bs,Js,zH];exact⟨rfl,z2⟩
 ·unfold zLn
  rw[yS,zE]
 ·rw[zTO h hE hT hr,show(∀k,k<x.zA.length→LCn x (exx D x m T) k)↔(∀k,k<x.zA.length→LCQ (fun _ a b=>a=b) x (exx D x m T) k)from⟨fun a k hk=>⟨(a k hk).c1,(a k hk).c2,(a k hk).c3,(a k hk).c4⟩,fun a k hk=>⟨(a k hk).c1,(a k hk).c2,(a k hk).c3,(a k hk).c4⟩⟩,←g.iff]
  constructor
  ·intro a r hr
   obtain⟨i,hi,rfl⟩:=Ks.1 hr;have a:=a i hi;rw[J2,J3 hi]at a;have hrow:=g.row _ hr;rw[wY hrow.1,show zeros D=mkv D fun _=>0 from uS D];exact zW fun j hj=>a j (by show j<(L[i]).length;rw[hrow.1];exact hj)
  ·intro a i hi j _
   have:=a (L.getD i []) (by rw[J2,J3 hi];exact K9 hi);rw[this,uC]
end
end Go.Pl

namespace Go.Pl
open Go Go.Ab Go.Wk Go.Pc
theorem zCC{x:SPr}(h:Pres x):∃s:Nat,f_T x=some (s:Int)∧(s=0↔vB (suf x 0)):=by
 have h6:=h.os.1;unfold f_T;obtain⟨r,r1,r2⟩:=vT (body:=zKU x) (Q:=fun r=> ∃s:Nat,r=(s:Int)∧vB (suf x s)∧(s=0∨ ¬vB (suf x (s-1)))) (fun i s=>i≤x.zA.length∧s=((x.zA.length-i:Nat):Int)∧vB (suf x (x.zA.length-i))) x.zA.length (fun i s hi ⟨_,hs,hcs⟩=>by
   subst hs;have hk:x.zA.length-i-1<x.zA.length:=by omega
   have e9:x.zA.length-(i+1)=x.zA.length-i-1:=by omega
   rw[e9];have e8:i+1≤x.zA.length:=by omega
   rw[show x.zA.length-i=x.zA.length-i-1+1 from by omega]at hcs ⊢
   have hlev:=zGC h hk hcs;have hiff:=zAR h.w hk
   generalize x.zA.length-i-1=k at*
   unfold zKU;rw[decide_eq_true (by omega),zH,zD (by omega) (by omega),bs,show(((k+1:Nat):Int)-1)=(k:Int)from by omega];rcases hlev with⟨g1,g2⟩|⟨r,g1,g2,g3⟩
   ·left
    rw[g1,bs];simp only[beq_self_eq_true,Bool.and_true];rw[zH,bs];exact⟨_,rfl,e8,rfl,hiff.2 ⟨hcs,g2⟩⟩
   ·right
    rw[g1,bs,show(r.Kind==0)=false from by simpa using g2,Bool.false_and,zE];refine⟨_,rfl,k+1,rfl,hcs,.inr fun q=>g3 (hiff.1 q).2⟩) (fun s ⟨_,hs,hcs⟩=>by
   rw[Kk]at hs hcs;subst hs;unfold zKU;rw[show decide (((0:Nat):Int)> 0)=false from rfl,zE];exact⟨_,rfl,0,rfl,hcs,.inl rfl⟩) (s:=(x.zA.length:Int)) ⟨by omega,by rw[Hb],by rw[Hb,vZ (by omega)];simp only[vB]⟩
 obtain⟨s,rfl,hcs,hs⟩:=r2;rw[r1,bs];refine⟨s,rfl,fun g=>by subst g;exact hcs,fun g=>?_⟩;rcases hs with hs|hs
 ·exact hs
 ·exact absurd (zC0 g _) hs
section
variable {x:SPr}{m:zC}{T:Mx}{D:Nat} (hx:zDN x) (hm:MOk x.zA.length m D) (hT:T.length≤1048576)
 include hx hm hT
def jB(x:SPr)(m:zC)(D:Nat)(T:Mx):Prop:=T.length=base x.zA.length x.zA.length∧zYn m D T
theorem zAv:IsB (zSO x m T) (jB x m D T):=by
 have h6:=hx.n6;unfold zSO;rw[zMf rfl h6,bs]
 by_cases g:T.length=base x.zA.length x.zA.length
 ·rw[show((T.length:Int)==((base x.zA.length x.zA.length:Nat):Int))=true from by simp[g],zH]
  exact(IsB.b (zJf hm (by omega) hT)).iff ⟨fun q=>⟨g,q⟩,fun q=>q.2⟩
 ·rw[show((T.length:Int)==((base x.zA.length x.zA.length:Nat):Int))=false from by simp;omega,zE]
  exact .inr ⟨rfl,fun q=>g q.1⟩
theorem zKM:IsB (zUz x m T) (jB x m D T):=by
 have h6:=hx.n6;have h3:=hm.d3;unfold zUz;rw[zMg rfl h6,bs]
 by_cases g:T.length=base x.zA.length x.zA.length
 ·rw[show((T.length:Int)==((base x.zA.length x.zA.length:Nat):Int))=true from by simp[g],zH]
  exact(IsB.b (zOB hm.p hm.d (by omega) hT)).iff ⟨fun q=>⟨g,q⟩,fun q=>q.2⟩
 ·rw[show((T.length:Int)==((base x.zA.length x.zA.length:Nat):Int))=false from by simp;omega,zE]
  exact .inr ⟨rfl,fun q=>g q.1⟩
 omit hT in
theorem zWy(ht:jB x m D T):zJe x.zA.length D x m T:=by
  have h3:=hm.d3;exact zJe.of hx hm ht.1 (zMe fun i hi=>by have:=(ht.2 i hi).1;omega)
 omit hT in
theorem zTQ(ht:jB x m D T):IsB (zU0 x m T) (vB (suf (exx D x m T) 0)):=by have hE:=zWy hx hm ht;unfold zU0;rw[zQZ hE,bs];obtain⟨s,s1,s2⟩:=zCC ((zFA hx.toPres (hE.b hm) ht.2).p (by rw[uD hx.toPres (hE.b hm) ht.2];have:=hm.d3;have:=hE.hn;omega));rw[s1,bs];refine(IsB.of_bool ?_).iff s2;simp
end
end Go.Pl

namespace Go.Pl
open Go Go.Ab Go.Wk Go.Pc
def Coc(x:SPr)(m:zC)(D:Nat)(T:Mx):Prop:=jB x m D T∧vB (suf (exx D x m T) 0)
section
variable {x:SPr}{m:zC}{A B:Mx}{L:List Mx}
theorem zON(hx:zBU x)(hm:zG2 m)(hA:A.length≤1048576)(hB:B.length≤1048576)(hl:L.length≤1000)(hL:∀t,t∈L↔t=A∨t=B):∃c:Int,zU6 x m A B=some c∧f_O x m L=some c∧(c=0→zBr x∧ ∃D,MOk x.zA.length m D∧zHp x m D∧Coc x m D A∧Coc x m D B):=by
 have hxl:x.zA.length≤1048576:=hx.1;have hml:=S3.len hm;unfold zU6 f_O;rcases(zHq (m:=m) hxl).both (zHr (m:=m) hxl hml)with⟨s1,i1,hM⟩|⟨s1,i1,hM⟩
 ·obtain⟨hc,D,hD,hr⟩:=hM
  have hmem:∀i,i<L.length→L.getD i []=A∨L.getD i []=B:=fun i hi=>(hL _).1 (by rw[J2,J3 hi];exact K9 hi)
  have hlen:∀i,i<L.length→(L.getD i []).length≤1048576:=fun i hi=>by rcases hmem i hi with e|e<;>rw[e]<;>assumption
  have hall:∀(P:Mx→Prop),(∀i,0≤i→i<L.length→P (L.getD i []))↔P A∧P B:=fun P=>by
   constructor
   ·intro g
    have key:∀t,t∈L→P t:=fun t ht=>by
     obtain⟨i,hi,rfl⟩:=Ks.1 ht;have:=g i (K4 _) hi
     rwa [J2,J3 hi]at this
    exact⟨key A ((hL A).2 (.inl rfl)),key B ((hL B).2 (.inr rfl))⟩
   ·rintro⟨g1,g2⟩ i _ hi
    rcases hmem i hi with e|e<;>rw[e]<;>assumption
  have hle:∀i:Nat,i<L.length→((i:Nat):Int)<(L.length:Int):=fun i hi=>by omega
  simp only[s1,i1,bs,Jj,zE];have c1:=chk (body:=zSY x m L) L.length 0 (K4 _) (fun i=>jB x m D (L.getD i [])) (fun _=>(1:Int)) (fun i _ hi _=>by
   unfold zSY;rw[yI hi,zH,yC [] hi,bs];rcases zKM hc.2.2 hD (hlen i hi)with⟨z1,z2⟩|⟨z1,z2⟩
   ·left
    rw[z1,bs,Jj,zE,zD (by omega) (by omega),bs,cs];exact⟨rfl,z2⟩
   ·right
    rw[z1,bs,Js,zH];exact⟨rfl,z2⟩) (by
   unfold zSY;rw[yS,zE])
  rw[show((0:Nat):Int)=0 from rfl]at c1;have hAB:(∀i,0≤i→i<L.length→jB x m D (L.getD i []))↔_:=hall (jB x m D);rcases c1 with⟨c1,c2⟩|⟨i,_,hi,c1,c2⟩
  ·obtain⟨tA,tB⟩:=hAB.1 c2
   rw[c1,bs];simp only
   rcases zAv hc.2.2 hD hA with⟨z1,_⟩|⟨_,z2⟩
   rcases zAv hc.2.2 hD hB with⟨y1,_⟩|⟨_,y2⟩
   ·simp only[z1,y1,bs,Jj,zE]
    have c3:=chk (body:=zSZ x m L) L.length 0 (K4 _) (fun i=>vB (suf (exx D x m (L.getD i [])) 0)) (fun _=>(5:Int)) (fun i _ hi _=>by
     unfold zSZ;rw[yI hi,zH,yC [] hi,bs];rcases zTQ hc.2.2 hD (c2 i (K4 _) hi)with⟨z1,z2⟩|⟨z1,z2⟩
     ·left
      rw[z1,bs,Jj,zE,zD (by omega) (by omega),bs,cs];exact⟨rfl,z2⟩
     ·right
      rw[z1,bs,Js,zH];exact⟨rfl,z2⟩) (by
     unfold zSZ;rw[yS,zE])
    rw[show((0:Nat):Int)=0 from rfl]at c3;have hCC:(∀i,0≤i→i<L.length→vB (suf (exx D x m (L.getD i [])) 0))↔_:=hall (fun t=>vB (suf (exx D x m t) 0));have sA:=zNZ hc.1 ((zWy hc.2.2 hD tA).b hD) tA.2 (Mv.self hD) hc.2.1 hr;have sB:=zNZ hc.1 ((zWy hc.2.2 hD tB).b hD) tB.2 (Mv.self hD) hc.2.1 hr;rcases c3 with⟨c3,c4⟩|⟨i,_,hi,c3,c4⟩
    ·obtain⟨kA,kB⟩:=hCC.1 c4
     rcases sA with⟨z3,_⟩|⟨_,z3⟩
     rcases sB with⟨y3,_⟩|⟨_,y3⟩
     ·rw[z3,bs,Jj,zE,y3,bs,Jj,zE,c3,bs]
      exact⟨0,rfl,rfl,fun _=>⟨hc,D,hD,hr,⟨tA,kA⟩,tB,kB⟩⟩
     ·exact absurd kB y3
     ·exact absurd kA z3
    ·rw[c3,bs]
     refine⟨5,?_,rfl,fun e=>absurd e (by decide)⟩;rcases sA with⟨z3,z4⟩|⟨z3,z4⟩
     ·rcases sB with⟨y3,y4⟩|⟨y3,y4⟩
      ·exact absurd (hCC.2 ⟨z4,y4⟩ i (K4 _) hi) c4
      ·rw[z3,bs,Jj,zE,y3,bs,Js,zH]
     ·rw[z3,bs,Js,zH]
   ·exact absurd tB y2
   ·exact absurd tA z2
  ·rw[c1,bs]
   refine⟨1,?_,rfl,fun e=>absurd e (by decide)⟩;rcases zAv hc.2.2 hD hA with⟨z1,z2⟩|⟨z1,z2⟩
   ·rcases zAv hc.2.2 hD hB with⟨y1,y2⟩|⟨y1,y2⟩
    ·exact absurd (hAB.2 ⟨z2,y2⟩ i (K4 _) hi) c2
    ·rw[z1,bs,Jj,zE,y1,bs,Js,zH]
   ·rw[z1,bs,Js,zH]
 ·simp only[s1,i1,bs,Js,zH]
  exact⟨1,rfl,rfl,fun e=>absurd e (by decide)⟩
end
end Go.Pl

namespace Go.Pl
open Go Go.Ab Go.Wk Go.Pc
theorem zKN{x:SPr}(h:Pres x)(h6:x.zA.length≤6):(xN x).length=base x.zA.length x.zA.length:=by
 have h1:=zIh h;have key:∀n:Nat,n<7→2*base n n=n*(n+1):=by decide
 have h2:=key x.zA.length (by omega);omega
abbrev zCk(x:SPr)(m:zC)(D:Nat):Mx:=zAc (x.zA.length*D) (fun k=>dfc m D (uv x.zA.length D k)) (xN x)
section
variable {x:SPr}{m:zC}{D:Nat} (hx:zDN x) (hD:MOk x.zA.length m D)
 include hx hD
theorem zHa{T:Mx}(ht:jB x m D T):Row m.Prime (base x.zA.length x.zA.length*D) T.flatten∧zMG T=some T.flatten∧f_q T=some T.flatten:=by
 have h6:=hx.n6;have h3:=hD.d3;have hb:=sF x.zA.length (by omega);have hrD:base x.zA.length x.zA.length*D≤21*3:=Kn hb.2.1 h3;have h:=zQX (p:=m.Prime) (D:=D) (xs:=T) fun r hr=>by
  obtain⟨i,hi,rfl⟩:=Ks.1 hr;have:=ht.2 i hi
  rwa [J2,J3 hi]at this
 rw[ht.1]at h;have hl:=ht.1;exact⟨h,zEK (by omega) (by rw[h.1];omega),jM (by omega) (by rw[h.1];omega)⟩
end
end Go.Pl

namespace Go.Pl
open Go Go.Ab Go.Wk Go.Pc
section
variable {p:Int} (hp:Prime p) {c N:Nat} (hcN:c+N≤100000) {A:Mx}
 include hp hcN
theorem zR2(hr:∀i,i<N→Row p c (A.getD i []))(hl:A.length=N){b:List Int}(hb:Row p c b){r:List Int}{ok:Bool}(q:f_R p A (c:Int) b=some (r,ok)):ok=true↔Sp p c A b:=by
 have h7:=hp.pos;obtain⟨W,pv,t,h,h2,h3⟩:=Nul.get hp hcN hr hl;have hy:=zEO hp hcN h hb t;have hlr:=zTI (by omega) h.row h.red h.sp h.le h.lo h.hi;have hls:=zWl (by omega) h.row h.red h.sp h.le h.lo h.hi h.len;have hll:(lft c t W).length=t:=yW;have e:∀i,i≤t→(sy p c N W pv b i).take c=cl p c (lft c t W) pv b i:=by
  intro i
  induction i with
  |zero=>
   intro _;show(b++J1 N 0).take c=b;exact K7 hb.1
  |succ i ih=>
   intro hi;have ih:=ih (by omega);have hlo:=h.lo i (by omega);show(xK p (c+N) (sy p c N W pv b i) (p-at0 (sy p c N W pv b i) (pv i)) (W.getD i [])).take c=xK p c (cl p c (lft c t W) pv b i) (p-at0 (cl p c (lft c t W) pv b i) (pv i)) ((lft c t W).getD i []);have h1:∀j,j<c→at0 (cl p c (lft c t W) pv b i) j=at0 (sy p c N W pv b i) j:=fun j hj=>by rw[←ih,jQ hj]
   have hlen:((xK p (c+N) (sy p c N W pv b i) (p-at0 (sy p c N W pv b i) (pv i)) (W.getD i [])).take c).length=c:=by rw[Jt,zAU];omega
   rw[wY hlen];refine zW fun j hj=>?_
   rw[jQ hj,xK,yB (by omega),h1 j hj,h1 _ hlo];have h4:at0 ((lft c t W).getD i []) j=at0 (W.getD i []) j:=zEa (by omega) hj;rw[h4]
 have hz:=zTF hp (by omega) hlr hb;rw[hll]at hz;have e1:(∀i,i<((sy p c N W pv b t).take c).length→at0 ((sy p c N W pv b t).take c) i=0)↔Sp p c A b:=by rw[←hls.iff,←hz,e t (Ji _)];have:(cl p c (lft c t W) pv b t).length=c:=(zBv hp (by omega) hlr hb t).1;rw[this]
 rw[zBy hp hcN h h2 hb]at q;have htl:((sy p c N W pv b t).take c).length=c:=by rw[Jt,hy.1];omega
 rcases zAV (v:=(sy p c N W pv b t).take c) (by omega)with⟨z1,z2⟩|⟨z1,z2⟩
 ·rw[z1,bs,Jj,zE]at q
  have:=Lw.inj q;rw[←(Un.inj this).2];exact⟨fun _=>e1.1 z2,fun _=>rfl⟩
 ·rw[z1,bs,Js,zH]at q
  have:=Lw.inj q;rw[←(Un.inj this).2];exact⟨fun g=>absurd g (by decide),fun g=>absurd (e1.2 g) z2⟩
theorem zOO(hr:∀i,i<N→Row p c (A.getD i []))(hl:A.length=N){b:List Int}(hb:Row p c b){r:List Int}(q:f_R p A (c:Int) b=some (r,true)):r.length=N:=by
 have h7:=hp.pos;obtain⟨W,pv,t,h,h2,h3⟩:=Nul.get hp hcN hr hl;have hy:=zEO hp hcN h hb t;have hK:=h.nred hp hcN;have hx:=zJh hp hcN h (b:=b);have htl:((sy p c N W pv b t).take c).length=c:=by rw[Jt,hy.1];omega
 rw[zBy hp hcN h h2 hb]at q;rcases zAV (v:=(sy p c N W pv b t).take c) (by omega)with⟨z1,z2⟩|⟨z1,z2⟩
 ·rw[z1,bs,Jj,zE]at q
  have:=Lw.inj q;rw[←(Un.inj this).1];exact(zBv hp (by omega) hK hx _).1
 ·rw[z1,bs,Js,zH]at q
  have:=Lw.inj q;exact absurd (Un.inj this).2 (by decide)
end
def ngv(p:Int)(c:Nat)(v:List Int):List Int:=xK p c (zeros c) (-1) v
theorem zWz{p:Int}{c:Nat}{A:Mx}{v:List Int}:Sp p c A (ngv p c v)↔Sp p c A v:=by
 have hz:Sp p c A (zeros c):=zAs fun j _=>by rw[uC];simp
 constructor
 ·intro g
  refine qD (k:=-1) hz g fun j hj=>?_
  rw[ngv,xK,yB hj,uC,Ku,Ku,Jz,Kb,←Jz]
  congr 1;omega
 ·intro g
  refine qD (k:=-1) hz g fun j hj=>?_
  rw[ngv,xK,yB hj,Kb]
section
variable {x:SPr}{m:zC}{D:Nat} (hx:zDN x) (hD:MOk x.zA.length m D)
 include hx hD
theorem zAY{i:Nat}(hi:i<x.zA.length*D):Row m.Prime (base x.zA.length x.zA.length*D) ((zCk x m D).getD i []):=by have hl:=zKN hx.toPres hx.n6;rw[←hl];exact zEN (zRh hx.toPres hD) (xN x) i hi
theorem zR3:base x.zA.length x.zA.length*D≤63∧x.zA.length*D≤18:=by have h6:=hx.n6;have hb:=sF x.zA.length (by omega);have hrD:base x.zA.length x.zA.length*D≤21*3:=Kn hb.2.1 hD.d3;have hnd:x.zA.length*D≤6*3:=Kn h6 hD.d3;omega
theorem zCl{v:List Int}(hv:Row m.Prime (base x.zA.length x.zA.length*D) v):∃u ok,f_R m.Prime (zCk x m D) ((base x.zA.length x.zA.length*D:Nat):Int) (ngv m.Prime (base x.zA.length x.zA.length*D) v)=some (u,ok)∧
  (ok=true↔Sp m.Prime (base x.zA.length x.zA.length*D) (zCk x m D) v)∧zTa x m v=some (if ok then qE x.zA.length D u else[],ok)∧(ok=true→f_Q u m.Dim=some (qE x.zA.length D u)):=by
 have h7:=hD.p.pos;have h1:=hD.d1;have h3:=hD.d3;obtain⟨hc,hn⟩:=zR3 hx hD;have hw:Row m.Prime (base x.zA.length x.zA.length*D) (ngv m.Prime (base x.zA.length x.zA.length*D) v):=tP hD.p;have hdl:(zCk x m D).length=x.zA.length*D:=yW;obtain⟨u,ok,s1,s2,s3⟩:=zMn hD.p (c:=base x.zA.length x.zA.length*D) (N:=x.zA.length*D) (by omega) (A:=zCk x m D) (fun i hi=>zAY hx hD hi) hdl hw;have hok:=zR2 hD.p (c:=base x.zA.length x.zA.length*D) (N:=x.zA.length*D) (by omega) (A:=zCk x m D) (fun i hi=>zAY hx hD hi) hdl hw s1;rw[zWz]at hok;have hul:ok=true→u.length=x.zA.length*D:=fun g=>by subst g;exact zOO hD.p (by omega) (fun i hi=>zAY hx hD hi) hdl hw s1
 refine⟨u,ok,s1,hok,?_,fun g=>by rw[hD.d,zGP h1 (by omega) (hul g) (by omega)]⟩;unfold zTa zWE
 by_cases g:x.zA.length=0
 ·have hdn:zCk x m D=[]:=Jw (by rw[hdl,g,U5])
  have hb0:base x.zA.length x.zA.length*D=0:=by rw[g];show 0*D=0;omega
  have hk:ok=true:=hok.2 (zAs fun j hj=>by omega);have hu:u=[]:=Jw (by rw[hul hk,g,U5]);rw[show((x.zA.length:Int)==0)=true from by simp[g],zH,hk,if_pos rfl,g,hu];rfl
 ·have hz:Row m.Prime (base x.zA.length x.zA.length*D) (J1 v.length (0:Int)):=by rw[hv.1];exact tS (by omega)
  have hpos:0<x.zA.length*D:=Nat.mul_pos (by omega) (by omega);have h0:ixO (zCk x m D) 0=some ((zCk x m D).getD 0 []):=yC (i:=0) [] (by omega);have hvl:=hv.1;rw[show((x.zA.length:Int)==0)=false from by simp[g],zE,yO (by omega),bs,sT hD.p hz hv (by omega) (by omega),bs,jW hx.toPres hD,bs,h0,bs,bs,(zAY hx hD (i:=0) hpos).1,hvl,show xK m.Prime (base x.zA.length x.zA.length*D) (J1 (base x.zA.length x.zA.length*D) 0) (-1) v=ngv m.Prime (base x.zA.length x.zA.length*D) v from rfl,s2,bs];cases ok with
  |false=>rfl
  |true=>
   rw[Jj,zE,hD.d,zDw h1 (hul rfl) (by omega),bs];rfl
end
theorem zMx{x:SPr}{m:zC}{D:Nat}(hx:zDN x)(hD:MOk x.zA.length m D){T:Mx}(kT:jB x m D T):∃u ok,zU9 x m T=some (u,ok)∧zTa x m T.flatten=some (u,ok)∧S2 u:=by
 have h7:=hD.p.pos;have h6:=hx.os.1;have h3:=hD.d3;have hnil:S2 ([]:Mx):=by simp[S2,c2,sm]
 obtain⟨t1,t2,t3⟩:=zHa hx hD kT;have hle:=zR3 hx hD;obtain⟨u,ok,s1,s2,s3,s4⟩:=zCl hx hD t1;have hng:(mkv (base x.zA.length x.zA.length*D) fun j=>(at0 T.flatten j*(m.Prime-1))%m.Prime)=ngv m.Prime (base x.zA.length x.zA.length*D) T.flatten:=by
  refine zW fun j hj=>?_
  rw[uC]
  generalize at0 T.flatten j=a
  have e:a*(m.Prime-1)=(0+ -1*a)+m.Prime*a:=by rw[Jcd,Hq a m.Prime];omega
  rw[e,Ky]
 unfold zU9;rw[t2,bs,zKD hx.toPres hD,bs,zD (by omega) (by omega),bs,zDv hD.p (by omega) t1 (by omega) (by omega),bs,hng,t1.1,s1,bs,s3];cases ok with
 |false=>exact⟨_,_,rfl,rfl,hnil⟩
 |true=>
  rw[Jj,zE,s4 rfl,bs];exact⟨_,_,rfl,rfl,zOJ h6 h3⟩
end Go.Pl

namespace Go.Pl
open Go Go.Ab Go.Wk Go.Pc
end Go.Pl

namespace Go.Pl
open Go Go.Ab Go.Wk Go.Pc
end Go.Pl

namespace Go.Pl
open Go Go.Ab Go.Wk Go.Pc
end Go.Pl

namespace Go.Pl
open Go Go.Ab Go.Wk Go.Pc
end Go.Pl

namespace Go.Pl
open Go Go.Ab Go.Wk Go.Pc
end Go.Pl

namespace Go.Pl
open Go Go.Ab Go.Wk Go.Pc
end Go.Pl

namespace Go.Pl
open Go Go.Ab Go.Wk Go.Pc
end Go.Pl

namespace Go.Pl
open Go Go.Ab Go.Wk Go.Pc
end Go.Pl

namespace Go.Pl
open Go Go.Ab Go.Wk Go.Pc
end Go.Pl

namespace Go.Pl
open Go Go.Ab Go.Wk Go.Pc
end Go.Pl

namespace Go.Pl
open Go Go.Ab Go.Wk Go.Pc
end Go.Pl

namespace Go.Pl
open Go Go.Ab Go.Wk Go.Pc
end Go.Pl

namespace Go.Pl
open Go Go.Ab Go.Wk Go.Pc
end Go.Pl

namespace Go.Pl
open Go Go.Ab Go.Wk Go.Pc
end Go.Pl

namespace Go.Pl
open Go Go.Ab Go.Wk Go.Pc
end Go.Pl

namespace Go.Pl
open Go Go.Ab Go.Wk Go.Pc
end Go.Pl

namespace Go.Pl
open Go Go.Ab Go.Wk Go.Pc
end Go.Pl

namespace Go.Pl
open Go Go.Ab Go.Wk Go.Pc
theorem zIn{α:Type}{F:α→Vec}{D:Nat}(hF:∀a,(F a).length=D):∀L:List α,((L.map F).flatten).length=L.length*D
 | []=>by simp
 |a::L=>by rw[Jk,H4,J6,hF,zIn hF L,Jh,Kf];omega
theorem zKO{α:Type}{F:α→Vec}{D:Nat}(hF:∀a,(F a).length=D):∀(L:List α)(i j:Nat)(hi:i<L.length),j<D→at0 ((L.map F).flatten) (i*D+j)=at0 (F L[i]) j
 | [],i,j,hi,_=>by simp at hi
 |a::L,i,j,hi,hj=>by
  have hl:=hF a;rw[Jk,H4];cases i with
  |zero=>
   rw[U5,Jd,List.getElem_cons_zero,at0,J2,Jo (by omega),←J2]
  |succ i=>
   have ih:=zKO hF L i j (by simpa using hi) hj;rw[List.getElem_cons_succ,←ih,at0,J2,J8 (by rw[hl,Kf];omega),hl,Kf,show i*D+D+j-D=i*D+j from by omega,←J2]
end Go.Pl

namespace Go.Pl
open Go Go.Ab Go.Wk Go.Pc
end Go.Pl

namespace Go.Pl
open Go Go.Ab Go.Wk Go.Pc
end Go.Pl

namespace Go.Pl
open Go Go.Ab Go.Wk Go.Pc
end Go.Pl

namespace Go.Pl
open Go Go.Ab Go.Wk Go.Pc
end Go.Pl

namespace Go.Pl
open Go Go.Ab Go.Wk Go.Pc
end Go.Pl

namespace Go.Pl
open Go Go.Ab Go.Wk Go.Pc
end Go.Pl

namespace Go.Pl
open Go Go.Ab Go.Wk Go.Pc
end Go.Pl

namespace Go.Pl
open Go Go.Ab Go.Wk Go.Pc
end Go.Pl

namespace Go.Pl
open Go Go.Ab Go.Wk Go.Pc
end Go.Pl

namespace Go.Pl
open Go Go.Ab Go.Wk Go.Pc
end Go.Pl

namespace Go.Pl
open Go Go.Ab Go.Wk Go.Pc
end Go.Pl

namespace Go.Pl
open Go Go.Ab Go.Wk Go.Pc
end Go.Pl

namespace Go.Pl
open Go Go.Ab Go.Wk Go.Pc
end Go.Pl

namespace Go.Pl
open Go Go.Ab Go.Wk Go.Pc
end Go.Pl

namespace Go.Pl
open Go Go.Ab Go.Wk Go.Pc
end Go.Pl

namespace Go.Pl
open Go Go.Ab Go.Wk Go.Pc
end Go.Pl

namespace Go.Pl
open Go Go.Ab Go.Wk Go.Pc
end Go.Pl

namespace Go.Pl
open Go Go.Ab Go.Wk Go.Pc
theorem zR4{n D:Nat}{v:List Int}(hD:1≤D)(hl:v.length=n*D):(qE n D v).flatten=v:=by
 have hF:∀i:Nat,(mkv D fun j=>at0 v (i*D+j)).length=D:=fun i=>zZ _ _
 have h1:(qE n D v).flatten.length=n*D:=by have:=zIn (F:=fun i=>mkv D fun j=>at0 v (i*D+j)) hF (Jq n);rw[L9]at this;exact this
 refine(wY h1).trans (((zW fun k hk=>?_)).trans (wY hl).symm);have hi:k/D<n:=(Nat.div_lt_iff_lt_mul (by omega)).2 hk;have hm:k%D<D:=Nat.mod_lt _ (by omega);have e:=zKO (F:=fun i=>mkv D fun j=>at0 v (i*D+j)) hF (Jq n) (k/D) (k%D) (by rw[L9];exact hi) hm;rw[show k/D*D+k%D=k from by rw[Qb];exact Jar k D]at e;rw[List.getElem_range,yB hm,show k/D*D+k%D=k from by rw[Qb];exact Jar k D]at e;exact e
def uT(p:Int)(n:Nat)(b:List Int)(L:Mx):Mx:=L.flatMap fun v=>gl p.toNat fun c=>xK p n v (c:Int) b
def zCm(p:Int)(n:Nat):Mx→Mx→Option Mx
 | [],L=>some L
 |b::bs,L=>if(L.length:Int)*p> 130 then none else zCm p n bs (uT p n b L)
theorem kM{p:Int}{n:Nat}{b:List Int}:∀L:Mx,(uT p n b L).length=L.length*p.toNat
 | []=>by simp[uT]
 |v::L=>by
  have:=kM (p:=p) (n:=n) (b:=b) L;simp only[uT,Ls,J6,Jh]at this ⊢
  rw[this,yW,Kf];omega
theorem zIo{p:Int}(hp:Prime p){n:Nat}{b:List Int}{L:Mx}:∀v∈uT p n b L,Row p n v:=by intro v hv;obtain⟨u,_,hv⟩:=Uf.1 hv;obtain⟨c,_,rfl⟩:=Jg.1 hv;exact tP hp
section
variable {p:Int} (hp:Prime p) {n:Nat} (hn:n≤1000)
 include hp hn
theorem zTR{m:zC}(hm:m.Prime=p){B L:Mx}{z:Int}{i k:Nat}{a0:Mx}(ha:a0.length≤200)(hi:i<B.length)(hk:k<L.length)(hB:Row p n (B.getD i []))(hL:Row p n (L.getD k [])){y:Mx}(_hz:z=z):
  zF (zTb m B (L,(i:Int)) (y,(k:Int))) (a0,0)=some (a0++gl p.toNat fun c=>xK p n (L.getD k []) (c:Int) (B.getD i [])):=by
 subst hm;have h7:=hp.pos;have:=zN (body:=zTb m B (L,(i:Int)) (y,(k:Int))) (r:=a0++gl m.Prime.toNat fun c=>xK m.Prime n (L.getD k []) (c:Int) (B.getD i [])) (fun c=>(a0++gl c fun c=>xK m.Prime n (L.getD k []) (c:Int) (B.getD i []),(c:Int))) m.Prime.toNat (fun c hc=>by
  unfold zTb;simp only
  rw[decide_eq_true (by omega),zH,yC [] hk,bs,yC [] hi,bs,wZ hp hL hB (by omega) (by omega),bs,yF (by rw[J6,yW];simp only[Jh,Lu];omega),bs,zD (by omega) (by omega),bs,Jc,sM];rfl) (by
  unfold zTb;simp only
  rw[decide_eq_false (by omega),zE])
 simpa[gl]using this
theorem zTS{L:Mx}{b:List Int}{k:Nat}{a0:Mx}(ha:a0.length≤200)(hB:Row p n b)(hL:Row p n (L.getD k [])):
  zF (zPx p b (L.getD k [])) (a0,0)=some (a0++gl p.toNat fun c=>xK p n (L.getD k []) (c:Int) b):=by
 have h7:=hp.pos;have:=zN (body:=zPx p b (L.getD k [])) (r:=a0++gl p.toNat fun c=>xK p n (L.getD k []) (c:Int) b) (fun c=>(a0++gl c fun c=>xK p n (L.getD k []) (c:Int) b,(c:Int))) p.toNat (fun c hc=>by
  unfold zPx;simp only
  rw[decide_eq_true (by omega),zH,sO (by rw[hL.1];omega),bs,sT hp hL hB (by omega) (by omega),bs,yF (by rw[J6,yW];simp only[Jh,Lu];omega),bs,zD (by omega) (by omega),bs,Jc,sM];rfl) (by
  unfold zPx;simp only
  rw[decide_eq_false (by omega),zE])
 simpa[gl]using this
theorem zHb{L:Mx}{b:List Int}{k:Nat}(hk:k<L.length):uT p n b (L.take (k+1))=uT p n b (L.take k)++gl p.toNat fun c=>xK p n (L.getD k []) (c:Int) b:=by
 have _:=hp;have _:=hn;rw[uT,Jr hk,L8,Ls,Ga,J9]
 congr 2
 rw[J2,J3 hk];rfl
theorem zTT{m:zC}(hm:m.Prime=p){B L:Mx}{i:Nat}(hi:i<B.length)(hlen:(L.length:Int)*p≤130)(hB:Row p n (B.getD i []))(hL:∀k,k<L.length→Row p n (L.getD k [])):
  zF (zTc m B (L,(i:Int))) ([],0)=some (uT p n (B.getD i []) L):=by
 have h7:=hp.pos;have hl2:∀k,k≤L.length→(uT p n (B.getD i []) (L.take k)).length≤130:=fun k hk=>by
  rw[kM,Jt,Lp hk];have e:((L.length*p.toNat:Nat):Int)=(L.length:Int)*p:=by rw[Ld,H6 (by omega)]
  have:k*p.toNat≤L.length*p.toNat:=L5 _ hk;omega
 have hll:L.length≤L.length*p.toNat:=G5 _ (by omega);have hl3:=hl2 L.length (Ji _);rw[Kl,kM]at hl3;have:=zN (body:=zTc m B (L,(i:Int))) (r:=uT p n (B.getD i []) L) (fun k=>(uT p n (B.getD i []) (L.take k),(k:Int))) L.length (fun k hk=>by
  unfold zTc;simp only
  rw[yI hk,zH,zTR hp hn hm (z:=0) (by have:=hl2 k (by omega);omega) hi hk hB (hL k hk) rfl,bs,zD (by omega) (by omega),bs,zHb hp hn hk];rfl) (by
  unfold zTc;simp only
  rw[yS,zE,Kl])
 exact this
theorem zTU{L:Mx}{b:List Int}{z:Int}(hlen:(L.length:Int)*p≤130)(hB:Row p n b)(hL:∀k,k<L.length→Row p n (L.getD k [])):
  zF (zPy p (L,z) b) ([],0)=some (uT p n b L):=by
 have h7:=hp.pos;have hl2:∀k,k≤L.length→(uT p n b (L.take k)).length≤130:=fun k hk=>by
  rw[kM,Jt,Lp hk];have e:((L.length*p.toNat:Nat):Int)=(L.length:Int)*p:=by rw[Ld,H6 (by omega)]
  have:k*p.toNat≤L.length*p.toNat:=L5 _ hk;omega
 have hll:L.length≤L.length*p.toNat:=G5 _ (by omega);have hl3:=hl2 L.length (Ji _);rw[Kl,kM]at hl3;have:=zN (body:=zPy p (L,z) b) (r:=uT p n b L) (fun k=>(uT p n b (L.take k),(k:Int))) L.length (fun k hk=>by
  unfold zPy;simp only
  rw[yI hk,zH,yC [] hk,bs,zTS hp hn (by have:=hl2 k (by omega);omega) hB (hL k hk),bs,zD (by omega) (by omega),bs,zHb hp hn hk];rfl) (by
  unfold zPy;simp only
  rw[yS,zE,Kl])
 exact this
theorem zDz{m:zC}(hm:m.Prime=p){B:Mx}(hB:∀i,i<B.length→Row p n (B.getD i []))(hb:B.length≤100000):∀(k i:Nat)(L:Mx),i+k=B.length→L.length≤130→(∀k,k<L.length→Row p n (L.getD k []))→
  zF (zPw m B) (L,(i:Int))=some (match zCm p n (B.drop i) L with|some M=>.inl M|none=>.inr ([],3))∧
  zF (zMH p B) (L,(i:Int))=some (match zCm p n (B.drop i) L with|some M=>.inl M|none=>.inr ([],false))∧ ∀M,zCm p n (B.drop i) L=some M→M.length≤130∧ ∀k,k<M.length→Row p n (M.getD k [])
 |0,i,L,hi,hl,hL=>by
  obtain rfl:i=B.length:=by omega
  rw[Jcu];refine⟨?_,?_,fun M hM=>by cases hM;exact⟨hl,hL⟩⟩
  ·rw[yL]
   unfold zPw;simp only
   rw[yS,zE];rfl
  ·rw[yL]
   unfold zMH;simp only
   rw[yS,zE];rfl
 |k+1,i,L,hi,hl,hL=>by
  have h7:=hp.pos;have hi2:i<B.length:=by omega
  have ed:B.drop i=B.getD i []::B.drop (i+1):=by rw[Lt hi2,J2,J3 hi2];rfl
  have hmul:0≤(L.length:Int)*p∧(L.length:Int)*p≤130*7:=⟨U0 (by omega) (by omega),H2 (by omega) (by omega) (by omega) (by omega)⟩;rw[ed];simp only[zCm];rw[yL,yL]
  by_cases g:(L.length:Int)*p> 130
  ·rw[if_pos g]
   refine⟨?_,?_,fun M hM=>by cases hM⟩
   ·unfold zPw
    simp only
    rw[yI hi2,zH,hm,zD (by omega) (by omega),bs,decide_eq_true g,zH]
   ·unfold zMH
    simp only
    rw[yI hi2,zH,yC [] hi2,bs,zD (by omega) (by omega),bs,decide_eq_true g,zH]
  ·rw[if_neg g]
   have hlen:(uT p n (B.getD i []) L).length≤130:=by
    rw[kM];have e:((L.length*p.toNat:Nat):Int)=(L.length:Int)*p:=by rw[Ld,H6 (by omega)]
    omega
   obtain⟨q1,q2,q3⟩:=zDz hm hB hb k (i+1) (uT p n (B.getD i []) L) (by omega) hlen (fun k hk=>zIo hp _ (by rw[J2,J3 hk];exact K9 hk));refine⟨?_,?_,q3⟩
   ·have:zPw m B (L,(i:Int))=some (.inl (uT p n (B.getD i []) L,((i+1:Nat):Int))):=by
     unfold zPw;simp only
     rw[yI hi2,zH,hm,zD (by omega) (by omega),bs,decide_eq_false g,zE,zTT hp hn hm hi2 (by omega) (hB i hi2) hL,bs,zD (by omega) (by omega),bs];rfl
    rw[this];exact q1
   ·have:zMH p B (L,(i:Int))=some (.inl (uT p n (B.getD i []) L,((i+1:Nat):Int))):=by
     unfold zMH;simp only
     rw[yI hi2,zH,yC [] hi2,bs,zD (by omega) (by omega),bs,decide_eq_false g,zE,zTU hp hn (by omega) (hB i hi2) hL,bs,zD (by omega) (by omega),bs];rfl
    rw[this];exact q2
end
end Go.Pl

namespace Go.Pl
open Go Go.Ab Go.Wk Go.Pc
end Go.Pl

namespace Go.Pl
open Go Go.Ab Go.Wk Go.Pc
end Go.Pl

namespace Go.Pl
open Go Go.Ab Go.Wk Go.Pc
end Go.Pl

namespace Go.Pl
open Go Go.Ab Go.Wk Go.Pc
end Go.Pl

namespace Go.Pl
open Go Go.Ab Go.Wk Go.Pc
end Go.Pl

namespace Go.Pl
open Go Go.Ab Go.Wk Go.Pc
end Go.Pl

namespace Go.Pl
open Go Go.Ab Go.Wk Go.Pc
end Go.Pl

namespace Go.Pl
open Go Go.Ab Go.Wk Go.Pc
end Go.Pl
