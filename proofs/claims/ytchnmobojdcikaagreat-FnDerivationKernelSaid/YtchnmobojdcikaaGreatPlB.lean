/- x -/
import Derived.Test.YtchnmobojdcikaaGreatPlA
import Derived.Test.YtchnmobojdcikaaGreatWF
import Derived.Test.YtchnmobojdcikaaGreatAbB
open List renaming replicate→J1,getD_eq_getElem?_getD→J4,getElem?_eq_getElem→J6,length_append→J7,length_singleton→Jb,mem_map→Je,getElem?_append_right→Jf,append_nil→Jh,append_assoc→Ji,length_cons→Jj,map_cons→Jl,getElem?_map→Jm,range→Jn,getElem?_replicate→Jp,mem_cons→Jq,take_of_length_le→Jt,mem_append→Jv,take_succ_eq_append_getElem→Jw,mem_range→Jx,all_eq_true→K3,nil_append→K6,mem_iff_getElem→K8,range_succ→K9,length_set→Kh,getElem_mem→Kj,length_replicate→Kk,replicate_append_replicate→Ko,set_cons_succ→Ks,replicate_succ→Kt,length_drop→Kv,take_zero→L4,length_take→L5,ext_getElem?→L9,getElem?_drop→La,filter_nil→H9,filterMap_cons→Ha,range'_succ→Hi,drop_zero→Hu,map_congr_left→G4,range'→G7,drop_eq_getElem_cons→Ga,getElem?_set_self→Gj,filter_append→Gk,drop_of_length_le→Gl,mem_filter→Gm,mem_filterMap→U1,getElem?_set_ne→U2,length_nil→U5,mem_flatten→Uc,getD→Ud,filter_cons_of_pos→Um,filter_cons_of_neg→Un,length→Uz,getElem?_eq_none→Qp,set_append_right→Ja6,flatten_cons→Ja8,getElem?_cons_succ→Jan,flatMap_append→Jao
open Bool renaming and_eq_true→J2,not_true→J3,not_false→Jo
open Int renaming toNat_natCast→J8,mul_emod→Jk,emod_eq_of_lt→Jr,emod_emod→Ju,emod_lt_of_pos→K4,add_emod→K5,tmod_eq_emod_of_nonneg→Kb,emod_nonneg→Ke,one_mul→Kl,tdiv_eq_ediv_of_nonneg→Kq,mul_one→Ku,add_zero→Lb,natCast_add→Lm,zero_add→Lo,mul_zero→Lp,natCast_mul→Ls,mul_comm→Hd,mul_assoc→Gb,mul_nonneg→Gv,zero_mul→Gx,emod_eq_emod_iff_emod_sub_eq_zero→Gz,emod_self→U6,tmod_lt_of_pos→U8,zero_emod→Ui,add_mul_emod_self_left→Q9,tmod_nonneg→Ja0,tdiv_nonneg→Ja1,le_refl→Jaz
open Nat renaming zero_add→Ja,le_refl→Jd,lt_or_ge→Js,mul_le_mul→Jy,zero_le→Kc,add_sub_cancel_left→Kw,mul_le_mul_right→Kz,sub_self→L3,succ_mul→L8,add_assoc→Ll,add_mul→Lv,min_eq_left→H4,lt_trichotomy→H5,min_eq_right→Hx,mul_one→Gu,sub_zero→Uv,mul_add→Qa,lt_of_not_le→Qy,div_lt_of_lt_mul→Qz,lt_irrefl→Ja4,le_mul_of_pos_right→Jah,eq_zero_or_pos→Jai
open Option renaming some→Lh,getD_some→H7,map_some→Hh,map_none→Ja3
open Option renaming some→dS,none→dT
open Bool renaming true→dU,false→dV
namespace Go.Pl
open Go Go.Ab Go.Wk Go.Pc
theorem Red.empty{p:Int}{n:Nat}:Red p n [] (fun _=>0):=⟨by simp,by simp,by simp,by simp,by simp,by simp⟩
theorem zQ1.take{p:Int}{n m:Nat}{rows:Mx}{c:Nat}{M:Mx}{d:Nat}{pv:Nat→Nat}(h:zQ1 p n m rows c M d pv)(bT:c≤n)(hz:∀k,d≤k→k<m→ ∀j,j<n→ent M k j=0):Red p n (M.take d) pv∧sN p n (M.take d) rows:=by
 have hl:(M.take d).length=d:=by rw[L5,h.len];exact H4 h.dm
 have hg:∀i,i<d→(M.take d).getD i []=M.getD i []:=by grind
 have dm:=h.dm;refine⟨⟨fun i hi=>?_,fun i hi=>?_,fun i hi=>?_,fun i hi j hj=>?_,fun i k hi hk gc=>?_,fun i j e7 hj=>?_⟩,sN.trans ⟨fun i hi=>?_,fun i hi=>?_⟩ h.sp⟩
 ·rw[hl]at hi;rw[hg i hi];exact h.row i (by omega)
 ·rw[hl]at hi;have:=h.lt i hi;omega
 ·rw[hl]at hi;simp only[ent,hg i hi];exact h.one i hi
 ·rw[hl]at hi;simp only[ent,hg i hi];exact h.low i hi j hj
 ·rw[hl]at hi hk;simp only[ent,hg k hk];exact h.off i k hi (by omega) gc
 ·rw[hl]at hj;exact h.mono i j e7 hj
 ·grind[tZ]
 ·rw[h.len]at hi
  rcases Js i d with g|g
  ·grind[tZ]
  ·exact zD0 fun j hj=>by simp_all
section
variable {p:Int} (hp:Prime p) {n:Nat}{rows:Mx} (hn:n≤100000) (hm:rows.length≤600000) (hr:∀i,i<rows.length→Row p n (rows.getD i []))
 include hp hn hm hr
theorem zMd:∃R pv,f_f p rows=dS R∧Red p n R pv∧sN p n R rows:=by
 have h7:=hp.pos;unfold f_f;rw[zDX (by omega) (fun i hi=>by have:=(hr i hi).1;omega),bs];have main:=uF (body:=zOx p) (s:=(rows,0,0)) (Q:=fun r=> ∃(M:Mx)(d:Nat)(pv:Nat→Nat),r=(M,(d:Int))∧d≤M.length∧Red p n (M.take d) pv∧sN p n (M.take d) rows)
  (fun i s=> ∃(M:Mx)(d:Nat)(pv:Nat→Nat),s=(M,(d:Int),(i:Int))∧zQ1 p n rows.length rows i M d pv∧i≤n) n (fun c s hc hI=>?_) (fun s hI=>?_) ⟨rows,0,fun _=>0,rfl,⟨rfl,hr,Kc _,fun _ h=>by omega,fun _ h=>by omega,fun _ h=>by omega,fun _ _ h=>by omega,fun _ _ _ h=>by omega,fun _ _ _ _ h=>by omega,sN.refl⟩,Kc _⟩
 ·obtain⟨r,h1,M,d,pv,rfl,hd,hR,hS⟩:=main
  rw[h1,bs];simp only
  have e:zL M 0 (d:Int)=dS (M.take d):=by unfold zL;rw[if_pos ⟨by omega,by omega,by omega⟩];simp
  rw[e,bs];exact⟨_,_,rfl,hR,hS⟩
 ·
  obtain⟨M,d,pv,rfl,h,bT⟩:=hI;have hl:=h.len;have cU:=h.dm
  by_cases h0:rows.length=0
  ·refine .inr ⟨(M,(d:Int)),?_,M,d,pv,rfl,by omega,h.take bT fun k hk fV=>by omega⟩
   unfold zOx;simp only
   rw[dW (by omega),zH]
  have e0:zOx p (M,(d:Int),(c:Int))=cond (decide ((d:Int)<(M.length:Int))) ((zE (zIB (M,(d:Int),(c:Int))) (d:Int)).bind fun r6=>
    cond (r6==(M.length:Int)) ((rng ((c:Int)+1)).bind fun v7=>dS (.inl (M,(d:Int),v7))) (
     (ixO M r6).bind fun v8=>(ixO M (d:Int)).bind fun v9=>(ixO (jT M (d:Int) r6 v8 v9) (d:Int)).bind fun v10=>(ixO v10 (c:Int)).bind fun v11=>(zMG v11 p).bind fun r12=>
     (ixO (jT M (d:Int) r6 v8 v9) (d:Int)).bind fun v13=>(zE (zMH p (M,(d:Int),(c:Int)) r12 v13) (jT M (d:Int) r6 v8 v9,0)).bind fun r21=>
     (zE (zOw p (M,(d:Int),(c:Int)) r21) (r21,0)).bind fun r30=>(rng ((d:Int)+1)).bind fun v31=>(rng ((c:Int)+1)).bind fun v32=>dS (.inl (r30,v31,v32)))) (dS (.inr (M,(d:Int)))):=by
   unfold zOx;simp only
   have hx:ixO M (0:Int)=dS (M.getD 0 []):=by have:=zR (v:=M) (i:=0) [] (by omega);exact this
   rw[dX (by omega),zI,hx];simp only[bs];rw[(h.row 0 (by omega)).1,yJ hc,zI]
  rcases Js d rows.length with hd|hd
  ·obtain⟨t,t1,t2,t3,t4,t5⟩:=zQ2 (M:=M) (d:=d) (c:=c) (m:=rows.length) (n:=n) hl cU (by omega) (fun i hi=>(h.row i hi).1) hc
   rw[e0,hl,yJ hd,zI,t3];simp only[bs]
   by_cases bi:t=rows.length
   ·
    left;refine⟨(M,(d:Int),((c+1:Nat):Int)),?_,M,d,pv,rfl,⟨hl,h.row,cU,fun i hi=>by have:=h.lt i hi;omega,h.one,h.low,h.off,h.mono,fun k k1 k2 j hj=>?_,h.sp⟩,by omega⟩
    ·rw[zJy (by omega),zI,zF (by omega) (by omega),bs,cs]
    ·rcases Js j c with g|g
     ·exact h.zero k k1 k2 j g
     ·rw[show j=c from by omega];exact t4 k k1 (by omega)
   ·have fQ:t<rows.length:=by omega
    have gc:=t5 fQ;have eV:=h.row t fQ;have hrc:=eV.2 c hc;obtain⟨q,q1,q2,q3,q4⟩:=zCw (p:=p) (x:=ent M t c) hp (by simp only[ent]at gc ⊢;omega) (by simp only[ent];omega);left;have hM:M=mkR rows.length (fun i=>M.getD i []):=zNM hl;obtain⟨F,hF⟩:∃F:Nat→List Int,∀i,F i=if i=t then M.getD d []else if i=d then M.getD t []else M.getD i []:=⟨_,fun _=>rfl⟩
    have hsw:jT M (d:Int) (t:Int) (M.getD t []) (M.getD d [])=mkR rows.length F:=by
     unfold jT;rw[J8,J8]
     conv=>lhs;rw[hM]
     rw[zGO,zGO];exact kK fun i hi=>by rw[hF,zAi hd,zAi fQ]
    have pm:∀i,i<rows.length→Row p n (F i):=fun i hi=>by
     rw[hF];split
     ·exact h.row d hd
     ·split
      ·exact eV
      ·exact h.row i hi
    have hFd:F d=M.getD t []:=by
     rw[hF]
     by_cases e:d=t
     ·rw[if_pos e,e]
     ·rw[if_neg e,if_pos rfl]
    obtain⟨G,hG⟩:∃G:Nat→List Int,∀i,G i=if i=d then mkv n fun j=>(at0 (F d) j*q)%p else F i:=⟨_,fun _=>rfl⟩
    have hGd:G d=mkv n fun j=>(ent M t j*q)%p:=by rw[hG,if_pos rfl,hFd]
    have hGo:∀i,i≠d→G i=if i=t then M.getD d []else M.getD i []:=fun i ej=>by rw[hG,if_neg ej,hF];simp only[ej,if_false]
    have mI:zE (zMH p (M,(d:Int),(c:Int)) (q,dU) (M.getD t [])) (mkR rows.length F,0)=dS (mkR rows.length G):=by
     rw[zNN hp (F:=F) hd (pm d hd) (by omega) ⟨q2,q3⟩ eV.1 rfl]
     congr 1
     exact kK fun i _=>(hG i).symm
    have hF3:∀i,i<rows.length→Row p n (G i):=fun i hi=>by
     rw[hG];split
     ·refine⟨yB _ _,fun j hj=>?_⟩
      have e1:=Ke (at0 (F d) j*q) (show p≠0 by omega);have e2:=K4 (at0 (F d) j*q) (show 0<p by omega);rw[zT hj];omega
     ·exact pm i hi
    have gI:=zNO hp (c:=c) (F:=G) hd hc hF3 (by omega) (by omega) (r21:=mkR rows.length G) tN (s:=(M,(d:Int),(c:Int))) rfl rfl;rw[zHS (by omega),zH,zR [] (by omega),zR [] (by omega)];simp only[bs];rw[hsw,zK3 hd,hFd];simp only[bs];rw[zZ (by rw[eV.1];exact hc)];simp only[bs];rw[show at0 (M.getD t []) c=ent M t c from rfl,q1];simp only[bs];rw[mI];simp only[bs];rw[gI];simp only[bs];rw[zF (by omega) (by omega),zF (by omega) (by omega)];simp only[bs,cs];have mi:=h.pivot hp hc hd t1 fQ gc q4;refine⟨_,rfl,_,d+1,fun i=>if i=d then c else pv i,rfl,?_,by omega⟩;have e3:(mkR rows.length fun i=>if i=d then G d else wQ p n (G i) (0-at0 (G i) c) (G d))=(mkR rows.length fun i=>if i=d then mkv n fun j=>(ent M t j*q)%p else wQ p n (if i=t then M.getD d []else M.getD i []) (0-at0 (if i=t then M.getD d []else M.getD i []) c) (mkv n fun j=>(ent M t j*q)%p)):=by
     refine kK fun i hi=>?_
     rw[hGd]
     by_cases ej:i=d
     ·rw[if_pos ej,if_pos ej]
     ·rw[if_neg ej,if_neg ej,hGo i ej]
    rw[e3];exact mi
  ·
   refine .inr ⟨(M,(d:Int)),?_,M,d,pv,rfl,by omega,h.take bT fun k hk fV=>by omega⟩;rw[e0,dW (by omega),zH]
 ·
  obtain⟨M,d,pv,rfl,h,bT⟩:=hI;have hl:=h.len;have cU:=h.dm;refine⟨(M,(d:Int)),?_,M,d,pv,rfl,by omega,h.take bT fun k hk fV j hj=>h.zero k hk fV j hj⟩;unfold zOx;simp only
  by_cases h0:rows.length=0
  ·rw[dW (by omega),zH]
  ·have hx:ixO M (0:Int)=dS (M.getD 0 []):=by
    have:=zR (v:=M) (i:=0) [] (by omega);exact this
   rw[dX (by omega),zI,hx];simp only[bs];rw[(h.row 0 (by omega)).1,tH,zH]
end
end Go.Pl

namespace Go.Pl
open Go Go.Ab Go.Wk Go.Pc
theorem zJz{v:List Int}{n:Nat}(hl:v.length=n)(hn:n≤1000000):∃k:Nat,k≤n∧f_M v=dS (k:Int)∧(∀j,j<k→at0 v j=0)∧(k<n→at0 v k≠0):=by
 unfold f_M;rcases chk (body:=zIC v) n 0 (Kc _) (fun i=>at0 v i=0) (fun i=>(i:Int)) (fun i _ hi _=>by
   unfold zIC;rw[hl,yJ hi,zI,zZ (by omega),bs]
   by_cases h:at0 v i=0
   ·rw[sU h,zH,zF (by omega) (by omega),bs,cs];grind
   grind) (by
   unfold zIC
   grind)with⟨h1,h2⟩|⟨i,_,hi,h1,h2⟩
 ·grind
 ·rw[show((0:Nat):Int)=0 from rfl]at h1
  rw[h1,bs];obtain⟨k,⟨hk1,fV⟩,eQ⟩:=zDQ (p:=fun k=>k<n∧at0 v k≠0) ⟨i,hi,h2⟩;have hz:∀j,j<k→at0 v j=0:=by grind
  have hki:k=i:=by
   have cB:∀q,q≤k→zE (zIC v) ((k-q:Nat):Int)=dS (.inr (k:Int)):=by
    intro q
    induction q with
    |zero=>
     intro _;rw[yG];have e:zIC v ((k-0:Nat):Int)=dS (.inr (.inr (k:Int))):=by unfold zIC;rw[show k-0=k from rfl,hl,yJ hk1,zI,zZ (by omega),bs,tI fV,zI]
     rw[e]
    |succ q ih=>
     intro hq;rw[yG];have e:zIC v ((k-(q+1):Nat):Int)=dS (.inl ((k-q:Nat):Int)):=by unfold zIC;rw[hl,yJ (by omega),zI,zZ (by omega),bs,sU (hz _ (by omega)),zH,zF (by omega) (by omega),bs,cs,show k-(q+1)+1=k-q from by omega]
     grind
   have:=cB k (Jd _)
   grind
  grind
theorem zGP{v:List Int}{n k:Nat}(hl:v.length=n)(hn:n≤1000000)(hk:k<n)(h0:∀j,j<k→at0 v j=0)(h1:at0 v k≠0):f_M v=dS (k:Int):=by grind[zJz]
theorem zMe{p x:Int}(hp:Prime p)(h0:1≤x)(h1:x≤p-1):∃r,zUd x p=dS r∧0≤r∧r≤p-1∧(x*r)%p=1:=by
 have h7:=hp.pos;have hx:∃k:Nat,1≤k∧(k:Int)<p∧(x*(k:Int))%p=1:=by
  obtain⟨r,_,r1,r2,r3⟩:=zCw hp h0 h1;refine⟨r.toNat,?_,by omega,by grind⟩;rcases Int.lt_or_eq_of_le r1 with g|g
  ·omega
  ·rw[←g]at r3;simp at r3
 obtain⟨k,⟨k1,k2,k3⟩,eQ⟩:=zDQ hx;have body:∀i:Nat,1≤i→(i:Int)<p→zMJ x p (i:Int)=cond ((x*(i:Int))%p==1) (dS (.inr (.inr (i:Int)))) (dS (.inl ((i+1:Nat):Int))):=fun i hi hip=>by
  have a3:=Gv (show 0≤x by omega) (show 0≤(i:Int)by omega);have a4:=zCt hp (k:=(i:Int)) (by omega) (b:=x) ⟨by omega,h1⟩;rw[Hd]at a4;unfold zMJ;rw[dX hip,zI,zMc hp (by omega) (by omega),bs,Jr (by omega) (by omega),zF (by omega) (by omega),bs];unfold yL;rw[if_neg (by omega),bs,Kb a3]
  by_cases hh:(x*(i:Int))%p=1
  ·grind
  ·rw[zHS hh,zH,zH,zF (by omega) (by omega),bs,cs]
 have cB:∀q,q+1≤k→zE (zMJ x p) ((k-q:Nat):Int)=dS (.inr (k:Int)):=by
  intro q
  induction q with
  |zero=>
   intro _;rw[yG,show k-0=k from rfl,body k k1 k2,zJy k3,zI]
  |succ q ih=>
   intro hq;have gc:(x*((k-(q+1):Nat):Int))%p≠1:=by grind
   rw[yG,body _ (by omega) (by omega),zHS gc,zH,show k-(q+1)+1=k-q from by omega]
   grind
 have:=cB (k-1) (by omega);rw[show k-(k-1)=1 from by omega,show((1:Nat):Int)=1 from rfl]at this
 grind[zUd]
section
variable {p:Int} (hp:Prime p) {n:Nat} (hn:n≤100000)
 include hp hn
theorem zZo{r s:List Int}(hr:Row p n r):wQ p n r p s=r:=by
 have _:=hp;have _:=hn
 conv=>rhs;rw[vO hr.1]
 refine yC fun j hj=>?_
 have:=hr.2 j hj;rw[Q9];exact Jr this.1 (by omega)
def cl(p:Int)(n:Nat)(out:Mx)(pv:Nat→Nat)(v:List Int):Nat→List Int
 |0=>v
 |i+1=>wQ p n (cl p n out pv v i) (p-at0 (cl p n out pv v i) (pv i)) (out.getD i [])
variable {out:Mx}{pv:Nat→Nat} (h:Red p n out pv) {v:List Int} (hv:Row p n v)
 include h hv
theorem zBd:∀i,Row p n (cl p n out pv v i):=by
 have _:=hn;have _:=h;intro i;cases i with
 |zero=>exact hv
 |succ i=>exact qU hp
theorem zHT:∀i,i≤out.length→ ∀k,k<i→at0 (cl p n out pv v i) (pv k)=0:=by
 have _:=hn;have _:=hv;have h7:=hp.pos;intro i
 induction i with
 |zero=>simp
 |succ i ih=>
  intro hi k hk;have gE:=h.lt k (by omega);rw[cl,wQ,zT gE];rcases Js k i with g|g
  ·have h1:=ih (by omega) k g
   have h2:=h.off k i (by omega) (by omega) (by omega)
   simp_all
  ·have hki:k=i:=by omega
   subst hki;have h2:=h.one k (by omega);simp only[ent]at h2;rw[h2,Ku,show at0 (cl p n out pv v k) (pv k)+(p-at0 (cl p n out pv v k) (pv k))=p from by omega,U6]
theorem zGQ:∀i,i≤out.length→ ∃cf:Nat→Int,∀j,j<n→at0 (cl p n out pv v i) j%p=(at0 v j+S out.length fun k=>cf k*ent out k j)%p:=by
 have _:=hp;have _:=h;have _:=hv;have _:=hn;intro i
 induction i with
 |zero=>intro _;exact⟨fun _=>0,fun j _=>by rw[xP (g:=fun _=>0) (fun i _=>by simp),qD,Lb];rfl⟩
 |succ i ih=>
  intro hi;obtain⟨cf,eP⟩:=ih (by omega);refine⟨fun k=>cf k+(if k=i then p-at0 (cl p n out pv v i) (pv i)else 0),fun j hj=>?_⟩;have e1:(S out.length fun k=>(cf k+(if k=i then p-at0 (cl p n out pv v i) (pv i)else 0))*ent out k j)=(S out.length fun k=>cf k*ent out k j)+(p-at0 (cl p n out pv v i) (pv i))*ent out i j:=by rw[xP (g:=fun k=>cf k*ent out k j+(if k=i then p-at0 (cl p n out pv v i) (pv i)else 0)*ent out k j) (by grind),zER,zBs (f:=fun k=>(if k=i then p-at0 (cl p n out pv v i) (pv i)else 0)*ent out k j) (k:=i) (by omega) (by grind)];simp
  rw[e1,cl,wQ,zT hj,Ju,←Int.add_assoc,K5,eP j hj,←K5]
theorem zCy(hm:out.length≤100000):zOy p out v=dS (cl p n out pv v out.length):=by
 have h7:=hp.pos;unfold zOy;rw[wF (by rw[hv.1];omega),bs];have:=zP (body:=zMI p out) (r:=cl p n out pv v out.length) (fun i=>(cl p n out pv v i,(i:Int))) out.length (fun i hi=>by
  have hr:=zBd hp hn h hv i;have ho:=h.row i hi;have gE:=h.lt i hi;have gp:=h.one i hi;have fg:=h.low i hi;simp only[ent]at gp fg;have he:=hr.2 (pv i) gE;unfold zMI;simp only
  rw[yJ hi,zI,zR [] hi,bs,zGP ho.1 (by omega) gE fg (by omega),bs,hr.1,yJ gE,zI,zZ (by rw[hr.1];exact gE),bs]
  by_cases hz:at0 (cl p n out pv v i) (pv i)=0
  ·rw[sU hz,zH,zF (by omega) (by omega),bs,cs,cl,hz,Int.sub_zero,zZo hp hn hr]
  ·rw[tI hz,zI,bs,zF (by omega) (by omega),bs,bs,tC hp hr ho (by omega) (by omega),bs,zF (by omega) (by omega),bs,cs]
   rfl) (by
  unfold zMI;simp)
 rw[show((0:Nat):Int)=0 from rfl]at this
 grind[cl]
end
end Go.Pl

namespace Go.Pl
open Go Go.Ab Go.Wk Go.Pc
section
variable {p:Int} (hp:Prime p) {n:Nat}{out:Mx}{pv:Nat→Nat} (h:Red p n out pv) {u:List Int}{k q:Nat} (hu:Row p n u) (hk:k<n) (u1:at0 u k=1) (ul:∀j,j<k→at0 u j=0) (up:∀i,i<out.length→at0 u (pv i)=0) (hq:q≤out.length) (q1:∀i,i<q→pv i<k) (q2:∀i,q≤i→i<out.length→k<pv i)
def oth(p:Int)(n:Nat)(out:Mx)(u:List Int)(k i:Nat):List Int:=wQ p n (out.getD i []) (p-at0 (out.getD i []) k) u
def tP(p:Int)(n:Nat)(out:Mx)(u:List Int)(k q i:Nat):List Int:=if i<q then oth p n out u k i else if i=q then u else oth p n out u k (i-1)
def zVO(pv:Nat→Nat)(k q i:Nat):Nat:=if i<q then pv i else if i=q then k else pv (i-1)
 include hp h hu hk u1 ul up hq q1 q2
theorem zNP{i j:Nat}(hj:j<n):at0 (oth p n out u k i) j=(at0 (out.getD i []) j-at0 (out.getD i []) k*at0 u j)%p:=by have _:=hp;have _:=h;have _:=hu;have _:=hk;have _:=u1;have _:=ul;have _:=up;have _:=hq;have _:=q1;have _:=q2;rw[oth,wQ,zT hj,show at0 (out.getD i []) j+(p-at0 (out.getD i []) k)*at0 u j=at0 (out.getD i []) j-at0 (out.getD i []) k*at0 u j+p*at0 u j from by grind,Q9]
theorem zEV{i j:Nat}(hi:i<out.length)(hj:j<n)(hz:at0 (out.getD i []) k=0∨at0 u j=0):at0 (oth p n out u k i) j=ent out i j:=by
 rw[zNP hp h hu hk u1 ul up hq q1 q2 hj];have:=(h.row i hi).2 j hj;have e:at0 (out.getD i []) k*at0 u j=0:=by grind
 rw[e,Int.sub_zero];exact Jr this.1 (by omega)
theorem yBI{i:Nat}:at0 (oth p n out u k i) k=0:=by rw[zNP hp h hu hk u1 ul up hq q1 q2 hk,u1,Ku,Int.sub_self];rfl
theorem zVP{i j:Nat}(hi:i<out.length)(hj:j<pv i)(gc:pv i≠k):at0 (oth p n out u k i) j=0:=by
 have gE:=h.lt i hi;rcases Js (pv i) k with g|g
 ·rw[zEV hp h hu hk u1 ul up hq q1 q2 hi (by omega) (by grind)];exact h.low i hi j hj
 ·have:=h.low i hi k (by omega)
  rw[zEV hp h hu hk u1 ul up hq q1 q2 hi (by omega) (.inl this)];exact h.low i hi j hj
theorem yBJ{i:Nat}(hi:i<out.length):pv i≠k:=by have _:=hp;have _:=h;have _:=hu;have _:=hk;have _:=ul;have _:=hq;have _:=q1;have _:=q2;grind
theorem zJ0{i:Nat}(hi:i<out.length+1):(i=q∧tP p n out u k q i=u∧zVO pv k q i=k)∨ ∃a,a<out.length∧(i<q∧a=i∨q<i∧i=a+1)∧tP p n out u k q i=oth p n out u k a∧zVO pv k q i=pv a:=by
 have _:=hp;have _:=h;have _:=hu;have _:=hk;have _:=u1;have _:=ul;have _:=up;have _:=q1;have _:=q2;unfold tP zVO
 grind
theorem zNQ:Red p n (mkR (out.length+1) (tP p n out u k q)) (zVO pv k q):=by
 have nc:=fun i hi=>zJ0 hp h hu hk u1 ul up hq q1 q2 (i:=i) hi
 have pn:=fun i hi=>yBJ hp h hu hk u1 ul up hq q1 q2 (i:=i) hi
 refine⟨fun i hi=>?_,fun i hi=>?_,fun i hi=>?_,fun i hi j hj=>?_,fun i j hi hj gc=>?_,fun i j e7 hj=>?_⟩<;>rw[tN]at*
 ·rw[zAi hi]
  rcases nc i hi with⟨_,e,_⟩|⟨a,_,_,e,_⟩<;>rw[e]
  ·exact hu
  ·exact qU hp
 ·rcases nc i hi with⟨_,_,e⟩|⟨a,ha,_,_,e⟩<;>rw[e]
  ·exact hk
  ·exact h.lt a ha
 ·rw[zEU hi]
  rcases nc i hi with⟨_,e1,e2⟩|⟨a,ha,_,e1,e2⟩<;>rw[e1,e2]
  ·exact u1
  ·rw[zEV hp h hu hk u1 ul up hq q1 q2 ha (h.lt a ha) (.inr (up a ha))];exact h.one a ha
 ·rw[zEU hi]
  rcases nc i hi with⟨_,e1,e2⟩|⟨a,ha,_,e1,e2⟩<;>rw[e2]at hj<;>rw[e1]
  ·grind
  ·exact zVP hp h hu hk u1 ul up hq q1 q2 ha hj (pn a ha)
 ·rw[zEU hj]
  rcases nc i hi with⟨g1,_,e2⟩|⟨a,ha,ga,_,e2⟩<;>rw[e2]<;>rcases nc j hj with⟨g3,e3,_⟩|⟨b,hb,gb,e3,_⟩<;>rw[e3]
  ·omega
  ·exact yBI hp h hu hk u1 ul up hq q1 q2
  ·grind
  ·rw[zEV hp h hu hk u1 ul up hq q1 q2 hb (h.lt a ha) (.inr (up a ha))]
   exact h.off a b ha hb (by omega)
 ·rcases nc i (by omega)with⟨g1,_,e2⟩|⟨a,ha,ga,_,e2⟩<;>rw[e2]<;>rcases nc j hj with⟨g3,_,e4⟩|⟨b,hb,gb,_,e4⟩<;>rw[e4]
  ·omega
  ·grind
  ·grind
  ·exact h.mono a b (by omega) hb
theorem zQ3:(∀i,i<out.length+1→Sp p n (out++[u]) (tP p n out u k q i))∧(∀i,i<out.length→Sp p n (mkR (out.length+1) (tP p n out u k q)) (out.getD i []))∧Sp p n (mkR (out.length+1) (tP p n out u k q)) u:=by
 have cW:Sp p n (out++[u]) u:=by
  have:=tZ (p:=p) (n:=n) (R:=out++[u]) (i:=out.length) (by simp)
  grind
 have hol:∀i,i<out.length→Sp p n (out++[u]) (out.getD i []):=fun i hi=>by
  have:=tZ (p:=p) (n:=n) (R:=out++[u]) (i:=i) (by simp;omega)
  grind
 have hoth:∀i,i<out.length→Sp p n (out++[u]) (oth p n out u k i):=fun i hi=>
  qE (k:=p-at0 (out.getD i []) k) (hol i hi) cW (by grind[oth,wQ,zT,Ju])
 have bl:Sp p n (mkR (out.length+1) (tP p n out u k q)) u:=by have:=zCx (p:=p) (n:=n) (m:=out.length+1) (F:=tP p n out u k q) (i:=q) (by omega);rw[show tP p n out u k q q=u from by unfold tP;simp]at this;exact this
 refine⟨fun i hi=>?_,fun i hi=>?_,bl⟩
 ·rcases zJ0 hp h hu hk u1 ul up hq q1 q2 hi with⟨_,e,_⟩|⟨a,ha,_,e,_⟩<;>rw[e]
  all_goals grind
 ·have eS:∃b,b<out.length+1∧tP p n out u k q b=oth p n out u k i:=by
   rcases Js i q with g|g
   ·exact⟨i,by omega,by unfold tP;grind⟩
   ·exact⟨i+1,by omega,by unfold tP;grind⟩
  obtain⟨b,hb,e⟩:=eS;have h1:=zCx (p:=p) (n:=n) (m:=out.length+1) (F:=tP p n out u k q) hb;rw[e]at h1;refine qE (k:=at0 (out.getD i []) k) h1 bl fun j hj=>?_
  rw[zNP hp h hu hk u1 ul up hq q1 q2 hj,K5,Ju,←K5,show at0 (out.getD i []) j-at0 (out.getD i []) k*at0 u j+at0 (out.getD i []) k*at0 u j=at0 (out.getD i []) j from by omega]
theorem zMf(hn:n≤100000)(hm:out.length≤100000){x:Int}:
  ((zE (zID p (out,x) (k:Int) u) ([],dV,0)).bind fun r32=>cond (!r32.2) ((zX r32.1 [u]).bind fun v33=>dS v33) (dS r32.1))=dS (mkR (out.length+1) (tP p n out u k q)):=by
 have _:=u1;have _:=ul;have _:=up;have h7:=hp.pos;have ho:∀i,i<out.length→f_F p (out.getD i []) (p-at0 (out.getD i []) k) u=dS (oth p n out u k i)∧ixO (out.getD i []) (k:Int)=dS (at0 (out.getD i []) k)∧0≤at0 (out.getD i []) k∧at0 (out.getD i []) k≤p-1∧f_M (out.getD i [])=dS (pv i:Int):=fun i hi=>by have hr:=h.row i hi;have fV:=hr.2 k hk;have gp:=h.one i hi;have fg:=h.low i hi;simp only[ent]at gp fg;exact⟨by rw[tC hp hr hu (by omega) (by omega)];rfl,zZ (by rw[hr.1];exact hk),fV.1,fV.2,zGP hr.1 (by omega) (h.lt i hi) fg (by omega)⟩
 have hsn:∀{m:Nat}{F:Nat→List Int},mkR m F++[F m]=mkR (m+1) F:=by grind[mkR,K9]
 have:=zP (body:=zID p (out,x) (k:Int) u) (r:=(if out.length≤q then(mkR out.length (tP p n out u k q),dV)else(mkR (out.length+1) (tP p n out u k q),dU)))
  (fun j=>if j≤q then(mkR j (tP p n out u k q),dV,(j:Int))else(mkR (j+1) (tP p n out u k q),dU,(j:Int))) out.length (fun j hj=>by
   obtain⟨a1,a2,a3,a4,a5⟩:=ho j hj;have aC:rng (p-at0 (out.getD j []) k)=dS (p-at0 (out.getD j []) k):=by grind[zF]
   rcases H5 j q with g|g|g
   ·have hpj:=q1 j g
    rw[if_pos (by omega),if_pos (by omega)];unfold zID;simp only
    rw[yJ hj,zI,Jo,zI,zR [] hj];simp only[bs,a5];rw[dW (by omega),zH,a2];simp only[bs,aC,a1];rw[zS (by rw[tN];simp;omega),bs,zF (by omega) (by omega),bs,cs];have:tP p n out u k q j=oth p n out u k j:=by unfold tP;grind
    grind
   ·subst g
    have hpj:=q2 j (Jd _) hj;rw[if_pos (by omega),if_neg (by omega)];unfold zID;simp only
    rw[yJ hj,zI,Jo,zI,zR [] hj];simp only[bs,a5];rw[dX (by omega),zI,zS (by rw[tN];simp;omega),a2];simp only[bs,aC,a1];have e1:tP p n out u k j j=u:=by unfold tP;simp
    have e2:tP p n out u k j (j+1)=oth p n out u k j:=by unfold tP;grind
    have e3:mkR j (tP p n out u k j)++[u]=mkR (j+1) (tP p n out u k j):=by grind
    rw[e3,zS (by rw[tN];simp;omega),bs,zF (by omega) (by omega),bs,cs,←e2,hsn]
   ·rw[if_neg (by omega),if_neg (by omega)]
    unfold zID;simp only
    rw[yJ hj,zI,J3,zH,zR [] hj];simp only[bs,a2,aC,a1];have e2:tP p n out u k q (j+1)=oth p n out u k j:=by unfold tP;rw[if_neg (by omega),if_neg (by omega)];rfl
    rw[zS (by rw[tN];simp;omega),bs,zF (by omega) (by omega),bs,cs,←e2,hsn]) (by
   by_cases g:out.length≤q
   ·rw[if_pos g,if_pos g]
    unfold zID;simp
   ·rw[if_neg g,if_neg g]
    unfold zID;simp)
 rw[if_pos (Kc _),show((0:Nat):Int)=0 from rfl,show mkR 0 (tP p n out u k q)=[]from rfl]at this;rw[this,bs]
 by_cases g:out.length≤q
 ·have e1:tP p n out u k q out.length=u:=by unfold tP;grind
  rw[if_pos g];simp only
  rw[Jo,zI,zS (by rw[tN];simp;omega),bs]
  grind
 grind
end
end Go.Pl

namespace Go.Pl
open Go Go.Ab Go.Wk Go.Pc
theorem zNR{p:Int}{n:Nat}{R out:Mx}{cf:Nat→Int}(ho:∀i,i<out.length→Sp p n R (out.getD i [])){u:List Int}(hu:∀j,j<n→at0 u j%p=(S out.length fun k=>cf k*ent out k j)%p):Sp p n R u:=
 zAu ho ⟨cf,by grind⟩
theorem Red.len_le{p:Int}{n:Nat}{R:Mx}{pv:Nat→Nat}(h:Red p n R pv):R.length≤n:=by
 have key:∀i,i<R.length→i≤pv i:=by
  intro i
  induction i with
  |zero=>simp
  |succ i ih=>
   intro hi;have h1:=ih (by omega);have h2:=h.mono i (i+1) (by omega) hi;omega
 rcases Jai R.length with g|g
 ·omega
 ·have h1:=key (R.length-1) (by omega)
  have h2:=h.lt (R.length-1) (by omega);omega
theorem zD1{xs:Mx}{v:List Int}{i:Nat}(h:i<xs.length):(xs++[v]).getD i []=xs.getD i []:=by grind
theorem zD2{xs:Mx}{v:List Int}:(xs++[v]).getD xs.length []=v:=by simp
section
variable {p:Int} (hp:Prime p) {n:Nat} (hn:n≤100000)
 include hp hn
theorem zHU{w:List Int}(hw:Row p n w){r:Int}(h0:0≤r)(h1:r≤p-1):zUe p r w=dS (mkv n fun j=>(at0 w j*r)%p):=by
 have h7:=hp.pos;unfold zUe;rw[hw.1,yF (by omega),bs,tC hp (kI (by omega)) hw (by omega) (by omega),bs]
 congr 1
 refine yC fun j hj=>?_
 grind
variable {rows:Mx} (hm:rows.length≤600000) (hr:∀i,i<rows.length→Row p n (rows.getD i []))
 include hm hr
theorem zEW:∃R pv,f_r p rows=dS R∧(Red p n R pv∧R.length≤rows.length)∧sN p n R rows:=by
 have h7:=hp.pos;unfold f_r;have main:=uF (body:=zQS p rows) (s:=([],0)) (Q:=fun R=> ∃pv,(Red p n R pv∧R.length≤rows.length)∧sN p n R rows)
  (fun i s=> ∃(out:Mx)(pv:Nat→Nat),s=(out,(i:Int))∧Red p n out pv∧sN p n out (rows.take i)∧out.length≤i∧i≤rows.length) rows.length (fun i s hi hI=>?_) (fun s hI=>?_) ⟨[],fun _=>0,rfl,Red.empty,by rw[L4];exact sN.refl,Kc _,Kc _⟩
 ·obtain⟨R,h1,pv,h2,h3⟩:=main
  rw[h1,bs];exact⟨R,pv,rfl,h2,h3⟩
 ·obtain⟨out,pv,rfl,h,hs,hl,_⟩:=hI
  have hon:out.length≤n:=h.len_le;left;have hv:=hr i hi;have hw:=zBd hp hn h hv out.length;have gI:=zCy hp hn h hv (by omega);have aR:=zHT hp hn h hv out.length (Jd _);obtain⟨cf,eP⟩:=zGQ hp hn h hv out.length (Jd _);obtain⟨k,k1,k2,k3,k4⟩:=zJz hw.1 (by omega);have fR:rows.take (i+1)=rows.take i++[rows.getD i []]:=by rw[Jw hi,J4,J6 hi];rfl
  have mH:(rows.take i).length=i:=by rw[L5];omega
  have fb:∀u,Sp p n (rows.take i) u→Sp p n (rows.take (i+1)) u:=fun u hu=>zAu (fun a ha=>by have:=tZ (p:=p) (n:=n) (R:=rows.take (i+1)) (i:=a) (by rw[fR,J7];omega);rw[fR,zD1 ha,←fR]at this;exact this) hu
  have cP:Sp p n (rows.take (i+1)) (rows.getD i []):=by
   have:=tZ (p:=p) (n:=n) (R:=rows.take (i+1)) (i:=i) (by rw[fR,J7,mH];simp);rw[fR]at this;have e:(rows.take i++[rows.getD i []]).getD i []=rows.getD i []:=by have:=zD2 (xs:=rows.take i) (v:=rows.getD i []);rw[mH]at this;exact this
   rw[e,←fR]at this;exact this
  by_cases mP:k=n
  ·
   refine⟨(out,((i+1:Nat):Int)),?_,out,pv,rfl,h,⟨fun a ha=>fb _ (hs.1 a ha),fun a ha=>?_⟩,by omega,by omega⟩
   ·unfold zQS
    simp only
    rw[yJ hi,zI,zR [] hi];simp only[bs,gI,k2];rw[hw.1,zJy (by omega),zI,zF (by omega) (by omega),bs,cs]
   ·rw[fR,J7,mH,Jb]at ha
    rw[fR];rcases Js a i with g|g
    ·rw[zD1 (by omega)];exact hs.2 a (by omega)
    ·have:a=i:=by omega
     subst this;have e:(rows.take a++[rows.getD a []]).getD a []=rows.getD a []:=by have:=zD2 (xs:=rows.take a) (v:=rows.getD a []);rw[mH]at this;exact this
     rw[e];refine zNR (out:=out) (cf:=fun q=> -1*cf q) (fun a ha=>tZ ha) fun j hj=>?_
     have h1:=eP j hj;rw[k3 j (by omega)]at h1;rw[xP (g:=fun q=> -1*(cf q*ent out q j)) (fun q _=>by rw[Gb]),zAY];have h2:(at0 (rows.getD a []) j+S out.length fun q=>cf q*ent out q j)%p=0:=by rw[←h1];rfl
     rw[show at0 (rows.getD a []) j=(at0 (rows.getD a []) j+S out.length fun q=>cf q*ent out q j)+ -1*(S out.length fun q=>cf q*ent out q j)from by omega,K5,h2,Lo,Ju]
  ·have hk:k<n:=by omega
   have hwk:=hw.2 k hk;have gc:=k4 hk;obtain⟨r,r1,r2,r3,r4⟩:=zMe hp (x:=at0 (cl p n out pv (rows.getD i []) out.length) k) (by omega) (by omega);have mI:=zHU hp hn hw r2 r3;have hu:Row p n (mkv n fun j=>(at0 (cl p n out pv (rows.getD i []) out.length) j*r)%p):=⟨yB _ _,fun j hj=>by have e1:=Ke (at0 (cl p n out pv (rows.getD i []) out.length) j*r) (show p≠0 by omega);have e2:=K4 (at0 (cl p n out pv (rows.getD i []) out.length) j*r) (show 0<p by omega);rw[zT hj];omega⟩
   have ua:∀j,j<n→at0 (mkv n fun j=>(at0 (cl p n out pv (rows.getD i []) out.length) j*r)%p) j=(at0 (cl p n out pv (rows.getD i []) out.length) j*r)%p:=fun j hj=>zT hj
   generalize mkv n (fun j=>(at0 (cl p n out pv (rows.getD i []) out.length) j*r)%p)=u at mI hu ua
   have u1:at0 u k=1:=by rw[ua k hk];exact r4
   have ul:∀j,j<k→at0 u j=0:=fun j hj=>by rw[ua j (by omega),k3 j hj];simp
   have up:∀a,a<out.length→at0 u (pv a)=0:=fun a ha=>by rw[ua _ (h.lt a ha),aR a ha];simp
   obtain⟨q,⟨hq,aQ⟩,eQ⟩:=zDQ (p:=fun q=>q≤out.length∧(q<out.length→k<pv q)) ⟨out.length,Jd _,fun g=>by omega⟩;have q1:∀a,a<q→pv a<k:=fun a ha=>by
    have h1:¬(k<pv a):=fun g=>eQ a ha ⟨by omega,fun _=>g⟩
    have h2:pv a≠k:=fun e=>by have:=up a (by omega);rw[e,u1]at this;cases this
    omega
   have q2:∀a,q≤a→a<out.length→k<pv a:=fun a ha ha2=>by
    have h1:=aQ (by omega);rcases Js q a with g|g
    ·have:=h.mono q a g ha2;omega
    ·rw[show a=q from by omega];exact h1
   have eR:=zMf hp h hu hk u1 ul up hq q1 q2 hn (by omega) (x:=(i:Int));have pV:=zNQ hp h hu hk u1 ul up hq q1 q2;obtain⟨s1,s2,s3⟩:=zQ3 hp h hu hk u1 ul up hq q1 q2;refine⟨(mkR (out.length+1) (tP p n out u k q),((i+1:Nat):Int)),?_,_,_,rfl,pV,⟨fun a ha=>?_,fun a ha=>?_⟩,by rw[tN];omega,by omega⟩
   ·unfold zQS
    simp only
    rw[yJ hi,zI,zR [] hi];simp only[bs,gI,k2];rw[hw.1,zHS (by omega),zH,zZ (by rw[hw.1];exact hk)];simp only[bs,r1,mI];cases gY:zE (zID p (out,(i:Int)) (k:Int) u) ([],dV,0)with
    |none=>rw[gY]at eR;cases eR
    |some r32=>
     rw[gY,bs]at eR;simp only[bs];obtain⟨a1,a2⟩:=r32;cases a2 with
     |true=>
      simp only[J3,zH]at eR ⊢
      rw[zF (by omega) (by omega),bs,cs,Lh.inj eR]
     |false=>
      simp only[Jo,zI]at eR ⊢
      cases hap:zX a1 [u]with
      |none=>rw[hap]at eR;cases eR
      |some v33=>
       rw[hap,bs]at eR;simp only[bs];rw[zF (by omega) (by omega),bs,cs,Lh.inj eR]
   ·rw[tN]at ha
    rw[zAi ha];refine zAu (fun b hb=>?_) (s1 a ha);rw[J7,Jb]at hb;rcases Js b out.length with g|g
    ·rw[zD1 g];exact fb _ (hs.1 b g)
    ·rw[show b=out.length from by omega,zD2]
     have ak:Sp p n (rows.take (i+1)) (cl p n out pv (rows.getD i []) out.length):=by
      have dB:Sp p n (rows.take (i+1)) (mkv n fun j=>S out.length fun k=>cf k*ent out k j):=zNR (out:=out) (cf:=cf) (fun b hb=>fb _ (hs.1 b hb)) fun j hj=>by rw[zT hj]
      refine qE (k:=1) cP dB fun j hj=>?_
      rw[eP j hj,zT hj,Kl]
     refine qE (k:=r) (zD0 (u:=[]) fun j _=>by simp[at0]) ak fun j hj=>?_
     rw[ua j hj,Ju,show at0 ([]:List Int) j=0 from by simp[at0],Lo,Hd]
   ·rw[fR,J7,mH,Jb]at ha
    rw[fR];rcases Js a i with g|g
    ·rw[zD1 (by omega)]
     exact zAu s2 (hs.2 a (by omega))
    ·have hai:a=i:=by omega
     subst hai;have e:(rows.take a++[rows.getD a []]).getD a []=rows.getD a []:=by have:=zD2 (xs:=rows.take a) (v:=rows.getD a []);rw[mH]at this;exact this
     rw[e];have ak:Sp p n (mkR (out.length+1) (tP p n out u k q)) (cl p n out pv (rows.getD a []) out.length):=by
      refine qE (k:=at0 (cl p n out pv (rows.getD a []) out.length) k) (zD0 (u:=[]) fun j _=>by simp[at0]) s3 fun j hj=>?_
      rw[ua j hj,show at0 ([]:List Int) j=0 from by simp[at0],Lo];rw[Jk,Ju,←Jk,←Gb,Hd (at0 (cl p n out pv (rows.getD a []) out.length) k),Gb,Jk,r4,Ku,Ju]
     have dB:Sp p n (mkR (out.length+1) (tP p n out u k q)) (mkv n fun j=>S out.length fun k=>cf k*ent out k j):=zNR (out:=out) (cf:=cf) s2 fun j hj=>by rw[zT hj]
     refine qE (k:=-1) ak dB fun j hj=>?_
     rw[zT hj,K5,eP j hj,←K5]
     congr 1;omega
 ·obtain⟨out,pv,rfl,h,hs,hl,_⟩:=hI
  refine⟨out,?_,pv,⟨h,hl⟩,by rw[List.take_length]at hs;exact hs⟩;unfold zQS;simp only
  rw[tH,zH]
theorem zMg:∃R pv,f_r p rows=dS R∧Red p n R pv∧sN p n R rows:=by grind[zEW]
theorem zHV{R:Mx}{pv:Nat→Nat}(h:Red p n R pv)(hs:sN p n R rows):R.length≤rows.length:=by have h7:=hp.pos;obtain⟨R',pv',_,h2,h3⟩:=zEW hp hn hm hr;rw[h.unique (by omega) h2.1 (hs.trans h3.symm)];exact h2.2
theorem zBv:∃R pv,f_r p rows=dS R∧f_f p rows=dS R∧Red p n R pv∧sN p n R rows:=by
 have h7:=hp.pos;obtain⟨R,pv,h1,h2,h3⟩:=zMg hp hn hm hr;obtain⟨R',pv',g1,g2,g3⟩:=zMd hp hn hm hr;have e:=h2.unique (by omega) g2 (h3.trans g3.symm)
 grind
end
end Go.Pl

namespace Go.Pl
open Go Go.Ab Go.Wk Go.Pc
theorem vV{β:Type}{body:List β×Int→Option ((List β×Int)⊕List β)}(n:Nat)(F:Nat→β)(h:∀i acc,i<n→acc.length=i→body (acc,(i:Int))=dS (.inl (acc++[F i],((i+1:Nat):Int))))(he:∀acc,body (acc,(n:Int))=dS (.inr acc)):
  zE body ([],0)=dS ((Jn n).map F):=by
 have:=zP (body:=body) (r:=(Jn n).map F) (fun i=>((Jn i).map F,(i:Int))) n (by grind[K9]) (he _);exact this
theorem zFK{xs:Mx}(hx:xs.length≤100000)(hf:xs.flatten.length≤1000000):zRa xs=dS xs.flatten:=by
 unfold zRa;have:=zP (body:=zMQ xs) (r:=xs.flatten) (fun i=>((xs.take i).flatten,(i:Int))) xs.length (fun i hi=>by
  have h1:=zFJ hi;have h2:=zK1 (xs:=xs) (i+1);have h3:=congrArg Uz h1;rw[J7]at h3;unfold zMQ;simp only
  rw[yJ hi,zI,zR [] hi,bs,zS (by omega),bs,zF (by omega) (by omega),bs,cs,h1]) (by
  unfold zMQ;simp)
 grind
theorem zEX{p:Int}{L:Nat}{v:List Int}:Row p L v↔v.length=L∧ ∀a∈v,0≤a∧a≤p-1:=by
 constructor
 ·rintro⟨h1,h2⟩
  refine⟨h1,fun a ha=>?_⟩;obtain⟨i,hi,rfl⟩:=K8.1 ha
  grind
 ·rintro⟨h1,h2⟩
  refine⟨h1,fun i hi=>?_⟩
  simp_all
theorem zEY{D:Nat}:∀{xs:Mx},(∀r∈xs,r.length=D)→xs.flatten.length=xs.length*D
 | [],_=>by simp
 |x::xs,h=>by
  have:=zEY (xs:=xs) fun r hr=>h r (by simp[hr])
  grind
theorem zHW{p:Int}{D:Nat}{xs:Mx}(h:∀r∈xs,Row p D r):Row p (xs.length*D) xs.flatten:=by grind[zEX,zEY,Uc]
def uJ(D k:Nat):List Int:=mkv D fun j=>if j=k then 1 else 0
theorem zFL{p:Int}{D k:Nat}(hp:2≤p):Row p D (uJ D k):=⟨yB _ _,by grind[uJ,zT]⟩
theorem zA0{D k:Nat}(hk:k<D)(hD:D≤1000000):zKH (D:Int) (k:Int)=dS (uJ D k):=by grind[zKH,yF,zZ,uW,qT,uJ]
section
variable {n D:Nat}{m:zB} (hm:MOk n m D) (hn:n≤14)
 include hm hn
def inn(m:zB)(n D:Nat)(v:List Int):Mx:=(Jn n).map fun i=>wQ m.Prime D (xW m.Prime D v (m.zG.getD i [])) (-1) v
theorem zEZ{v:List Int}:(inn m n D v).length=n:=by have _:=hm;have _:=hn;simp[inn]
theorem zMh{v:List Int}:∀r∈inn m n D v,Row m.Prime D r:=fun r hr=>by have _:=hn;simp only[inn,Je]at hr;obtain⟨i,_,rfl⟩:=hr;exact qU hm.p
theorem zHX{x:SPr}(hx:x.zA.length=n){v:List Int}(hv:Row m.Prime D v):zUn x m v=dS (inn m n D v):=by
 have h7:=hm.p.pos;have h3:=hm.d3;unfold zUn;rw[vV (body:=zMS x m v) n (fun i=>wQ m.Prime D (xW m.Prime D v (m.zG.getD i [])) (-1) v) (fun i acc hi ha=>by
  unfold zMS;simp only
  rw[hx,yJ hi,zI,zB5 hm hn hi,bs,sE hm.p (by omega) hv (hm.mat i hi) rfl,bs,zAM hm.p (zBb (by omega)) hv (by omega) (by omega),bs,zS (by simp;omega),bs,zF (by omega) (by omega),bs,cs]) (fun acc=>by
  unfold zMS
  grind),bs]
 rfl
theorem zEt{v:List Int}(hv:Row m.Prime D v):zQZ m v=dS (inn m n D v):=by
 have h7:=hm.p.pos;have h3:=hm.d3;have hl:=hm.len;unfold zQZ;rw[vV (body:=zMP m v) n (fun i=>wQ m.Prime D (xW m.Prime D v (m.zG.getD i [])) (-1) v) (fun i acc hi ha=>by
  unfold zMP;simp only
  rw[hl,yJ hi,zI,zR [] (by omega),bs,hm.d,zCr hm.p (by omega) hv (hm.mat i hi),bs,zF (by omega) (by omega),bs,tC hm.p (zBb (by omega)) hv (by omega) (by omega),bs,zEs,zS (by simp;omega),bs,zF (by omega) (by omega),bs,cs]) (fun acc=>by
  unfold zMP
  grind),bs]
 rfl
def jR(m:zB)(n D:Nat):Mx:=(Jn D).map fun k=>(inn m n D (uJ D k)).flatten
theorem zHY{i:Nat}(hi:i<(jR m n D).length):Row m.Prime (n*D) ((jR m n D).getD i []):=by grind[jR,zHW,zMh,zEZ]
theorem zFa{v:List Int}:(inn m n D v).flatten.length=n*D:=by have:=zHW (zMh hm hn (v:=v));rw[zEZ hm hn]at this;exact this.1
theorem zBe{x:SPr}(hx:x.zA.length=n):zO1 x m=dS (jR m n D):=by
 have h7:=hm.p.pos;have h3:=hm.d3;have eO:n*D≤14*3:=Jy hn h3;unfold zO1;rw[vV (body:=zMT x m) D (fun k=>(inn m n D (uJ D k)).flatten) (fun i acc hi ha=>by
  unfold zMT;simp only
  rw[hm.d,yJ hi,zI,zA0 hi (by omega),bs,zHX hm hn hx (zFL h7.1),bs,zAt (by grind[zEZ]) (by grind[zFa]),bs,zS (by simp;omega),bs,zF (by omega) (by omega),bs,cs]) (fun acc=>by
  unfold zMT;simp only
  rw[hm.d,tH,zH]),bs]
 rfl
theorem zEu:zRb m=dS (jR m n D):=by
 have h7:=hm.p.pos;have h3:=hm.d3;have eO:n*D≤14*3:=Jy hn h3;unfold zRb;rw[hm.d,zEq hm.p (by omega),bs];rw[vV (body:=zMR m (idM D)) D (fun k=>(inn m n D (uJ D k)).flatten) (fun i acc hi ha=>by
  unfold zMR;simp only
  rw[uP,yJ hi,zI,zR [] (by grind[uP]),bs,zAI hi];have e:=zEt hm hn (v:=uJ D i) (zFL h7.1);rw[show(mkv D fun j=>if j=i then(1:Int)else 0)=uJ D i from rfl,e,bs,zFK (by grind[zEZ]) (by grind[zFa]),bs,zS (by simp;omega),bs,zF (by omega) (by omega),bs,cs]) (fun acc=>by
  unfold zMR;simp only
  rw[uP,tH,zH]),bs]
 rfl
theorem zJ1:∃R pv,f_r m.Prime (jR m n D)=dS R∧f_f m.Prime (jR m n D)=dS R∧Red m.Prime (n*D) R pv∧sN m.Prime (n*D) R (jR m n D):=by have h3:=hm.d3;have eO:n*D≤14*3:=Jy hn h3;exact zBv hm.p (by omega) (by grind[jR]) (by grind[zHY])
end
end Go.Pl

namespace Go.Pl
open Go Go.Ab Go.Wk Go.Pc
abbrev gl{β:Type}(m:Nat)(F:Nat→β):List β:=(Jn m).map F
theorem wC{β:Type}{m:Nat}{F:Nat→β}:(gl m F).length=m:=by simp[gl]
theorem zJ2{β:Type}{m:Nat}{F:Nat→β}{i:Nat}(h:i<m):ixO (gl m F) (i:Int)=dS (F i):=by rw[qR (by grind)];simp[gl]
theorem zMi{β:Type}{m:Nat}{F G:Nat→β}(h:∀i,i<m→F i=G i):gl m F=gl m G:=by grind[G4]
theorem zSN{β:Type}{m:Nat}{F:Nat→β}{i:Nat}{a:β}:(gl m F).set i a=gl m (fun k=>if k=i then a else F k):=by
 apply L9
 grind
theorem zAj{β:Type}{m:Nat}{F:Nat→β}:gl m F++[F m]=gl (m+1) F:=by simp[gl,K9]
end Go.Pl

namespace Go.Pl
open Go Go.Ab Go.Wk Go.Pc
end Go.Pl

namespace Go.Pl
open Go Go.Ab Go.Wk Go.Pc
end Go.Pl

namespace Go.Pl
open Go Go.Ab Go.Wk Go.Pc
end Go.Pl

namespace Go.Pl
open Go Go.Ab Go.Wk Go.Pc
def mvr(p:Int)(D:Nat)(A:Mx)(k:Nat):List Int:=mkv D fun j=>if j=k then(ent A k k-1)%p else ent A k j
def mvd(p:Int)(D:Nat)(A:Mx):Mx:=gl D (mvr p D A)
def mvS(p:Int)(D:Nat)(A:Mx)(i:Nat):Mx:=gl D fun k=>if k<i then mvr p D A k else A.getD k []
theorem zBZ{xs:Mx}(h:xs.length≤100000)(hl:∀i,i<xs.length→(xs.getD i []).length≤1000000):f_V xs=dS xs:=by
 unfold f_V;rw[vV (body:=zQW xs) xs.length (fun i=>xs.getD i []) (fun i acc hi ha=>by
  unfold zQW;simp only
  rw[yJ hi,zI,zR [] hi,bs,wF (hl i hi),bs,zS (by simp;omega),bs,zF (by omega) (by omega),bs,cs]) (fun acc=>by
  unfold zQW;simp),bs]
 congr 1
 exact(zNM rfl).symm
section
variable {p:Int} (hp:Prime p) {D:Nat} (hD:D≤3) {A:Mx} (hA:Mat p D A)
 include hp hD hA
theorem zVQ{k:Nat}(hk:k<D):Row p D (mvr p D A k):=by
 have h7:=hp.pos;have _:=hD;refine⟨yB _ _,fun j hj=>?_⟩;rw[mvr,zT hj];split
 ·have e1:=Ke (ent A k k-1) (show p≠0 by omega)
  have e2:=K4 (ent A k k-1) (show 0<p by omega);omega
 ·exact(hA.2 k hk).2 j hj
theorem zVR{k:Nat}(hk:k<D):(A.getD k []).set k ((ent A k k-1)%p)=mvr p D A k:=by
 have _:=hp;have _:=hD
 conv=>lhs;rw[vO (hA.2 k hk).1]
 rw[qT];rfl
theorem zSO:mvS p D A 0=A:=by
 have _:=hp;have _:=hD;have e:=zNM hA.1
 conv=>rhs;rw[e]
 rfl
theorem zSP:mvS p D A D=mvd p D A:=by have _:=hp;have _:=hD;have _:=hA;exact zMi fun k hk=>if_pos hk
theorem zVS{i:Nat}:(mvS p D A i).set i (mvr p D A i)=mvS p D A (i+1):=by
 have _:=hp;have _:=hD;have _:=hA;rw[mvS,zSN];refine zMi fun k _=>?_
 grind
theorem zNS{m:zB}{i:Nat}(hm:m.Prime=p)(hi:ixO m.zG (i:Int)=dS A):zW0 m (i:Int)=dS (mvd p D A):=by
 have h7:=hp.pos;have:=zP (body:=zMU m A) (r:=mvd p D A) (fun i=>(mvS p D A i,(i:Int))) D (fun i hi=>by
  have hr:=(hA.2 i hi).2 i hi;unfold zMU;simp only
  rw[hA.1,yJ hi,zI,mvS,zJ2 hi,bs,if_neg (by omega),zZ (by rw[(hA.2 i hi).1];exact hi),bs,zF (by omega) (by omega),bs,hm,zDb hp (by omega) (by omega),bs,bs,zF (by omega) (by omega),bs,cs,J8,zVR hp hD hA hi];exact congrArg (fun z=>dS (Sum.inl (z,((i+1:Nat):Int)))) (zVS hp hD hA)) (by
  unfold zMU;simp only
  rw[hA.1,tH,zH,zSP hp hD hA])
 rw[zSO hp hD hA]at this;unfold zW0;rw[hi,bs,zDX (by rw[hA.1];omega) (fun i hi=>by rw[hA.1]at hi;rw[(hA.2 i hi).1];omega),bs]
 grind
end
end Go.Pl

namespace Go.Pl
open Go Go.Ab Go.Wk Go.Pc
end Go.Pl

namespace Go.Pl
open Go Go.Ab Go.Wk Go.Pc
theorem zNT{v:List Int}{k:Nat}(hl:v.length≤1000000)(hk:k<v.length)(h0:∀j,j<k→at0 v j=0)(h1:at0 v k≠0):zQY v=dS (k:Int):=by
 unfold zQY;have:=zP (body:=zGt v) (r:=.inr (k:Int)) (fun i=>(i:Int)) k (fun i hi=>by
  unfold zGt zQX;rw[yJ (by omega),zI,zZ (by omega),bs,bs,h0 i hi,bne_self_eq_false,zH,zF (by omega) (by omega),bs,cs]) (by
  unfold zGt zQX;rw[yJ hk,zI,zZ hk,bs,bs,tI h1,zI])
 grind
section
variable {p:Int} (hp:Prime p) {n:Nat} (hn:n≤100000) {R:Mx}{pv:Nat→Nat} (h:Red p n R pv) {v:List Int} (hv:Row p n v)
 include hp hn h
theorem zMj(hm:R.length≤100000):f_W R=dS (gl R.length fun i=>(pv i:Int)):=by
 have h7:=hp.pos;unfold f_W;rw[vV (body:=zIE R) R.length (fun i=>(pv i:Int)) (fun i acc hi ha=>by
  have hr:=h.row i hi;have h1:=h.one i hi;unfold zIE;simp only
  rw[yJ hi,zI,zR [] hi,bs,zNT (k:=pv i) (by rw[hr.1];omega) (by grind) (fun j hj=>h.low i hi j hj) (by grind),bs,zS (by simp;omega),bs,zF (by omega) (by omega),bs,cs]) (fun acc=>by
  unfold zIE;simp),bs]
 include hv
theorem zSQ{i:Nat}(hi:i<R.length):wQ p n (cl p n R pv v i) (0-at0 (cl p n R pv v i) (pv i)) (R.getD i [])=cl p n R pv v (i+1):=by
 have _:=hp;have _:=hn;have _:=h;have _:=hv;have _:=hi;rw[cl];refine yC fun j _=>?_
 generalize at0 (cl p n R pv v i) (pv i)=a
 generalize at0 (R.getD i []) j=b
 rw[Int.sub_mul,Int.sub_mul,Gx];have e:at0 (cl p n R pv v i) j+(p*b-a*b)=at0 (cl p n R pv v i) j+(0-a*b)+p*b:=by omega
 simp_all
theorem zDe{c:Int}(hm:R.length≤100000):zUm (zJ.mk p c R) v=dS (cl p n R pv v R.length):=by
 have h7:=hp.pos;have:=zP (body:=zJG (zJ.mk p c R) (gl R.length fun i=>(pv i:Int))) (r:=cl p n R pv v R.length) (fun i=>(cl p n R pv v i,(i:Int))) R.length (fun i hi=>by
  have hr:=zBd hp hn h hv i;have ha:=hr.2 (pv i) (h.lt i hi);unfold zJG;simp only
  rw[wC,yJ hi,zI,zJ2 hi,bs,zR [] hi,bs,zZ (by rw[hr.1];exact h.lt i hi),bs,zF (by omega) (by omega),bs,zAM hp hr (h.row i hi) (by omega) (by omega),bs,zF (by omega) (by omega),bs,cs,zSQ hp hn h hv hi]) (by
  unfold zJG;simp)
 unfold zUm;rw[zBc (by rw[hv.1];omega),bs];simp only
 rw[zMj hp hn h hm,bs];have e:zE (zJG (zJ.mk p c R) (gl R.length fun i=>(pv i:Int))) (v,0)=dS (cl p n R pv v R.length):=this;rw[e,bs]
theorem zVT:(∀j,j<n→at0 (cl p n R pv v R.length) j=0)↔Sp p n R v:=by
 have h7:=hp.pos;obtain⟨cf,eP⟩:=zGQ hp hn h hv R.length (Jd _);have hr:=zBd hp hn h hv R.length;have hs:Sp p n R (mkv n fun j=>S R.length fun k=>cf k*ent R k j):=⟨cf,by grind[zT]⟩;constructor
 ·intro h0
  refine qE (v:=mkv n fun _=>0) (w:=mkv n fun j=>S R.length fun k=>cf k*ent R k j) (k:=-1) (zD0 fun j hj=>by rw[zT hj];rfl) hs fun j hj=>?_
  have h1:=eP j hj;rw[h0 j hj]at h1;rw[zT hj,zT hj]
  generalize (S R.length fun k=>cf k*ent R k j)=s at h1 ⊢
  have h2:(at0 v j+s)%p=0:=by rw[←h1];rfl
  have h3:(at0 v j-(0+ -1*s))%p=0:=by grind
  exact Gz.2 h3
 ·intro cj j hj
  have h1:Sp p n R (cl p n R pv v R.length):=qE (k:=1) cj hs fun j hj=>by rw[eP j hj,zT hj,Kl]
  have h2:=h.expand h1 j hj;rw[xP (g:=fun _=>0) (fun i hi=>by rw[zHT hp hn h hv R.length (Jd _) i hi,Gx]),qD]at h2;have h3:=hr.2 j hj;rw[Jr h3.1 (by omega)]at h2;rw[h2];rfl
end
end Go.Pl

namespace Go.Pl
open Go Go.Ab Go.Wk Go.Pc
section
variable {p:Int} (hp:1<p) {n:Nat}{R R':Mx}{pv pv':Nat→Nat} (h:Red p n R pv) (h':Red p n R' pv') (hs:∀i,i<R.length→Sp p n R' (R.getD i []))
 include hp h h' hs
theorem Red.lt_of{i i2 k k2:Nat}(hii:i<i2)(eS:i2<R.length)(hk:k<R'.length)(e:pv' k=pv i)(e2:pv' k2=pv i2):k<k2:=by
 have _:=hp;have _:=hs;have h1:=h.mono i i2 hii eS;refine Classical.byContradiction fun hn=>?_
 rcases Js k2 k with g|g
 ·have:=h'.mono k2 k g hk;omega
 grind
theorem Red.low_in:∀i,i<R.length→ ∃k,k<R'.length∧pv' k=pv i∧i≤k:=by
 intro i
 induction i with
 |zero=>intro hi;obtain⟨k,hk,e⟩:=h.piv_in hp h' hs hi;grind
 |succ i ih=>
  intro hi;obtain⟨k,hk,e,hik⟩:=ih (by omega);obtain⟨k2,fV,e2⟩:=h.piv_in hp h' hs hi;have:=h.lt_of hp h' hs (by simp) hi hk e e2
  grind
theorem Red.le_of:R.length≤R'.length:=by
 rcases Jai R.length with g|g
 ·omega
 ·obtain⟨k,hk,_,hik⟩:=h.low_in hp h' hs (R.length-1) (by omega)
  omega
end
end Go.Pl

namespace Go.Pl
open Go Go.Ab Go.Wk Go.Pc
end Go.Pl

namespace Go.Pl
open Go Go.Ab Go.Wk Go.Pc
theorem zBw{u v:List Int}{j:Nat}:at0 (u++v) j=if j<u.length then at0 u j else at0 v (j-u.length):=by grind
theorem zCa{v:List Int}{c j:Nat}:at0 (v.drop c) j=at0 v (c+j):=by simp
theorem zFb{v:List Int}{c j:Nat}(h:j<c):at0 (v.take c) j=at0 v j:=by grind
theorem zK4{f:Nat→Int}(t:Nat):∀d:Nat,S (t+d) f=S t f+S d (fun i=>f (t+i))
 |0=>by simp[S]
 |d+1=>by rw[←Ll];simp only[S];rw[zK4 t d];omega
theorem zZp{f:Nat→Int}{t n:Nat}(ht:t≤n)(h:∀i,i<t→f i=0):S n f=S (n-t) (fun i=>f (t+i)):=by
 have e:n=t+(n-t):=by omega
 conv=>lhs;rw[e,zK4,xP (g:=fun _=>0) h,qD]
 omega
theorem zVU{f:Nat→Int}{t n:Nat}(ht:t≤n)(h:∀i,t≤i→i<n→f i=0):S n f=S t f:=by
 have e:n=t+(n-t):=by omega
 conv=>lhs;rw[e,zK4,xP (f:=fun i=>f (t+i)) (g:=fun _=>0) (by grind),qD]
 omega
theorem wD{F:Nat→List Int}{m i:Nat}(h:i<m):(gl m F).getD i []=F i:=by grind
def ur(N i:Nat):List Int:=mkv N fun j=>if j=i then 1 else 0
def wd(N:Nat)(A:Mx):Mx:=gl N fun i=>A.getD i []++ur N i
def Gr(p:Int)(c N:Nat)(A:Mx)(u:List Int):Prop:=∀j,j<c→at0 u j%p=(S N fun k=>at0 u (c+k)*ent A k j)%p
section
variable {p:Int} (hp:1<p) {c N:Nat}{A:Mx} (hA:∀i,i<N→Row p c (A.getD i []))
 include hA
theorem zCz:(wd N A).length=N:=by have _:=hA;exact wC
theorem zGR{i j:Nat}(hi:i<N)(hj:j<c):ent (wd N A) i j=ent A i j:=by rw[ent,wd,wD hi,zBw,(hA i hi).1,if_pos hj]
theorem zCb{i l:Nat}(hi:i<N)(hl:l<N):ent (wd N A) i (c+l)=if l=i then 1 else 0:=by
 rw[ent,wd,wD hi,zBw,(hA i hi).1,if_neg (by omega),Kw,ur,zT hl]
 include hp
theorem zSR{i:Nat}(hi:i<N):Row p (c+N) ((wd N A).getD i []):=by
 refine⟨by rw[wd,wD hi,J7,(hA i hi).1,ur,yB],fun j hj=>?_⟩;rcases Js j c with g|g
 ·have:=(hA i hi).2 j g
  have e:=zGR hA hi g
  grind
 ·have e:=zCb hA (l:=j-c) hi (by omega)
  grind
theorem yBK{u:List Int}:Sp p (c+N) (wd N A) u↔Gr p c N A u:=by
 have _:=hp;constructor
 ·rintro⟨cf,eP⟩ j hj
  rw[zCz hA]at eP;rw[←eP j (by omega)];refine zAA fun k hk=>?_
  have h1:=eP (c+k) (by omega);rw[zBs (k:=k) hk (fun i hi gc=>by rw[zCb hA hi hk,if_neg (Ne.symm gc),Lp]),zCb hA hk hk,if_pos rfl,Ku]at h1;rw[zGR hA hk hj,Jk,h1,←Jk]
 ·intro h
  refine⟨fun k=>at0 u (c+k),fun j hj=>?_⟩;rw[zCz hA];rcases Js j c with g|g
  ·rw[h j g]
   refine congrArg (· %p) (xP fun k hk=>?_);rw[zGR hA hk g]
  ·obtain⟨l,rfl⟩:∃l,j=c+l:=⟨j-c,by omega⟩
   rw[zBs (k:=l) (by omega) (fun i hi gc=>by rw[zCb hA hi (by omega),if_neg (Ne.symm gc),Lp]),zCb hA (by omega) (by omega),if_pos rfl,Ku]
variable {W:Mx}{pv:Nat→Nat} (hW:Red p (c+N) W pv) (hs:sN p (c+N) W (wd N A))
 include hW
theorem zZq:∃t,t≤W.length∧(∀i,i<t→pv i<c)∧ ∀i,t≤i→i<W.length→c≤pv i:=by
 have _:=hA;have _:=hp;obtain⟨t,ht,eQ⟩:=zDQ (p:=fun t=>W.length≤t∨c≤pv t) ⟨W.length,.inl (Jd _)⟩;have gE:∀i,i<t→i<W.length∧pv i<c:=fun i hi=>by have:=eQ i hi;exact⟨Qy fun h=>this (.inl h),Qy fun h=>this (.inr h)⟩
 refine⟨t,Nat.le_of_not_lt fun h=>?_,fun i hi=>(gE i hi).2,fun i hi eS=>?_⟩
 ·have:=(gE W.length h).1;omega
 ·rcases ht with h|h
  ·omega
  ·rcases Js t i with g|g
   ·have:=hW.mono t i g eS;omega
   ·rw[show i=t from by omega];exact h
def nul(c t:Nat)(W:Mx):Mx:=gl (W.length-t) fun i=>(W.getD (t+i) []).drop c
def lft(c t:Nat)(W:Mx):Mx:=gl t fun i=>(W.getD i []).take c
 omit hp hA hW in
theorem zFc{t i j:Nat}(hi:t+i<W.length):ent (nul c t W) i j=ent W (t+i) (c+j):=by
  rw[ent,nul,wD (by omega),zCa]
 omit hp hA hW in
theorem zGS{t i j:Nat}(hi:i<t)(hj:j<c):ent (lft c t W) i j=ent W i j:=by rw[ent,lft,wD hi,zFb hj]
variable {t:Nat} (ht:t≤W.length) (h1:∀i,i<t→pv i<c) (h2:∀i,t≤i→i<W.length→c≤pv i)
 include ht h1 h2
theorem zVV:Red p N (nul c t W) (fun i=>pv (t+i)-c):=by
 have _:=hp;have _:=hA;have _:=h1;have _:=ht;have hl:(nul c t W).length=W.length-t:=wC;have aW:∀i,i<W.length-t→c≤pv (t+i):=by grind
 refine⟨fun i hi=>?_,fun i hi=>?_,fun i hi=>?_,fun i hi j hj=>?_,fun i k hi hk gc=>?_,fun i j e7 hj=>?_⟩
 ·rw[hl]at hi
  have hr:=hW.row (t+i) (by omega);refine⟨by rw[nul,wD hi,Kv,hr.1];omega,fun j hj=>?_⟩;have:=hr.2 (c+j) (by omega)
  grind[nul]
 ·rw[hl]at hi
  have:=hW.lt (t+i) (by omega)
  grind
 ·rw[hl]at hi
  rw[zFc (by omega),show c+(pv (t+i)-c)=pv (t+i)from by grind];exact hW.one _ (by omega)
 ·rw[hl]at hi
  rw[zFc (by omega)];exact hW.low _ (by omega) _ (by omega)
 ·rw[hl]at hi hk
  rw[zFc (by omega),show c+(pv (t+i)-c)=pv (t+i)from by grind];exact hW.off _ _ (by omega) (by omega) (by omega)
 ·rw[hl]at hj
  have:=hW.mono (t+i) (t+j) (by omega) (by omega)
  grind
 include hs
theorem zVW{u:List Int}:Sp p (c+N) W u↔Gr p c N A u:=by have _:=hW;have _:=ht;have _:=h1;have _:=h2;exact hs.iff.trans (yBK hp hA)
theorem zZr{x:List Int}:Sp p N (nul c t W) x↔ ∀j,j<c→(S N fun k=>at0 x k*ent A k j)%p=0:=by
 have hl:(nul c t W).length=W.length-t:=wC;constructor
 ·rintro⟨cf,eP⟩ j hj
  rw[hl]at eP;have e1:(S N fun k=>at0 x k*ent A k j)%p=(S N fun k=>(S (W.length-t) fun i=>cf i*ent (nul c t W) i k)*ent A k j)%p:=by grind[zAA,Jk]
  have e2:(S N fun k=>(S (W.length-t) fun i=>cf i*ent (nul c t W) i k)*ent A k j)=S (W.length-t) fun i=>cf i*S N fun k=>ent W (t+i) (c+k)*ent A k j:=by
   rw[xP (g:=fun k=>S (W.length-t) fun i=>cf i*(ent W (t+i) (c+k)*ent A k j)) (fun k hk=>by rw[←zLU];exact xP (by grind[zFc])),zHJ]
   grind[zAY]
  have e3:(S (W.length-t) fun i=>cf i*S N fun k=>ent W (t+i) (c+k)*ent A k j)%p=(S (W.length-t) fun _=>0)%p:=zAA fun i hi=>by have h:=(zVW hp hA hW hs ht h1 h2).1 (tZ (p:=p) (n:=c+N) (R:=W) (i:=t+i) (by omega)) j hj;have hz:=hW.low (t+i) (by omega) j (by grind);simp only[ent]at hz;rw[hz]at h;rw[Jk,show(S N fun k=>ent W (t+i) (c+k)*ent A k j)%p=0 from h.symm,Lp]
  rw[e1,e2,e3,qD];rfl
 ·intro h0
  let u:List Int:=mkv (c+N) fun j=>if j<c then 0 else at0 x (j-c)
  have hu1:∀j,j<c→at0 u j=0:=fun j hj=>by rw[zT (by omega),if_pos hj]
  have hu2:∀k,k<N→at0 u (c+k)=at0 x k:=fun k hk=>by rw[zT (by omega),if_neg (by omega),Kw]
  have hg:Gr p c N A u:=fun j hj=>by rw[hu1 j hj,xP (g:=fun k=>at0 x k*ent A k j) (by grind),h0 j hj];rfl
  have hx:=hW.expand ((zVW hp hA hW hs ht h1 h2).2 hg);refine⟨fun i=>at0 u (pv (t+i)),fun j hj=>?_⟩;have h3:=hx (c+j) (by omega);rw[hu2 j hj,zZp ht (by grind)]at h3;rw[hl,h3];exact congrArg (· %p) (xP (by grind[zFc]))
theorem zVX:Red p c (lft c t W) pv:=by
 have _:=hp;have _:=hA;have _:=hs;have _:=h2;have hl:(lft c t W).length=t:=wC;refine⟨fun i hi=>?_,by grind,fun i hi=>?_,fun i hi j hj=>?_,fun i k hi hk gc=>?_,fun i j e7 hj=>hW.mono i j e7 (by omega)⟩
 ·rw[hl]at hi
  have hr:=hW.row i (by omega);refine⟨by rw[lft,wD hi,L5,hr.1];omega,fun j hj=>?_⟩;rw[lft,wD hi,zFb hj];exact hr.2 j (by omega)
 ·rw[hl]at hi
  rw[zGS hi (h1 i hi)];exact hW.one _ (by omega)
 ·rw[hl]at hi
  have:=h1 i hi;rw[zGS hi (by omega)];exact hW.low _ (by omega) _ hj
 ·rw[hl]at hi hk
  rw[zGS hk (h1 i hi)];exact hW.off _ _ (by omega) (by omega) gc
theorem zZs(cK:A.length=N):sN p c (lft c t W) A:=by
 have hl:(lft c t W).length=t:=wC;constructor
 ·intro i hi
  rw[hl]at hi;have hg:=(zVW hp hA hW hs ht h1 h2).1 (tZ (p:=p) (n:=c+N) (R:=W) (i:=i) (by omega));refine⟨fun k=>ent W i (c+k),fun j hj=>?_⟩;rw[cK,lft,wD hi,zFb hj];exact(hg j hj).symm
 ·intro k hk
  rw[cK]at hk;obtain⟨cf,eP⟩:=hs.2 k (by rw[zCz hA];exact hk);refine⟨cf,fun j hj=>?_⟩;have h3:=eP j (by omega);have e:=zGR hA hk hj;simp only[ent]at e;rw[e,zVU ht (fun i g1 g2=>by rw[hW.low i g2 j (by grind),Lp])]at h3;rw[hl,←h3];exact congrArg (· %p) (by grind[xP,zGS])
end
end Go.Pl

namespace Go.Pl
open Go Go.Ab Go.Wk Go.Pc
theorem zFd{v:List Int}(hl:v.length≤1000000):IsB (f_y v) (∀i,i<v.length→at0 v i=0):=by
 refine tW v.length (fun i=>at0 v i=0) rfl (fun i hi _=>?_) ?_
 ·refine uA (o:=dS (at0 v i==0)) (IsB.of_bool (by simp)) (by omega) ?_
  unfold zM2;rw[yJ hi,zI,zZ hi,bs,bs];rfl
 ·unfold zM2
  simp
end Go.Pl

namespace Go.Pl
open Go Go.Ab Go.Wk Go.Pc
end Go.Pl

namespace Go.Pl
open Go Go.Ab Go.Wk Go.Pc
end Go.Pl

namespace Go.Pl
open Go Go.Ab Go.Wk Go.Pc
structure Nul (p:Int) (c N:Nat) (A W:Mx) (pv:Nat→Nat) (t:Nat):Prop where
 row:∀i,i<N→Row p c (A.getD i [])
 len:A.length=N
 red:Red p (c+N) W pv
 sp:sN p (c+N) W (wd N A)
 le:t≤W.length
 lo:∀i,i<t→pv i<c
 hi:∀i,t≤i→i<W.length→c≤pv i
section
variable {p:Int} (hp:Prime p) {c N:Nat} (gB:c+N≤100000) {A W:Mx}{pv:Nat→Nat}{t:Nat}
 include hp gB
theorem Nul.get(hr:∀i,i<N→Row p c (A.getD i []))(hl:A.length=N):∃W pv t,Nul p c N A W pv t∧f_r p (wd N A)=dS W∧f_f p (wd N A)=dS W:=by have h7:=hp.pos;obtain⟨W,pv,r1,r2,r3,r4⟩:=zBv hp (n:=c+N) gB (rows:=wd N A) (by rw[zCz hr];omega) (fun i hi=>zSR (by omega) hr (by rwa [zCz hr]at hi));obtain⟨t,t1,t2,t3⟩:=zZq (by omega) hr r3;exact⟨W,pv,t,⟨hr,hl,r3,r4,t1,t2,t3⟩,r1,r2⟩
variable (h:Nul p c N A W pv t)
 include h
theorem Nul.nred:Red p N (nul c t W) (fun i=>pv (t+i)-c):=by have _:=gB;have h7:=hp.pos;exact zVV (by omega) h.row h.red h.le h.lo h.hi
theorem Nul.nsp{x:List Int}:Sp p N (nul c t W) x↔ ∀j,j<c→(S N fun k=>at0 x k*ent A k j)%p=0:=by have _:=gB;have h7:=hp.pos;exact zZr (by omega) h.row h.red h.sp h.le h.lo h.hi
theorem Nul.full:W.length=N:=by
 have h7:=hp.pos;have g1:W.length≤(wd N A).length:=zHV hp (n:=c+N) gB (by rw[zCz h.row];omega) (fun i hi=>zSR (by omega) h.row (by rwa [zCz h.row]at hi)) h.red h.sp;rw[zCz h.row]at g1;have hl:(gl W.length fun i=>(W.getD i []).drop c).length=W.length:=wC;have hR:∀i,i<W.length→Row p N ((gl W.length fun i=>(W.getD i []).drop c).getD i []):=fun i hi=>by have hr:=h.red.row i hi;rw[wD hi];refine⟨by rw[Kv,hr.1];omega,fun j hj=>?_⟩;rw[zCa];exact hr.2 (c+j) (by omega)
 obtain⟨R3,pv3,_,_,g3,g4⟩:=zBv hp (n:=N) (by omega) (rows:=gl W.length fun i=>(W.getD i []).drop c) (by omega) (by grind);have g5:=zHV hp (n:=N) (by omega) (by omega) (by grind) g3 g4;have cW:(gl N (ur N)).length=N:=wC;have dv:∀i j,i<N→j<N→ent (gl N (ur N)) i j=if j=i then 1 else 0:=fun i j hi hj=>by rw[ent,wD hi,ur,zT hj]
 have ej:Red p N (gl N (ur N)) (fun i=>i):=by
  refine⟨fun i hi=>?_,fun i hi=>by omega,fun i hi=>?_,fun i hi j hj=>?_,by grind,fun i j e7 hj=>e7⟩
  ·rw[cW]at hi
   rw[wD hi];refine⟨yB _ _,fun j hj=>?_⟩
   grind
  all_goals grind
 have g6:=ej.le_of (by omega) g3 (fun i hi=>by rw[cW]at hi;refine g4.iff.2 ?_;obtain⟨cf,eP⟩:=h.sp.2 i (by rw[zCz h.row];exact hi);refine⟨cf,fun j hj=>?_⟩;have h1:=eP (c+j) (by omega);have h2:=zCb h.row hi hj;simp only[ent]at h2;rw[h2]at h1;have h3:=dv i j hi hj;simp only[ent]at h3;rw[h3,hl,←h1];exact congrArg (· %p) (xP (by grind)))
 omega
theorem Nul.count{R:Mx}{pr:Nat→Nat}(hR:Red p c R pr)(hs:sN p c R A):(nul c t W).length=N-R.length∧R.length≤N:=by
 have h7:=hp.pos;have e:=hR.unique (by omega) (zVX (by omega) h.row h.red h.sp h.le h.lo h.hi) (hs.trans (zZs (by omega) h.row h.red h.sp h.le h.lo h.hi h.len).symm);have h1:=h.full hp gB;have h2:=h.le;have e2:R.length=t:=by rw[e];exact wC
 grind[nul]
 omit h in
theorem zNU{N:Nat}(hN:N≤100000):f_u (N:Int)=dS (gl N (ur N)):=by
  have _:=hp;have _:=gB;unfold f_u;rw[vV (body:=zIw (N:Int)) N (ur N) (fun i acc hi ha=>by
    unfold zIw;simp only
    rw[yJ hi,zI,yF (by omega),bs,vC,Jp,if_pos hi,bs,J8,uW,qT,zS (by simp;omega),bs,zF (by omega) (by omega),bs,cs];rfl) (fun acc=>by
    unfold zIw;simp),bs]
 omit h in
theorem zD3(hr:∀i,i<N→Row p c (A.getD i []))(hl:A.length=N):zUf p A=f_r p (wd N A):=by
  unfold zUf;rw[hl,zNU hp gB (by omega),bs,vV (body:=zMK A (gl N (ur N))) N (fun i=>A.getD i []++ur N i) (fun i acc hi ha=>by
    unfold zMK;simp only
    rw[hl,yJ hi,zI,zR [] (by omega),bs,wF (by rw[(hr i hi).1];omega),bs,zJ2 hi,bs,zS (by rw[(hr i hi).1,ur,yB];omega),bs,zS (by simp;omega),bs,zF (by omega) (by omega),bs,cs]) (fun acc=>by
    unfold zMK
    grind),bs]
  grind[wd]
theorem zFM:zE (zQT (c:Int) W) ([],0)=dS (nul c t W):=by
 have hf:=h.full hp gB;have eJ:=h.le;have:=zP (body:=zQT (c:Int) W) (r:=nul c t W) (fun i=>(gl (i-t) (fun k=>(W.getD (t+k) []).drop c),(i:Int))) W.length (fun i hi=>by
  have hr:=h.red.row i hi;have h1:=h.red.one i hi;have gE:=h.red.lt i hi;have cC:=zGP (n:=c+N) hr.1 (by omega) gE (h.red.low i hi) (by grind);unfold zQT;simp only
  rw[yJ hi,zI,zR [] hi,bs,cC,bs];rcases Js i t with g|g
  ·have:=h.lo i g
   rw[dW (by omega),zH,zF (by omega) (by omega),bs,cs,show i-t=0 from by omega,show i+1-t=0 from by omega]
  ·have:=h.hi i g hi
   have e:zL (W.getD i []) (c:Int) ((W.getD i []).length:Int)=dS ((W.getD i []).drop c):=by unfold zL;rw[if_pos (by grind),J8,J8,Jt (by rw[Kv];omega)]
   rw[dX (by omega),zI,bs,e,bs,wF (by rw[Kv,hr.1];omega),bs,zS (by rw[wC];simp;omega),bs,zF (by omega) (by omega),bs,cs,show i+1-t=(i-t)+1 from by omega,←zAj,show t+(i-t)=i from by omega]) (by
  unfold zQT;simp only
  rw[tH,zH];rfl)
 grind
 omit h in
theorem zQ4(hr:∀i,i<N→Row p c (A.getD i []))(hl:A.length=N):∃W pv t,Nul p c N A W pv t∧f_X p A (c:Int)=dS (nul c t W):=by grind[Nul.get,f_X,zD3,zFM]
end
end Go.Pl

namespace Go.Pl
open Go Go.Ab Go.Wk Go.Pc
theorem zP2{β:Type}{n:Nat}{F:Nat→β}:gl (n+1) F=gl n F++[F n]:=zAj.symm
theorem zP3{β:Type}{L:Nat}{F:Nat→List β}:∀{n:Nat},(∀i,i<n→(F i).length=L)→(gl n F).flatten.length=n*L
 |0,_=>by simp[gl]
 |n+1,h=>by
  rw[zP2,List.flatten_append,J7,zP3 fun i hi=>h i (by omega),L8]
  grind
end Go.Pl

namespace Go.Pl
open Go Go.Ab Go.Wk Go.Pc
end Go.Pl

namespace Go.Pl
open Go Go.Ab Go.Wk Go.Pc
theorem zMk{α:Type}{f:α→α}{a:α}(h:f a=a):∀k,iter k f a=a
 |0=>rfl
 |k+1=>by show iter k f (f a)=a;rw[h];exact zMk h k
theorem zFN{x:SPr}(h:Pres x):∀(d k:Nat),k+d=x.zA.length→vM (suf x k)→ ∀m,d+1≤m→ ∀v,V (suf x k) v→ ∃w,V (suf x k) w∧mul (suf x k) v w=zeros (suf x k).length∧zOv m x k (fv k v)=dS (fv k w)
 |0,k,hk,_,m,hm,v,hv=>by
  have h6:=h.os.1;obtain⟨m,rfl⟩:∃m',m=m'+1:=⟨m-1,by omega⟩;rw[zAg (by omega)]at hv ⊢
  obtain rfl:v=[]:=hv;refine⟨[],rfl,rfl,?_⟩;show b_i _ x k _=_;unfold b_i;rw[dX (by omega),zI,yF (by omega),bs]
  simp_all[zeros]
 |d+1,k,pC,hc,m,hm,v,hv=>by
  have h6:=h.os.1;obtain⟨m,rfl⟩:∃m',m=m'+1:=⟨m-1,by omega⟩;have hk:k<x.zA.length:=by omega
  have eI:=(h.os.2 k hk).pos;have hcQ:vM (suf x (k+1)):=zCX hc 1;have ih:=zFN h d (k+1) (by omega) hcQ m (by omega);have G:=zCY h (by omega) hc;have GQ:=zCY h (by omega) hcQ;have okP:=h.okAt (k:=k) (by omega);have okQ:=h.okAt (k:=k+1) (by omega);have eM:=zEn h (by omega) hv;have fZ:=xX x (k+1);obtain⟨w1,w2⟩:=zZm h hk;rw[yW hk]at hv G okP;obtain⟨a,r,rfl⟩:∃a r,v=a::r:=by
   cases v with
   |nil=>exact hv.elim
   |cons a r=>simp
  have fq:(lvl x k).o=at0 x.zA k:=rfl;obtain⟨⟨a0,a1⟩,hr⟩:=hv;rw[fq]at a1;obtain⟨r',pq,hmr,p9⟩:=ih r hr;have hz:V (suf x (k+1)) (zeros (suf x (k+1)).length):=vZ okQ;have hzc:zeros (lvl x k::suf x (k+1)).length=0::zeros (suf x (k+1)).length:=rfl;have mS:∀(c:Int)(u:Vec),0≤c→c<at0 x.zA k→V (suf x (k+1)) u→V (lvl x k::suf x (k+1)) (c::u):=fun c u h0 h1 hu=>⟨⟨h0,h1⟩,hu⟩
  have e2:mul (lvl x k::suf x (k+1)) (0::r) (0::r')=zeros (lvl x k::suf x (k+1)).length:=by
   rw[yT,fq,if_neg (by omega),hzc]
   grind[iter]
  show∃w,_∧_∧b_i (zOv m) x k (fv k (a::r))=dS (fv k w);unfold b_i;rw[dW (by omega),zH,wF (by omega),bs,zHE,bs,zF (by omega) (by omega),bs,cs,J8,zGm,zB4,show zeros (k+1)++r=fv (k+1) r from rfl,p9,bs,bs];rw[yW hk]
  by_cases ha:a=0
  ·subst ha
   rw[show((0:Int)==0)=dU from rfl,zI];exact⟨0::r',by grind,e2,by rw[fv,←zB4]⟩
  ·rw[show(a==0)=dV from by grind,zH,yF (by omega),bs,zZ hk,bs,bs,zF (by omega) (by omega),bs,vC,Jp,if_pos hk,bs]
   have cX:(J1 x.zA.length (0:Int)).set k (at0 x.zA k-a)=zeros k++(at0 x.zA k-a)::zeros (suf x (k+1)).length:=by
    have e:J1 x.zA.length (0:Int)=zeros k++0::zeros (x.zA.length-(k+1)):=by simp only[zeros];rw[←Kt,Ko];congr 1;omega
    grind[zGm]
   obtain⟨w',eC,hmw,hfw⟩:=ih (lvl x k).w w2;have hA:=mS a _ a0 a1 hz;have hR:=mS 0 r (by omega) (by omega) hr;have ac:=mS 0 r' (by omega) (by omega) pq;have hT:=mS (at0 x.zA k-a) _ (by omega) (by omega) hz;have hW:=mS 0 (lvl x k).w (by omega) (by omega) w2;have mu:=mS 0 w' (by omega) (by omega) eC;have gv:sig (suf x (k+1)) (lvl x k) (zeros (suf x (k+1)).length)=zeros (suf x (k+1)).length:=by grind[sig,zBU]
   have e1:mul (lvl x k::suf x (k+1)) (a::zeros (suf x (k+1)).length) (0::r)=a::r:=by rw[yT,fq,if_neg (by omega),show iter (0:Int).toNat (sig (suf x (k+1)) (lvl x k)) (zeros (suf x (k+1)).length)=zeros (suf x (k+1)).length from rfl,GQ.onel hr,Lb]
   have e3:mul (lvl x k::suf x (k+1)) (a::zeros (suf x (k+1)).length) ((at0 x.zA k-a)::zeros (suf x (k+1)).length)=0::(lvl x k).w:=by
    rw[yT,fq,if_pos (by omega),zMk gv,GQ.oner hz,GQ.oner w2]
    grind
   have e4:mul (lvl x k::suf x (k+1)) (0::(lvl x k).w) (0::w')=zeros (lvl x k::suf x (k+1)).length:=by
    rw[yT,fq,if_neg (by omega),hzc]
    grind[iter]
   have dL:=G.cl ac hT;have t6:=G.cl dL mu;have spA:=zEO h (k:=k) (by omega);rw[cX,show fv (k+1) r'=zeros k++0::r' from by rw[zB4],spA _ _ (by grind[yW]) (by grind[yW]),bs,bs,w1,bs,hfw,bs,show fv (k+1) w'=zeros k++0::w' from by rw[zB4],yW hk];have:=spA _ _ (by rw[yW hk];exact dL) (by rw[yW hk];exact mu);rw[yW hk]at this;rw[this,bs];refine⟨_,t6,?_,rfl⟩;rw[←e1,G.assoc hA hR t6,←G.assoc hR dL mu,←G.assoc hR ac hT,e2,G.onel hT,←G.assoc hA hT mu,e3,e4]
theorem zMl{x:SPr}(h:Pres x)(hc:vM (suf x 0)){v:Vec}(hv:V (suf x 0) v):∃w,V (suf x 0) w∧mul (suf x 0) v w=zeros (suf x 0).length∧zTY x v=dS w:=by obtain⟨w,h1,h2,_⟩:=zFN h x.zA.length 0 (by omega) hc (x.zA.length+1) (by omega) v hv;refine⟨w,h1,h2,?_⟩;unfold zTY f_i;rw[zBR (r:=w) (x.zA.length+1) fun m hm=>?_,bs];obtain⟨w',g1,g2,g3⟩:=zFN h x.zA.length 0 (by omega) hc m hm v hv;have G:=zCY h (by omega) hc;have e:w=w':=G.cancel_l hv h1 g1 (by rw[h2,g2]);rw[e];exact g3
theorem zNV{p:Int}{D:Nat}{A:List Mx}:∀(v:Vec)(o:Nat)(B:Mx),o+v.length≤A.length→wM p D A (nw o v) B=img (PM p D) (A.drop o) v B
 | [],o,B,_=>by simp[nw,wM,img]
 |a::v,o,B,h=>by
  simp only[Jj]at h;have e:A.drop o=A.getD o []::A.drop (o+1):=by grind[Ga]
  rw[e];simp only[nw,img];rw[zFI,zHM,zNV v (o+1) _ (by omega)]
theorem zHZ:∀(k o:Nat),nw o (zeros k)=[]
 |0,_=>rfl
 |k+1,o=>by rw[show zeros (k+1)=0::zeros k from rfl];simp only[nw];rw[zHZ k];rfl
section
variable {x:SPr}{m:zB}{D:Nat} (h:Pres x) (hm:zZn x.zA.length m D) (hr:zKz x m D)
 include hm
theorem zVY:Mon (Mat m.Prime D) (PM m.Prime D) (idM D):=by
 have h7:=hm.p.pos;exact⟨fun ha _=>zDa (by omega) ha.1,sX (by omega),fun ha hb _=>zLV ha.1 hb.1,fun ha=>zKw ha,fun ha=>zHK ha⟩
 include h hr
theorem zP4:∀(d k:Nat),k+d=x.zA.length→Rel (PM m.Prime D) (idM D) (suf x k) (m.zG.drop k)
 |0,k,hk=>by rw[zAg (by omega),Gl (by rw[hm.len];omega)];exact rfl
 |d+1,k,pC=>by
  have h6:=h.os.1;have hk:k<x.zA.length:=by omega
  have gk:=hm.len;have e:m.zG.drop k=m.zG.getD k []::m.zG.drop (k+1):=by simp_all
  obtain⟨t1,t2,t3⟩:=h.tl k hk;obtain⟨r1,r2⟩:=hr k hk;have mZ:∀v,Exp x.zA v k→wM m.Prime D m.zG (nw 0 v) (idM D)=img (PM m.Prime D) (m.zG.drop (k+1)) (v.drop (k+1)) (idM D):=fun v hv=>by
   have hl:=hv.1.1
   conv=>lhs;rw[zBV hv hk]
   rw[zFH,zHZ,K6,yD,zNV _ _ _ (by grind),Ja]
  rw[yW hk,e];refine⟨?_,fun q c dd hc hd=>?_,zP4 d (k+1) (by omega)⟩
  ·grind[pw,lvl,zHM]
  ·rw[La]at hc
   have hq:k+1+q<m.zG.length:=by grind
   have a9:c=m.zG.getD (k+1+q) []:=by grind
   have cU:dd=((x.zC.getD k []).getD q []).drop (k+1):=by grind[lvl]
   have:=r2 (k+1+q) (by omega) (by omega);rw[show k+1+q-(k+1)=q from by omega]at this;rw[a9,cU,this,mZ _ (t3 q (by omega))]
def zAv(m:zB)(D:Nat)(v:Vec):Mx:=wM m.Prime D m.zG (nw 0 v) (idM D)
theorem zK5{v:Vec}(hv:V (suf x 0) v):zAv m D v=img (PM m.Prime D) m.zG v (idM D):=by have _:=hr;have hl:=(zBm h.os x.zA.length 0 v (by omega) hv).1;have:=zNV (p:=m.Prime) (D:=D) (A:=m.zG) v 0 (idM D) (by rw[hm.len];omega);rw[Hu]at this;exact this
theorem zP5{u v:Vec}(hu:V (suf x 0) u)(hv:V (suf x 0) v):zAv m D (mul (suf x 0) u v)=PM m.Prime D (zAv m D u) (zAv m D v):=by
 have ok:=h.okAt (k:=0) (by omega);have R:=zP4 h hm hr x.zA.length 0 (by omega);rw[Hu]at R;rw[zK5 h hm hr hu,zK5 h hm hr hv,zK5 h hm hr (xV ok hu hv)];refine zZk (zVY hm) (suf x 0) m.zG ok (fun g hg=>?_) R u v hu hv;obtain⟨i,hi,rfl⟩:=K8.1 hg;have:=hm.mat i (by rw[←hm.len];exact hi)
 grind
end
end Go.Pl

namespace Go.Pl
open Go Go.Ab Go.Wk Go.Pc
theorem qV{p:Int}{c N:Nat}(gB:c+N≤100000){A:Mx}(hr:∀i,i<N→Row p c (A.getD i []))(hl:A.length=N):zTZ A=dS (wd N A):=by
 unfold zTZ;rw[vV (body:=zME A) N (fun i=>A.getD i []++ur N i) (fun i acc hi ha=>by
  have h1:=(hr i hi).1;have e:uC (J1 (c+N) (0:Int)) 0 ((A.getD i []).take (((J1 (c+N) (0:Int)).length)-0))=A.getD i []++J1 N 0:=by unfold uC;rw[Kk,Jt (l:=A.getD i []) (by omega),L4,K6,h1,List.drop_replicate];simp
  have e2:ixO (A.getD i []++J1 N (0:Int)) ((c+i:Nat):Int)=dS 0:=by rw[vC,Jf (by omega),h1,Jp,if_pos (by omega)]
  unfold zME;simp only
  rw[hl,yJ hi,zI,zR [] (by omega),bs,h1,←Lm,zF (by omega) (by omega),bs,yF (by omega),bs,←Lm,zF (by omega) (by omega),bs,e,e2,bs,J8,Ja6 _ _ (by omega),h1,Kw,uW,qT,zS (by simp;omega),bs,zF (by omega) (by omega),bs,cs];rfl) (fun acc=>by
  unfold zME
  grind),bs]
 rfl
end Go.Pl

namespace Go.Pl
open Go Go.Ab Go.Wk Go.Pc
theorem zGp{p:Int}(hp:Prime p){n:Nat}(hn:n≤100000){R:Mx}{pv:Nat→Nat}(h:Red p n R pv):f_r p R=dS R∧f_f p R=dS R:=by
 have h7:=hp.pos;have hl:R.length≤n:=h.len_le;obtain⟨R2,pv2,r1,r2,r3,r4⟩:=zBv hp hn (rows:=R) (by omega) h.row;have e:=r3.unique (by omega) h r4
 grind
section
variable {p:Int} (hp:Prime p) {c N:Nat} (gB:c+N≤100000) {A W:Mx}{pv:Nat→Nat}{t:Nat}
 include hp gB
theorem zGq(h:Nul p c N A W pv t):zE (zJH (c:Int) W) ([],0)=dS (nul c t W):=by
 have h7:=hp.pos;have hf:=h.full hp gB;have eJ:=h.le;have:=zP (body:=zJH (c:Int) W) (r:=nul c t W) (fun i=>(gl (i-t) (fun k=>(W.getD (t+k) []).drop c),(i:Int))) W.length (fun i hi=>by
  have hr:=h.red.row i hi;have h1:=h.red.one i hi;have e0:zL (W.getD i []) 0 (c:Int)=dS ((W.getD i []).take c):=by unfold zL;rw[if_pos ⟨by omega,by omega,by rw[hr.1];omega⟩,J8,show(0:Int).toNat=0 from rfl,Hu,Uv]
  have fQ:((W.getD i []).take c).length=c:=by rw[L5,hr.1];omega
  have hz:=zFd (v:=(W.getD i []).take c) (by omega);unfold zJH;simp only
  rw[yJ hi,zI,zR [] hi,bs,e0,bs];rcases Js i t with g|g
  ·have gY:=h.lo i g
   rcases hz with⟨_,z⟩|⟨z,_⟩
   ·grind
   ·rw[z,bs,zH,zF (by omega) (by omega),bs,cs,show i-t=0 from by omega,show i+1-t=0 from by omega]
  ·have ea:=h.hi i g hi
   have e:zL (W.getD i []) (c:Int) ((W.getD i []).length:Int)=dS ((W.getD i []).drop c):=by unfold zL;rw[if_pos (by grind),J8,J8,Jt (by rw[Kv];omega)]
   rcases hz with⟨z,_⟩|⟨_,z⟩
   ·rw[z,bs,zI,e,bs,zS (by grind),bs,zF (by omega) (by omega),bs,cs,show i+1-t=(i-t)+1 from by omega,←zAj,show t+(i-t)=i from by omega]
   ·refine absurd (fun j hj=>?_) z
    rw[fQ]at hj;rw[zFb hj];have:=h.red.low i hi j (by omega);omega) (by
  unfold zJH;simp only
  rw[tH,zH];rfl)
 grind
theorem zFO(hr:∀i,i<N→Row p c (A.getD i []))(hl:A.length=N):∃K pk,f_X p A (c:Int)=dS K∧zKJ p A (c:Int)=dS K∧Red p N K pk∧ ∀x,Sp p N K x↔ ∀j,j<c→(S N fun k=>at0 x k*ent A k j)%p=0:=by
 obtain⟨W,pv,t,h1,h2,h3⟩:=Nul.get hp gB hr hl;refine⟨nul c t W,_,?_,?_,h1.nred hp gB,fun x=>h1.nsp hp gB⟩
 ·grind[f_X,zD3,zFM]
 ·unfold zKJ
  rw[qV gB hr hl,bs,h3,bs,zGq hp gB h1,bs,(zGp hp (by omega) (h1.nred hp gB)).2,bs]
end
section
variable {n D:Nat}{m:zB} (hm:MOk n m D) (hn:n≤14)
def zAw(m:zB)(D i k:Nat):List Int:=(gl i fun g=>mvr m.Prime D (m.zG.getD g []) k).flatten
def fxR(m:zB)(n D:Nat):Mx:=gl D fun k=>zAw m D n k
theorem zFP{i k:Nat}:(zAw m D i k).length=i*D:=zP3 fun _ _=>yB _ _
theorem zNW{i k:Nat}:zAw m D i k++mvr m.Prime D (m.zG.getD i []) k=zAw m D (i+1) k:=by
 grind[zAw,zP2]
 include hm hn
theorem zSS:∀k,k<D→Row m.Prime (n*D) ((fxR m n D).getD k []):=by have _:=hn;intro k hk;rw[fxR,wD hk];refine zEX.2 ⟨zFP,fun v hv=>?_⟩;obtain⟨r,h1,h2⟩:=Uc.1 hv;obtain⟨g,hg,rfl⟩:=Je.1 h1;exact(zEX.1 (zVQ hm.p hm.d3 (hm.mat g (Jx.1 hg)) hk)).2 v h2
theorem zVZ{x:SPr}(hx:x.zA.length=n):zE (zJI x m) (J1 D ([]:List Int),0)=dS (fxR m n D):=by
 have h3:=hm.d3;have:=zP (body:=zJI x m) (r:=fxR m n D) (fun i=>(gl D fun k=>zAw m D i k,(i:Int))) n (fun i hi=>by
  have hiD:i*D≤14*3:=Jy (by omega) h3;have tt:(mvd m.Prime D (m.zG.getD i [])).length=D:=wC;have gN:=zP (body:=zMV (mvd m.Prime D (m.zG.getD i []))) (r:=gl D fun k=>zAw m D (i+1) k) (fun k=>(gl D fun j=>if j<k then zAw m D (i+1) j else zAw m D i j,(k:Int))) D (fun k hk=>by
   have mc:(zAw m D i k).length=i*D:=zFP;unfold zMV;simp only
   rw[tt,yJ hk,zI,mvd,zJ2 hk,bs,zJ2 hk,bs,if_neg (by omega),zS (by grind[mvr,yB]),bs,zF (by omega) (by omega),bs,cs,J8,zSN,zNW]
   grind) (by
   unfold zMV
   simp_all)
  have e0:(gl D fun j=>if j<0 then zAw m D (i+1) j else zAw m D i j)=gl D fun k=>zAw m D i k:=rfl
  rw[e0,show((0:Nat):Int)=0 from rfl]at gN;unfold zJI;simp only
  rw[hx,yJ hi,zI,zNS hm.p h3 (hm.mat i hi) rfl (zR [] (by rw[hm.len];exact hi)),bs,gN,bs,zF (by omega) (by omega),bs,cs]) (by
  unfold zJI;simp only
  rw[hx,tH,zH];rfl)
 have e:J1 D ([]:List Int)=gl D fun k=>zAw m D 0 k:=by rw[show(gl D fun k=>zAw m D 0 k)=gl D fun _=>([]:List Int)from rfl];simp[gl,List.map_const']
 grind
end
end Go.Pl

namespace Go.Pl
open Go Go.Ab Go.Wk Go.Pc
section
variable {x:SPr} (h:Pres x)
 include h
theorem zST:∀k,k≤x.zA.length→2*((Jn k).flatMap (R2 x)).length+k*k+k=2*(x.zA.length*k)
 |0,_=>by simp
 |k+1,hk=>by
  have ih:=zST k (by omega);have t2:=(h.tl k (by omega)).2.1;have e:((Jn (k+1)).flatMap (R2 x)).length=((Jn k).flatMap (R2 x)).length+(x.zC.getD k []).length:=by grind[K9,R2]
  grind
theorem zQ5:2*(xN x).length=x.zA.length*(x.zA.length+1):=by
 have:=zST h x.zA.length (Jd _)
 grind[xN]
theorem zSU:∀i,(BL x i).length=i+((Jn i).flatMap (R2 x)).length
 |0=>by have _:=h;rfl
 |i+1=>by rw[zK2,J7,zSU i,Jj,K9,Jao,J7];simp;omega
theorem zWa:(BL x x.zA.length).length=(xN x).length:=by grind[zSU,xN]
theorem zEv:zWy x=dS ((xN x).length:Int):=by
 have h6:=h.os.1;have h2:=zQ5 h;have hnn:x.zA.length*(x.zA.length+1)≤14*15:=Jy h6 (by omega);unfold zWy;have e1:rng ((x.zA.length:Int)+1)=dS ((x.zA.length+1:Nat):Int):=by grind[zF]
 have e2:rng ((x.zA.length:Int)*((x.zA.length+1:Nat):Int))=dS (2*((xN x).length:Int)):=by rw[←Ls,←h2,zF (by omega) (by omega)];simp
 have e3:xC (2*((xN x).length:Int)) 2=dS ((xN x).length:Int):=by unfold xC;rw[if_neg (by omega),Kq (by omega),show(2*((xN x).length:Int))/2=((xN x).length:Int)from by omega,zF (by omega) (by omega)]
 grind
end
theorem zFe{α:Type}{F:α→List Int}{D c:Nat}(hc:c<D):∀(L:List α)(a:Nat)(q:α),(∀q∈L,(F q).length=D)→L[a]? =dS q→at0 ((L.map F).flatten) (a*D+c)=at0 (F q) c
 | [],a,q,_,h=>by simp at h
 |y::L,0,q,hF,h=>by grind
 |y::L,a+1,q,hF,h=>by have h1:=hF y (by simp);simp only[Jan]at h;rw[Jl,Ja8,zBw,L8,if_neg (by omega),show a*D+D+c-(F y).length=a*D+c from by omega];exact zFe hc L a q (by grind) h
theorem zFQ{α:Type}{F:α→List Int}{D:Nat}:∀(L:List α),(∀q∈L,(F q).length=D)→((L.map F).flatten).length=L.length*D
 | [],_=>by simp
 |y::L,h=>by
  have:=zFQ L fun q hq=>h q (by simp[hq])
  grind
def zDf{α:Type}(N:Nat)(F:Nat→α→List Int)(L:List α):Mx:=gl N fun k=>(L.map (F k)).flatten
section
variable {α:Type}{p:Int}{N D:Nat}{F:Nat→α→List Int} (hF:∀k,k<N→ ∀q,Row p D (F k q))
 include hF
theorem zJ3(L:List α):∀k,k<N→Row p (L.length*D) ((zDf N F L).getD k []):=by
 intro k hk;rw[zDf,wD hk];refine zEX.2 ⟨zFQ L fun q _=>(hF k hk q).1,fun v hv=>?_⟩;obtain⟨r,h1,h2⟩:=Uc.1 hv;obtain⟨q,_,rfl⟩:=Je.1 h1
 grind[zEX]
theorem zMm{L:List α}{y:List Int}:(∀j,j<L.length*D→(S N fun k=>at0 y k*ent (zDf N F L) k j)%p=0)↔ ∀q∈L,∀c,c<D→(S N fun k=>at0 y k*at0 (F k q) c)%p=0:=by
 have key:∀(a c:Nat)(q:α),L[a]? =dS q→c<D→(S N fun k=>at0 y k*ent (zDf N F L) k (a*D+c))=S N fun k=>at0 y k*at0 (F k q) c:=fun a c q ha hc=>xP fun k hk=>by rw[ent,zDf,wD hk,zFe hc L a q (fun q _=>(hF k hk q).1) ha]
 constructor
 ·intro h q hq c hc
  obtain⟨a,ha,e⟩:=K8.1 hq;have h1:a*D+D≤L.length*D:=by
   have:=Kz D (show a+1≤L.length by omega)
   grind
  rw[←key a c q (by grind) hc];exact h _ (by omega)
 ·intro h j hj
  have hD:0<D:=by grind
  have ha:j/D<L.length:=Qz (by grind);have hc:j%D<D:=Nat.mod_lt _ hD;have e:j=(j/D)*D+j%D:=by grind[Nat.div_add_mod]
  rw[e,key (j/D) (j%D) L[j/D] (by simp) hc];exact h _ (Kj ha) _ hc
theorem zQ6(hp:Prime p){L1 L2:List α}(h1:L1.length*D+N≤100000)(h2:L2.length*D+N≤100000)(hm:∀q,q∈L1↔q∈L2):
  ∃K pk,f_X p (zDf N F L1) ((L1.length*D:Nat):Int)=dS K∧zKJ p (zDf N F L2) ((L2.length*D:Nat):Int)=dS K∧Red p N K pk:=by
 have h7:=hp.pos;obtain⟨K1,p1,a1,_,a3,a4⟩:=zFO hp h1 (zJ3 hF L1) wC;obtain⟨K2,p2,_,b2,b3,b4⟩:=zFO hp h2 (zJ3 hF L2) wC;have hs:∀y,Sp p N K1 y↔Sp p N K2 y:=fun y=>by
  rw[a4,b4,zMm hF,zMm hF]
  grind
 have e:=a3.unique (by omega) b3 ⟨by grind[tZ],by grind[tZ]⟩
 grind
end
def zBA(n D:Nat)(v:List Int):Mx:=gl n fun i=>mkv D fun j=>at0 v (i*D+j)
theorem zSV{v:List Int}{D a:Nat}(h:a+D≤v.length):(v.drop a).take D=mkv D fun j=>at0 v (a+j):=by
 have hl:((v.drop a).take D).length=D:=by grind
 rw[vO hl]
 grind[yC]
theorem zJ4{v:List Int}{D a:Nat}(h:a+D≤v.length):zL v (a:Int) ((a+D:Nat):Int)=dS (mkv D fun j=>at0 v (a+j)):=by unfold zL;rw[if_pos (by omega),J8,J8,Kw,zSV h]
theorem zSW{p:Int}{n D:Nat}{v:List Int}(hv:Row p (n*D) v):VOk n p D (zBA n D v):=by
 refine⟨wC,fun i hi=>?_⟩;rw[zBA,wD hi];refine⟨yB _ _,fun j hj=>?_⟩;rw[zT hj];have:i*D+D≤n*D:=by
  have:=Kz D (show i+1≤n by omega)
  grind
 exact hv.2 _ (by omega)
end Go.Pl

namespace Go.Pl
open Go Go.Ab Go.Wk Go.Pc
theorem zP6{p:Int}{n:Nat}{R R':Mx}{pv:Nat→Nat}{v:List Int}:∀i,(∀k,k<i→R.getD k []=R'.getD k [])→cl p n R pv v i=cl p n R' pv v i
 |0,_=>rfl
 |i+1,h=>by rw[cl,cl,zP6 i fun k hk=>h k (by omega),h i (by omega)]
theorem Red.sub{p:Int}{n:Nat}{R:Mx}{pv:Nat→Nat}(h:Red p n R pv){t:Nat}(ht:t≤R.length):Red p n (gl t fun i=>R.getD i []) pv:=by
 have hl:(gl t fun i=>R.getD i []).length=t:=wC;have he:∀i j,i<t→ent (gl t fun i=>R.getD i []) i j=ent R i j:=by grind
 refine⟨fun i hi=>?_,fun i hi=>h.lt i (by omega),fun i hi=>?_,fun i hi j hj=>?_,fun i k hi hk gc=>?_,fun i j e7 hj=>h.mono i j e7 (by omega)⟩
 ·rw[hl]at hi
  rw[wD hi];exact h.row i (by omega)
 ·rw[hl]at hi
  rw[he _ _ hi];exact h.one i (by omega)
 ·rw[hl]at hi
  rw[he _ _ hi];exact h.low i (by omega) j hj
 ·rw[hl]at hi hk
  rw[he _ _ hk];exact h.off i k (by omega) (by omega) gc
end Go.Pl

namespace Go.Pl
open Go Go.Ab Go.Wk Go.Pc
theorem zFf{n D i:Nat}(hi:i<n):i*D+D≤n*D:=by
 have:=Kz D (show i+1≤n by omega)
 grind
theorem zIa{n D:Nat}(hD:1≤D){v:List Int}(hl:v.length=n*D)(hs:n*D≤100000):zQU v (D:Int)=dS (zBA n D v):=by
 have hn:n≤n*D:=Jah n hD;have:=zP (body:=zML v (D:Int)) (r:=zBA n D v) (fun i=>(gl i fun i=>mkv D fun j=>at0 v (i*D+j),((i*D:Nat):Int))) n (fun i hi=>by
  have h1:=zFf (D:=D) hi;unfold zML;simp only
  rw[dX (by omega),zI,←Lm,zF (by omega) (by omega),bs,zJ4 (by omega),bs,zBc (by grind[yB]),bs,zS (by rw[wC];simp;omega),bs,bs,zAj,←L8]) (by
  unfold zML;simp only
  rw[dW (by omega),zH];rfl)
 grind[zQU]
theorem zIb{n D:Nat}(hD:1≤D)(hD3:D≤1000){v:List Int}(hl:v.length=n*D)(hs:n*D≤100000):zKK v (D:Int)=dS (zBA n D v):=by
 have hn:n≤n*D:=Jah n hD;have:=zP (body:=zMW v (D:Int)) (r:=zBA n D v) (fun i=>(gl i fun i=>mkv D fun j=>at0 v (i*D+j),((i*D:Nat):Int))) n (fun i hi=>by
  have h1:=zFf (D:=D) hi;unfold zMW;simp only
  rw[←Lm,zF (by omega) (by omega),bs,dX (by omega),zI,bs,zJ4 (by omega),bs,wF (by grind[yB]),bs,zS (by rw[wC];simp;omega),bs,bs,zAj,←L8]) (by
  unfold zMW;simp only
  rw[←Lm,zF (by omega) (by omega),bs,dW (by omega),zH];rfl)
 grind[zKK]
section
variable {x:SPr} (h:Pres x) {m:zB}{D:Nat} (hm:MOk x.zA.length m D)
 include h hm
def uv(n D k:Nat):Mx:=zBA n D (uJ (n*D) k)
theorem zP7{k:Nat}:VOk x.zA.length m.Prime D (uv x.zA.length D k):=by have _:=h;have h7:=hm.p.pos;exact zSW (zFL h7.1)
theorem zZt:∀k,k<x.zA.length*D→ ∀q,Row m.Prime D (dfc m D (uv x.zA.length D k) q):=fun k _ q=>by have _:=h;exact qU hm.p
theorem zSX{k:Nat}:zQU (uJ (x.zA.length*D) k) (D:Int)=dS (uv x.zA.length D k):=by have h6:=h.os.1;have h3:=hm.d3;have eO:x.zA.length*D≤14*3:=Jy h6 h3;exact zIa hm.d1 (yB _ _) (by omega)
theorem zZu{k:Nat}:zKK (uJ (x.zA.length*D) k) (D:Int)=dS (uv x.zA.length D k):=by have h6:=h.os.1;have h3:=hm.d3;have eO:x.zA.length*D≤14*3:=Jy h6 h3;exact zIb hm.d1 (by omega) (yB _ _) (by omega)
theorem zIc{vals:Mx}{L:List Rl}:((L.map (dfc m D vals)).flatten).length=L.length*D:=by have _:=h;have _:=hm;grind[zFQ,zBa]
theorem zG0:zW1 x m=dS (zDf (x.zA.length*D) (fun k=>dfc m D (uv x.zA.length D k)) (xN x)):=by
 have h6:=h.os.1;have h3:=hm.d3;have eO:x.zA.length*D≤14*3:=Jy h6 h3;have fp:=zGN h hm (zP7 h hm (k:=0));have hrD:(xN x).length*D≤300*3:=Jy fp h3;unfold zW1;rw[hm.d,←Ls,zF (by omega) (by omega),bs];rw[vV (body:=zMX x m ((x.zA.length*D:Nat):Int)) (x.zA.length*D) (fun k=>((xN x).map (dfc m D (uv x.zA.length D k))).flatten) (fun k acc hk ha=>by
  unfold zMX;simp only
  rw[yJ hk,zI,zA0 hk (by omega),bs,hm.d,zSX h hm,bs,zAK h hm (zP7 h hm (k:=k)),bs,zAt (by simp;omega) (by rw[zIc h hm];omega),bs,zS (by simp;omega),bs,zF (by omega) (by omega),bs,cs]) (fun acc=>by
  unfold zMX;simp),bs]
 rfl
theorem zQ7{k N:Nat}:(J1 N (0:Int)).set k 1=uJ N k:=by have _:=h;have _:=hm;rw[uW,qT,uJ]
theorem zWb(hn:x.zA.length=0):(BL x x.zA.length).length=0:=by have _:=hm;have _:=h;rw[hn];rfl
theorem zSY:zMY x m=(f_X m.Prime (zDf (x.zA.length*D) (fun k=>dfc m D (uv x.zA.length D k)) (BL x x.zA.length)) (((BL x x.zA.length).length*D:Nat):Int)):=by
 have h6:=h.os.1;have h3:=hm.d3;have h1:=hm.d1;have eO:x.zA.length*D≤14*3:=Jy h6 h3;unfold zMY;rw[hm.d,←Ls,zF (by omega) (by omega),bs];have:=zP (body:=zJJ x m ((x.zA.length*D:Nat):Int)) (r:=(zDf (x.zA.length*D) (fun k=>dfc m D (uv x.zA.length D k)) (BL x x.zA.length),(((BL x x.zA.length).length*D:Nat):Int)))
  (fun k=>(gl k fun k=>((BL x x.zA.length).map (dfc m D (uv x.zA.length D k))).flatten,if k=0 then 0 else(((BL x x.zA.length).length*D:Nat):Int),(k:Int))) (x.zA.length*D) (fun k hk=>by
  unfold zJJ;simp only
  rw[yJ hk,zI,yF (by omega),bs,vC,Jp,if_pos hk,bs,J8,zQ7 h hm,hm.d,zZu h hm,bs,zJx h hm (zP7 h hm (k:=k)),bs,zS (by rw[wC];simp;omega),bs,zF (by omega) (by omega),bs,cs,if_neg (by omega:¬k+1=0),zAj,zIc h hm]) (by
  unfold zJJ;simp only
  rw[tH,zH]
  by_cases h0:x.zA.length*D=0
  ·rw[if_pos h0]
   have m9:x.zA.length=0:=by grind[Nat.mul_eq_zero]
   rw[zWb h hm m9,Nat.zero_mul];rfl
  ·rw[if_neg h0];rfl)
 have e:zE (zJJ x m ((x.zA.length*D:Nat):Int)) ([],0,0)=dS (zDf (x.zA.length*D) (fun k=>dfc m D (uv x.zA.length D k)) (BL x x.zA.length),(((BL x x.zA.length).length*D:Nat):Int)):=this
 simp_all
theorem zId:∃K pk,zMY x m=dS K∧zUo x m=dS K∧Red m.Prime (x.zA.length*D) K pk:=by have h6:=h.os.1;have h3:=hm.d3;have eO:x.zA.length*D≤14*3:=Jy h6 h3;have fp:=zGN h hm (zP7 h hm (k:=0));have hrD:(xN x).length*D≤300*3:=Jy fp h3;have aa:=zWa h;obtain⟨K,pk,k1,k2,k3⟩:=zQ6 (p:=m.Prime) (zZt h hm) hm.p (L1:=BL x x.zA.length) (L2:=xN x) (by grind) (by omega) (fun q=>zNJ);refine⟨K,pk,by grind[zSY],?_,k3⟩;unfold zUo;rw[zG0 h hm,bs,zEv h,bs,hm.d,←Ls,zF (by omega) (by omega),bs,k2,bs]
end
end Go.Pl

namespace Go.Pl
open Go Go.Ab Go.Wk Go.Pc
theorem zD4{n D:Nat}{p:Int}{vals:Mx}(hV:VOk n p D vals):Row p (n*D) vals.flatten:=by
 have h:=zHW (p:=p) (D:=D) (xs:=vals) fun r hr=>by
  obtain⟨i,hi,rfl⟩:=K8.1 hr;have:=hV.2 i (by rw[←hV.1];exact hi)
  grind
 rw[hV.1]at h;exact h
theorem zSZ{v:List Int}{k:Nat}(hl:v.length≤1000000)(hk:k<v.length)(h0:∀j,j<k→at0 v j=0)(h1:at0 v k≠0):zW3 v=dS (k:Int):=by
 unfold zW3;have:=zP (body:=zMZ v) (r:=.inr (k:Int)) (fun i=>(i:Int)) k (fun i hi=>by
  unfold zMZ zW2;rw[yJ (by omega),zI,zZ (by omega),bs,bs,h0 i hi,bne_self_eq_false,zH,zF (by omega) (by omega),bs,cs]) (by
  unfold zMZ zW2;rw[yJ hk,zI,zZ hk,bs,bs,tI h1,zI])
 grind
theorem zJ5{b:List Int}{N:Nat}(h:b.length+N≤1000000):yM b (N:Int) (0:Int)=dS (b++J1 N 0):=by unfold yM;rw[if_pos (by omega),J8]
section
variable {p:Int} (hp:Prime p) {c N:Nat} (gB:c+N≤100000) {A W:Mx}{pv:Nat→Nat}{t:Nat} (h:Nul p c N A W pv t)
 include hp gB h
def sy(p:Int)(c N:Nat)(W:Mx)(pv:Nat→Nat)(b:List Int)(t:Nat):List Int:=cl p (c+N) W pv (b++J1 N 0) t
def sx(p:Int)(c N:Nat)(W:Mx)(pv:Nat→Nat)(b:List Int)(t:Nat):List Int:=mkv N fun j=>(0-at0 (sy p c N W pv b t) (c+j))%p
theorem zGT{b:List Int}(hb:Row p c b):Row p (c+N) (b++J1 N 0):=by
 have _:=gB;have _:=h;have h7:=hp.pos;refine⟨by rw[J7,hb.1,Kk],fun j hj=>?_⟩;rw[zBw,hb.1];split
 ·next g=>exact hb.2 j g
 ·next g=>
  have:at0 (J1 N (0:Int)) (j-c)=0:=by simp[at0,J4,show j-c<N by omega]
  omega
theorem zK6{b:List Int}(hb:Row p c b)(t:Nat):Row p (c+N) (sy p c N W pv b t):=zBd hp gB h.red (zGT hp gB h hb) t
theorem zNX{b:List Int}:Row p N (sx p c N W pv b t):=by have _:=gB;have _:=h;have h7:=hp.pos;refine⟨yB _ _,fun j hj=>?_⟩;rw[sx,zT hj];have e1:=Ke (0-at0 (sy p c N W pv b t) (c+j)) (show p≠0 by omega);have e2:=K4 (0-at0 (sy p c N W pv b t) (c+j)) (show 0<p by omega);omega
theorem zIe{y:List Int}(hy:y.length=c+N):zL y 0 (c:Int)=dS (y.take c):=by have _:=hp;have _:=gB;have _:=h;unfold zL;rw[if_pos (by omega),J8,show(0:Int).toNat=0 from rfl,Hu,Uv]
theorem zC0{y:List Int}(hy:y.length=c+N):zL y (c:Int) ((c+N:Nat):Int)=dS (y.drop c):=by have _:=hp;have _:=gB;have _:=h;unfold zL;rw[if_pos (by omega),J8,J8,Jt (by grind)]
theorem zQ8:zE (zJK (c:Int) W) ([],0)=dS (gl t fun i=>W.getD i []):=by
 have hf:=h.full hp gB;have eJ:=h.le;have:=zP (body:=zJK (c:Int) W) (r:=gl t fun i=>W.getD i []) (fun i=>(gl (min i t) (fun i=>W.getD i []),(i:Int))) W.length (fun i hi=>by
  have hr:=h.red.row i hi;have h1:=h.red.one i hi;have gE:=h.red.lt i hi;have cC:=zGP (n:=c+N) hr.1 (by omega) gE (h.red.low i hi) (by simp_all);unfold zJK;simp only
  rw[yJ hi,zI,zR [] hi,bs,cC,bs];rcases Js i t with g|g
  ·have:=h.lo i g
   rw[dX (by omega),zI,bs,zS (by grind),bs,zF (by omega) (by omega),bs,cs,H4 (by omega),H4 (by omega:i+1≤t),zAj]
  ·have:=h.hi i g hi
   rw[dW (by omega),zH,zF (by omega) (by omega),bs,cs,Hx g,Hx (by omega:t≤i+1)]) (by
  unfold zJK
  simp_all)
 grind
theorem zMn{b:List Int}(hb:Row p c b):zE (zRd (zJ.mk p (c:Int) A) W) (b++J1 N 0,0)=dS (sy p c N W pv b t):=by
 have h7:=hp.pos;have hf:=h.full hp gB;have eJ:=h.le;have hv:=zGT hp gB h hb;have:=zP (body:=zRd (zJ.mk p (c:Int) A) W) (r:=sy p c N W pv b t) (fun i=>(sy p c N W pv b (min i t),(i:Int))) W.length (fun i hi=>by
  have hr:=h.red.row i hi;have h1:=h.red.one i hi;have gE:=h.red.lt i hi;have hix:=zSZ (v:=W.getD i []) (k:=pv i) (by rw[hr.1];omega) (by grind) (h.red.low i hi) (by simp_all);unfold zRd;simp only
  rw[yJ hi,zI,zR [] hi,bs,hix,bs];rcases Js i t with g|g
  ·have:=h.lo i g
   have hy:=zK6 hp gB h hb i;have ha:=hy.2 (pv i) gE;rw[dX (by omega),zI,H4 (by omega),zZ (by rw[hy.1];exact gE),bs,zF (by omega) (by omega),bs,zAM hp hy hr (by omega) (by omega),bs,zF (by omega) (by omega),bs,cs,H4 (by omega:i+1≤t)];rw[sy,zSQ hp gB h.red hv hi];rfl
  ·have:=h.hi i g hi
   rw[dW (by omega),zH,zF (by omega) (by omega),bs,cs,Hx g,Hx (by omega:t≤i+1)]) (by
  unfold zRd
  simp_all)
 rw[Nat.zero_min]at this;exact this
def ng(p:Int)(c N:Nat)(y:List Int)(i:Nat):List Int:=mkv (c+N) fun j=>if c≤j∧j<c+i then(0-at0 y j)%p else at0 y j
theorem zTa{y:List Int}(hy:Row p (c+N) y):zE (zRe (zJ.mk p (c:Int) A) y) (y,0)=dS (ng p c N y N):=by
 have h7:=hp.pos;have t8:=hy.1;have:=zP (body:=zRe (zJ.mk p (c:Int) A) y) (r:=ng p c N y N) (fun i=>(ng p c N y i,(i:Int))) N (fun i hi=>by
  have hl:(ng p c N y i).length=c+N:=yB _ _;have a8:((ng p c N y i).drop c).length=N:=by grind
  have he:at0 ((ng p c N y i).drop c) i=at0 y (c+i):=by rw[zCa,ng,zT (by omega),if_neg (by omega)]
  have hb:=hy.2 (c+i) (by omega);unfold zRe;simp only
  rw[J8,J8,t8,Kw,yJ hi,zI,zC0 hp gB h hl,bs,zZ (by omega),bs,he,zF (by omega) (by omega),bs,zDb hp (by omega) (by omega),bs,bs,zZ (by omega),bs,zF (by omega) (by omega),bs,cs,←Lm,J8]
  congr 3
  rw[ng,qT];refine yC fun j hj=>?_
  by_cases e:j=c+i
  ·simp_all
  omega) (by
  unfold zRe;simp only
  rw[J8,J8,t8,Kw,tH,zH])
 have e:ng p c N y 0=y:=by
  conv=>rhs;rw[vO t8]
  exact yC (by omega)
 grind
theorem zTb{b:List Int}:(ng p c N (sy p c N W pv b t) N).drop c=sx p c N W pv b t:=by
 have _:=hp;have _:=gB;have _:=h;have hl:((ng p c N (sy p c N W pv b t) N).drop c).length=N:=by grind[ng,yB]
 rw[vO hl];refine yC fun j hj=>?_
 rw[zCa,ng,zT (by omega),if_pos (by omega)]
theorem zNY{b:List Int}:(mkv N fun j=>(at0 ((sy p c N W pv b t).drop c) j*(p-1))%p)=sx p c N W pv b t:=by
 have _:=hp;have _:=gB;have _:=h;refine yC fun j hj=>?_
 rw[zCa]
 generalize at0 (sy p c N W pv b t) (c+j)=a
 have e:a*(p-1)=(0-a)+p*a:=by grind
 simp_all
theorem zIf(h2:f_r p (wd N A)=dS W){b:List Int}(hb:Row p c b):zO2 p A (c:Int) b=(f_Q ((sy p c N W pv b t).take c)).bind fun r13=>cond (!r13) (dS ([],dV)) (dS (cl p N (nul c t W) (fun i=>pv (t+i)-c) (sx p c N W pv b t) (nul c t W).length,dU)):=by
 have h7:=hp.pos;have hr:=h.row;have hl:=h.len;have hf:=h.full hp gB;have eJ:=h.le;have hy:=zK6 hp gB h hb t;have hK:=h.nred hp gB;have hKl:(nul c t W).length≤N:=hK.len_le;have hx:=zNX hp gB h (b:=b);have bJ:cl p (c+N) (gl t fun i=>W.getD i []) pv (b++J1 N 0) (gl t fun i=>W.getD i []).length=sy p c N W pv b t:=by grind[sy,zP6]
 have bD:f_X p A (c:Int)=dS (nul c t W):=by grind[f_X,zD3,zFM]
 have a8:Row p N ((sy p c N W pv b t).drop c):=by refine⟨by rw[Kv,hy.1];omega,fun j hj=>?_⟩;rw[zCa];exact hy.2 _ (by omega)
 have hgl:(gl t fun i=>W.getD i []).length=t:=wC;unfold zO2;rw[zD3 hp gB hr hl,h2,bs,wF (by rw[hb.1];omega),bs,hl,zJ5 (by rw[hb.1];omega),bs,zQ8 hp gB h,bs,zCy hp gB (h.red.sub eJ) (zGT hp gB h hb) (by omega),bs,bJ,zIe hp gB h hy.1,bs,zF (by omega) (by omega),bs,hy.1,zC0 hp gB h hy.1,bs,zHU hp (by omega) a8 (by omega) (by omega),bs,bD,bs,zNY hp gB h,zCy hp (by omega) hK hx (by omega),bs]
 omit h in
theorem zNZ(hr:∀i,i<N→Row p c (A.getD i []))(hl:A.length=N){b:List Int}(hb:Row p c b):∃r ok,zO2 p A (c:Int) b=dS (r,ok)∧f_B (zJ.mk p (c:Int) A) b=dS (r,ok)∧r.length≤N:=by
  have h7:=hp.pos;obtain⟨W,pv,t,h,h2,h3⟩:=Nul.get hp gB hr hl;have hf:=h.full hp gB;have eJ:=h.le;have hy:=zK6 hp gB h hb t;have hK:=h.nred hp gB;have hKl:(nul c t W).length≤N:=hK.len_le;have hx:=zNX hp gB h (b:=b);have gI:=zBd hp (by omega) hK hx (nul c t W).length;have dg:zKJ p A (c:Int)=dS (nul c t W):=by unfold zKJ;rw[qV gB hr hl,bs,h3,bs,zGq hp gB h,bs,(zGp hp (by omega) hK).2,bs]
  have fQ:((sy p c N W pv b t).take c).length=c:=by rw[L5,hy.1];omega
  have es:=zIf hp gB h h2 hb;have ei:f_B (zJ.mk p (c:Int) A) b=(f_y ((sy p c N W pv b t).take c)).bind fun r13=>cond (!r13) (dS ([],dV)) (dS (cl p N (nul c t W) (fun i=>pv (t+i)-c) (sx p c N W pv b t) (nul c t W).length,dU)):=by
    unfold f_B zZQ;simp only
    rw[zBc (by rw[hb.1];omega),bs,hl,zJ5 (by rw[hb.1];omega),bs,qV gB hr hl,bs,h3,bs,zMn hp gB h hb,bs,zIe hp gB h hy.1,bs,hy.1,zC0 hp gB h hy.1,bs,zTa hp gB h hy,bs,dg,bs,bs,zC0 hp gB h (y:=ng p c N (sy p c N W pv b t) N) (yB _ _),bs,zTb hp gB h,zDe hp (by omega) hK hx (by omega),bs]
  rw[es,ei];rcases(kJ (v:=(sy p c N W pv b t).take c) (by omega)).both (zFd (by omega))with⟨z1,z2,_⟩|⟨z1,z2,_⟩
  · rw[z1,z2,bs,J3,zH]
    exact⟨_,_,rfl,rfl,by rw[gI.1];omega⟩
  simp_all
end
end Go.Pl

namespace Go.Pl
open Go Go.Ab Go.Wk Go.Pc
end Go.Pl

namespace Go.Pl
open Go Go.Ab Go.Wk Go.Pc
theorem zQ9{n i:Nat}:at0 (zeros n) i=0:=by
 rcases Js i n with g|g
 ·simp[zeros,at0,J4,g]
 ·simp[zeros,at0,J4,g]
abbrev adv(p:Int)(D:Nat)(u v:List Int):List Int:=mkv D fun j=>(at0 u j+at0 v j)%p
theorem zP8{p:Int}{D:Nat}{u v:List Int}(hp:0<p):Row p D (adv p D u v):=by refine⟨yB _ _,fun j hj=>?_⟩;rw[zT hj];have e1:=Ke (at0 u j+at0 v j) (show p≠0 by omega);have e2:=K4 (at0 u j+at0 v j) hp;omega
end Go.Pl

namespace Go.Pl
open Go Go.Ab Go.Wk Go.Pc
theorem zTc{p:Int}{D:Nat}{r:List Int}(hr:Row p D r):xW p D r (idM D)=r:=by
 conv=>rhs;rw[vO hr.1]
 refine yC fun j hj=>?_
 have:=hr.2 j hj;have e:∀l,l<D→ent (idM D) l j=if j=l then 1 else 0:=fun l hl=>by rw[ent,zAI hl,zT hj]
 rw[zBs (k:=j) hj (by grind),e j hj,if_pos rfl,Ku,vL this]
theorem zP9{p:Int}{D:Nat}{r:List Int}{A B:Mx}(hA:A.length=D):xW p D (xW p D r A) B=xW p D r (PM p D A B):=by
 refine yC fun j hj=>?_
 have e1:S D (fun l=>at0 (xW p D r A) l*ent B l j)%p=S D (fun l=>S D (fun i=>at0 r i*ent A i l)*ent B l j)%p:=zAA (by grind[xW,zT,Jk,Ju]);have e2:S D (fun l=>at0 r l*ent (PM p D A B) l j)%p=S D (fun i=>at0 r i*S D (fun l=>ent A i l*ent B l j))%p:=zAA (by grind[zNE,Jk,Ju]);rw[e1,e2]
 congr 1
 have e3:S D (fun l=>S D (fun i=>at0 r i*ent A i l)*ent B l j)=S D (fun l=>S D (fun i=>at0 r i*ent A i l*ent B l j)):=xP (by grind[zLU]);rw[e3,zHJ];refine xP fun i _=>?_
 rw[←zAY];exact xP (by grind)
theorem qF{p:Int}{D:Nat}{v:List Int}(hv:Row p D v):adv p D (zeros D) v=v:=by
 conv=>rhs;rw[vO hv.1]
 refine yC fun j hj=>?_
 rw[zQ9,Lo,vL (hv.2 j hj)]
theorem zTd{p:Int}{D:Nat}{u v:List Int}:adv p D u v=adv p D v u:=by grind
end Go.Pl

namespace Go.Pl
open Go Go.Ab Go.Wk Go.Pc
theorem zC1{p:Int}{D:Nat}{A:Mx}:xW p D (zeros D) A=zeros D:=by
 rw[show zeros D=mkv D fun _=>0 from uW D];refine yC fun j hj=>?_
 rw[xP (g:=fun _=>0) fun l hl=>by rw[zT hl,Gx],qD,Ui]
end Go.Pl

namespace Go.Pl
open Go Go.Ab Go.Wk Go.Pc
end Go.Pl

namespace Go.Pl
open Go Go.Ab Go.Wk Go.Pc
end Go.Pl

namespace Go.Pl
open Go Go.Ab Go.Wk Go.Pc
end Go.Pl

namespace Go.Pl
open Go Go.Ab Go.Wk Go.Pc
end Go.Pl

namespace Go.Pl
open Go Go.Ab Go.Wk Go.Pc
end Go.Pl

namespace Go.Pl
open Go Go.Ab Go.Wk Go.Pc
end Go.Pl

namespace Go.Pl
open Go Go.Ab Go.Wk Go.Pc
end Go.Pl

namespace Go.Pl
open Go Go.Ab Go.Wk Go.Pc
end Go.Pl

namespace Go.Pl
open Go Go.Ab Go.Wk Go.Pc
end Go.Pl

namespace Go.Pl
open Go Go.Ab Go.Wk Go.Pc
end Go.Pl

namespace Go.Pl
open Go Go.Ab Go.Wk Go.Pc
theorem zD5{p:Int}{D:Nat}{u v w:List Int}:adv p D (adv p D u v) w=adv p D u (adv p D v w):=by
 refine yC fun j hj=>?_
 grind[zT,Int.add_emod_emod]
theorem zMo{p:Int}{D:Nat}{u v:List Int}{A:Mx}:xW p D (adv p D u v) A=adv p D (xW p D u A) (xW p D v A):=by
 refine yC fun j hj=>?_
 rw[xW,xW,zT hj,zT hj,←K5,←zER];refine zAA fun l hl=>?_
 rw[zT hl,←Int.add_mul,Jk,Ju,←Jk]
end Go.Pl

namespace Go.Pl
open Go Go.Ab Go.Wk Go.Pc
end Go.Pl

namespace Go.Pl
open Go Go.Ab Go.Wk Go.Pc
end Go.Pl

namespace Go.Pl
open Go Go.Ab Go.Wk Go.Pc
end Go.Pl

namespace Go.Pl
open Go Go.Ab Go.Wk Go.Pc
end Go.Pl

namespace Go.Pl
open Go Go.Ab Go.Wk Go.Pc
end Go.Pl

namespace Go.Pl
open Go Go.Ab Go.Wk Go.Pc
end Go.Pl

namespace Go.Pl
open Go Go.Ab Go.Wk Go.Pc
end Go.Pl

namespace Go.Pl
open Go Go.Ab Go.Wk Go.Pc
end Go.Pl

namespace Go.Pl
open Go Go.Ab Go.Wk Go.Pc
end Go.Pl

namespace Go.Pl
open Go Go.Ab Go.Wk Go.Pc
end Go.Pl

namespace Go.Pl
open Go Go.Ab Go.Wk Go.Pc
end Go.Pl

namespace Go.Pl
open Go Go.Ab Go.Wk Go.Pc
end Go.Pl

namespace Go.Pl
open Go Go.Ab Go.Wk Go.Pc
end Go.Pl

namespace Go.Pl
open Go Go.Ab Go.Wk Go.Pc
end Go.Pl

namespace Go.Pl
open Go Go.Ab Go.Wk Go.Pc
end Go.Pl

namespace Go.Pl
open Go Go.Ab Go.Wk Go.Pc
end Go.Pl

namespace Go.Pl
open Go Go.Ab Go.Wk Go.Pc
section
variable {x:SPr}
section
variable (h:Pres x)
 include h
theorem zTe{v:List Int}(hn:x.zA.length≤6)(hv:zLI x.zA v):f_w v=dS (enW (nw 0 v))∧(nw 0 v).length≤36:=by
 have hb:∀i,i<v.length→0≤at0 v i∧at0 v i≤6:=fun i hi=>by have h1:=hv.2 i hi;have h2:=(h.os.2 i (by grind)).pos;omega
 have:=zEr 0 v (by grind);have hl:=hv.1
 grind[sY]
end
end
end Go.Pl

namespace Go.Pl
open Go Go.Ab Go.Wk Go.Pc
end Go.Pl

namespace Go.Pl
open Go Go.Ab Go.Wk Go.Pc
end Go.Pl

namespace Go.Pl
open Go Go.Ab Go.Wk Go.Pc
end Go.Pl

namespace Go.Pl
open Go Go.Ab Go.Wk Go.Pc
end Go.Pl

namespace Go.Pl
open Go Go.Ab Go.Wk Go.Pc
end Go.Pl

namespace Go.Pl
open Go Go.Ab Go.Wk Go.Pc
end Go.Pl

namespace Go.Pl
open Go Go.Ab Go.Wk Go.Pc
end Go.Pl

namespace Go.Pl
open Go Go.Ab Go.Wk Go.Pc
end Go.Pl

namespace Go.Pl
open Go Go.Ab Go.Wk Go.Pc
end Go.Pl

namespace Go.Pl
open Go Go.Ab Go.Wk Go.Pc
end Go.Pl

namespace Go.Pl
open Go Go.Ab Go.Wk Go.Pc
end Go.Pl

namespace Go.Pl
open Go Go.Ab Go.Wk Go.Pc
end Go.Pl

namespace Go.Pl
open Go Go.Ab Go.Wk Go.Pc
end Go.Pl

namespace Go.Pl
open Go Go.Ab Go.Wk Go.Pc
end Go.Pl

namespace Go.Pl
open Go Go.Ab Go.Wk Go.Pc
end Go.Pl

namespace Go.Pl
open Go Go.Ab Go.Wk Go.Pc
end Go.Pl

namespace Go.Pl
open Go Go.Ab Go.Wk Go.Pc
theorem zIg{x:SPr}(hx:jU x){body:Int×Int→Option ((Int×Int)⊕Int)}
  (hb:∀s:Int×Int,body s=cond (decide (s.2<(x.zA.length:Int))) ((ixO x.zA s.2).bind fun v1=>(rng (s.1*v1)).bind fun v2=>(rng (s.2+1)).bind fun v3=>dS (.inl (v2,v3))) (dS (.inr s.1))):zE body (1,0)=dS (pr x.zA x.zA.length):=by
 have h6:=hx.n6;have hP:∀j,j<x.zA.length→Prime (at0 x.zA j):=fun j hj=>hx.os.2 j hj
 exact zP (body:=body) (r:=pr x.zA x.zA.length) (fun i=>(pr x.zA i,(i:Int))) x.zA.length (fun i hi=>by
  have e1:=zKv hP (x.zA.length-(i+1)) (by omega);rw[show x.zA.length-(x.zA.length-(i+1))=i+1 from by omega]at e1;have e2:=zB3 (os:=x.zA) (i:=i+1) (by grind);have e3:=hx.pr;simp only[pr]at e1 e2;rw[hb];simp only
  rw[yJ hi,zI,zZ hi,bs,zF (n:=pr x.zA i*at0 x.zA i) (by omega) (by omega),bs,zF (by omega) (by omega),bs];rfl) (by
  grind)
end Go.Pl

namespace Go.Pl
open Go Go.Ab Go.Wk Go.Pc
end Go.Pl

namespace Go.Pl
open Go Go.Ab Go.Wk Go.Pc
end Go.Pl

namespace Go.Pl
open Go Go.Ab Go.Wk Go.Pc
end Go.Pl

namespace Go.Pl
open Go Go.Ab Go.Wk Go.Pc
end Go.Pl

namespace Go.Pl
open Go Go.Ab Go.Wk Go.Pc
end Go.Pl

namespace Go.Pl
open Go Go.Ab Go.Wk Go.Pc
end Go.Pl

namespace Go.Pl
open Go Go.Ab Go.Wk Go.Pc
end Go.Pl

namespace Go.Pl
open Go Go.Ab Go.Wk Go.Pc
end Go.Pl

namespace Go.Pl
open Go Go.Ab Go.Wk Go.Pc
theorem fv0(v:Vec):fv 0 v=v:=by simp[zeros]
section
variable {x:SPr} (h:Pres x) (hc:vM (suf x 0))
 include h hc
theorem g0:Grp (V (suf x 0)) (mul (suf x 0)) (zeros (suf x 0).length):=zCY h (by omega) hc
theorem ok0:Pc.Ok (suf x 0):=by have _:=hc;exact h.okAt (by omega)
theorem zEw{v:Vec}(hv:V (suf x 0) v):v.length=x.zA.length:=by
 have _:=hc;have:=zEn h (k:=0) (by omega) hv
 rwa [fv0]at this
theorem zZv{a b:Vec}(ha:V (suf x 0) a)(hb:V (suf x 0) b):zIA x a b=dS (mul (suf x 0) a b):=by have:=zDT h (k:=0) (by omega) hc ha hb;simpa only[fv0]using this
theorem tv0{a b:Vec}(ha:V (suf x 0) a)(hb:V (suf x 0) b):f_b x a b=dS (mul (suf x 0) a b):=by have:=zEQ h (k:=0) (by omega) hc ha hb;simpa only[fv0]using this
theorem zZw{c:Vec}(ez:V (suf x 0) c){e:Int}(e0:0≤e)(e1:e≤1000):zKF x c e=dS (pw (mul (suf x 0)) (zeros (suf x 0).length) c e.toNat):=by have:=zHG h (k:=0) (by omega) hc ez e0 e1;simpa only[fv0]using this
theorem yBL{a b:Vec}(ha:V (suf x 0) a)(hb:V (suf x 0) b):∃w,V (suf x 0) w∧mul (suf x 0) (mul (suf x 0) b a) w=mul (suf x 0) a b∧zW8 x a b=dS w:=by
 have ok:=ok0 h hc;have G:=g0 h hc;obtain⟨i,i1,i2,i3⟩:=zGn h (k:=0) (by omega) hc ha;obtain⟨c,c1,c2,c3⟩:=zAX h (k:=0) (by omega) hc ha hb;simp only[fv0]at i3 c3;refine⟨mul (suf x 0) i c,xV ok i1 c1,?_,?_⟩
 ·rw[G.assoc hb ha (xV ok i1 c1),←G.assoc ha i1 c1,i2,G.onel c1,c2]
 ·unfold zW8
  rw[i3,bs,c3,bs,zZv h hc i1 c1,bs]
theorem zJ6{a b:Vec}(ha:V (suf x 0) a)(hb:V (suf x 0) b):zKL x a b=dS (mul (suf x 0) a b):=by have _:=hc;have:=zEO h (k:=0) (by omega) a b ha hb;unfold zKL;rw[show f_a x 0 a b=dS (mul (suf x 0) a b)from by simpa[zeros]using this,bs]
theorem zXZ{c:Vec}(ez:V (suf x 0) c){e:Int}(e0:0≤e)(e1:e≤1000):zMz x 0 c e=dS (pw (mul (suf x 0)) (zeros (suf x 0).length) c e.toNat):=by
 have h6:=h.os.1;have ok:=ok0 h hc;have G:=g0 h hc;have hA:∀a b,V (suf x 0) a→V (suf x 0) b→f_a x 0 a b=dS (mul (suf x 0) a b):=fun a b ha hb=>by have:=zEO h (k:=0) (by omega) a b ha hb;simpa[zeros]using this
 have pwV:∀a,V (suf x 0) (pw (mul (suf x 0)) (zeros (suf x 0).length) c a):=fun a=>wZ G.toMon ez a
 unfold zMz;rw[yF (by omega),bs,zLP h (k:=0) (by omega),fv0];obtain⟨r,r1,r2⟩:=vU (body:=zJD x 0) (Q:=fun r=>r=pw (mul (suf x 0)) (zeros (suf x 0).length) c e.toNat)
  (fun s=> ∃(m a q:Nat),s=((m:Int),pw (mul (suf x 0)) (zeros (suf x 0).length) c a,pw (mul (suf x 0)) (zeros (suf x 0).length) c q)∧a+q*m=e.toNat∧m≤1000) (fun s=>s.1.toNat) (fun s hs=>by
   obtain⟨m,a,q,rfl,he,hm⟩:=hs;unfold zJD;simp only
   by_cases hm0:m=0
   ·right
    subst hm0;rw[show decide (((0:Nat):Int)> 0)=dV from rfl,zH];refine⟨_,rfl,?_⟩;rw[←he,Nat.mul_zero];rfl
   ·left
    have hr:yL (m:Int) 2=dS ((m%2:Nat):Int):=by unfold yL;rw[if_neg (by decide),Kb (by omega)];rfl
    have hq:xC (m:Int) 2=dS ((m/2:Nat):Int):=by unfold xC;rw[if_neg (by decide),Kq (by omega)];rw[zF (by omega) (by omega)];rfl
    have pt:mul (suf x 0) (pw (mul (suf x 0)) (zeros (suf x 0).length) c q) (pw (mul (suf x 0)) (zeros (suf x 0).length) c q)=pw (mul (suf x 0)) (zeros (suf x 0).length) c (q+q):=(zB2 G.toMon ez q q).symm;rw[dX (by omega),zI,hr,bs];rcases Nat.mod_two_eq_zero_or_one m with h2|h2
    ·rw[h2,show((((0:Nat):Int))==1)=dV from rfl,zH,hA _ _ (pwV q) (pwV q),bs,hq,bs,pt]
     refine⟨_,rfl,⟨m/2,a,q+q,rfl,?_,by omega⟩,by simp only;omega⟩;rw[←he];have:m=m/2+m/2:=by omega
     have e3:(q+q)*(m/2)=q*m:=by rw[Lv,←Qa,←this]
     omega
    ·rw[h2,show((((1:Nat):Int))==1)=dU from rfl,zI,hA _ _ (pwV a) (pwV q),bs,hA _ _ (pwV q) (pwV q),bs,hq,bs,pt,←zB2 G.toMon ez a q]
     refine⟨_,rfl,⟨m/2,a+q,q+q,rfl,?_,by omega⟩,by simp only;omega⟩;rw[←he];have:m=m/2+m/2+1:=by omega
     have e3:(q+q)*(m/2)+q=q*m:=by
      have e4:q*m=q*(m/2+m/2+1):=by rw[←this]
      rw[e4,Qa,Qa,Gu,Lv]
     omega) 1000000 (e,(zeros (suf x 0).length),c) (by simp only;omega) ⟨e.toNat,0,1,by rw[zKt G.toMon ez,show((e.toNat:Nat):Int)=e from by omega];rfl,by omega,by omega⟩
 rw[r1,bs,r2]
theorem zYa{c:Vec}(ez:V (suf x 0) c){e:Int}(e0:0≤e)(e1:e≤1000):zIF x c e=dS (pw (mul (suf x 0)) (zeros (suf x 0).length) c e.toNat):=by unfold zIF;rw[dW (by omega),zH,zXZ h hc ez e0 e1,bs]
theorem yBM{c:Vec}(ez:V (suf x 0) c){e:Int}(e0:0<e)(e1:e≤1000):∃u,V (suf x 0) u∧mul (suf x 0) c u=(zeros (suf x 0).length)∧zIF x c (-e)=dS (pw (mul (suf x 0)) (zeros (suf x 0).length) u e.toNat):=by obtain⟨u,u1,u2,u3⟩:=zMl h hc ez;refine⟨u,u1,u2,?_⟩;unfold zIF;rw[dX (by omega),zI,u3,bs,zF (by omega) (by omega),bs,show(0:Int)- -e=e from by omega,zXZ h hc u1 (by omega) e1,bs]
theorem zZx{a b:Vec}(ha:V (suf x 0) a)(hb:V (suf x 0) b):∃w,V (suf x 0) w∧mul (suf x 0) (mul (suf x 0) b a) w=mul (suf x 0) a b∧zW5 x a b=dS w:=by
 have ok:=ok0 h hc;have G:=g0 h hc;have hba:=xV ok hb ha;have c8:=xV ok ha hb;obtain⟨i,i1,i2,i3⟩:=zMl h hc hba;refine⟨mul (suf x 0) i (mul (suf x 0) a b),xV ok i1 c8,?_,?_⟩
 ·rw[←G.assoc hba i1 c8,i2,G.onel c8]
 ·unfold zW5
  rw[zJ6 h hc hb ha,bs,i3,bs,zJ6 h hc ha hb,bs,zJ6 h hc i1 c8,bs]
theorem zFg:Fil (V (suf x 0)) (mul (suf x 0)) (zeros (suf x 0).length) x.zA.length (fun d=>at0 x.zA d) (fun v d=>at0 v d):=by
 have F:=fil (ok0 h hc) hc;have hl:(suf x 0).length=x.zA.length:=by rw[xX];omega
 have ho:∀d,d<x.zA.length→od (suf x 0) d=at0 x.zA d:=fun d hd=>by unfold od suf;rw[Jm,J6 (by simpa using hd)];simp[lvl]
 exact⟨F.g,fun ha hd=>by have:=F.r ha (by rw[hl];exact hd);rwa [ho _ hd]at this,fun hd=>F.e0 (by rw[hl];exact hd),fun ha hb hh=>F.ex ha hb fun d hd=>hh d (by rw[←hl];exact hd),
  fun ha hb hd hz=>by have:=F.ad ha hb (by rw[hl];exact hd) hz;rw[ho _ hd]at this;exact this⟩
end
end Go.Pl

namespace Go.Pl
open Go Go.Ab Go.Wk Go.Pc
def tbl(b:Mx)(k:Nat):Option Vec:=match b.getD k []with
 | []=>dT
 |v::vs=>dS (v::vs)
theorem qW{b:Mx}{k:Nat}{t:Vec}:tbl b k=dS t↔b.getD k []=t∧t≠[]:=by
 unfold tbl;cases b.getD k []with
 |nil=>simp
 |cons v vs=>simp;intro h;rw[←h];simp
theorem uY{b:Mx}{k:Nat}:tbl b k=dT↔b.getD k []=[]:=by unfold tbl;cases b.getD k []<;>simp
theorem zK7{b:Mx}{d:Nat}{y:Vec}(hd:d<b.length)(hy:y≠[]):tbl (b.set d y)=fun j=>if j=d then dS y else tbl b j:=by
 funext j
 by_cases h:j=d
 ·subst h
  rw[if_pos rfl,qW,J4,Gj hd];exact⟨rfl,hy⟩
 ·rw[if_neg h]
  unfold tbl;rw[J4,U2 (fun e=>h e.symm),←J4]
def zBf:Mx→Nat
 | []=>0
 | []::b=>zBf b+1
 |(_::_)::b=>zBf b
theorem zD6:∀b:Mx,zBf b≤b.length
 | []=>Jd _
 | []::b=>by simp only[zBf,Jj];have:=zD6 b;omega
 |(_::_)::b=>by simp only[zBf,Jj];have:=zD6 b;omega
theorem zIh:∀(b:Mx)(d:Nat)(y:Vec),d<b.length→b.getD d []=[]→y≠[]→zBf (b.set d y)+1=zBf b
 | [],d,y,h,_,_=>by simp at h
 |v::b,0,y,_,h,hy=>by
  simp at h;subst h;cases y with
  |nil=>exact absurd rfl hy
  |cons a y=>simp[zBf]
 |v::b,d+1,y,h,h1,hy=>by have ih:=zIh b d y (by simpa using h) (by simpa using h1) hy;cases v<;>simp only[Ks,zBf]<;>omega
theorem zC2{v:List Int}(hl:v.length≤1000):∃d:Nat,d≤v.length∧zO4 v=dS (d:Int)∧(∀j,j<d→at0 v j=0)∧(d<v.length→at0 v d≠0):=by
 obtain⟨r,r1,r2⟩:=uF (body:=zNc v) (Q:=fun r=>match r with
   |.inl ()=> ∀j,j<v.length→at0 v j=0
   |.inr e=> ∃d:Nat,e=(d:Int)∧d<v.length∧(∀j,j<d→at0 v j=0)∧at0 v d≠0)
  (fun i s=>s=(i:Int)∧ ∀j,j<i→at0 v j=0) v.length (fun i s hi hs=>by
   obtain⟨rfl,hz⟩:=hs;unfold zNc;rw[yJ hi,zI,zR 0 hi,bs]
   by_cases h0:at0 v i=0
   ·left
    have fX:v.getD i 0=0:=h0;rw[fX,show((0:Int) != 0)=dV from rfl,zH,zF (by omega) (by omega),bs,cs];refine⟨_,rfl,rfl,fun j hj=>?_⟩
    by_cases e:j=i
    ·rw[e];exact h0
    ·exact hz j (by omega)
   ·right
    have fX:(v.getD i 0 != 0)=dU:=by simpa using h0
    rw[fX,zI];exact⟨_,rfl,i,rfl,hi,hz,h0⟩) (fun s hs=>by
   obtain⟨rfl,hz⟩:=hs;unfold zNc;rw[tH,zH];exact⟨_,rfl,hz⟩) (s:=0) ⟨rfl,fun j hj=>by omega⟩
 unfold zO4;rw[r1,bs];cases r with
 |inl u=>exact⟨v.length,Jd _,rfl,r2,fun h=>absurd h (Ja4 _)⟩
 |inr e=>
  obtain⟨d,rfl,h1,h2,h3⟩:=r2;exact⟨d,by omega,rfl,h2,fun _=>h3⟩
section
variable {x:SPr} (h:Pres x) (hc:vM (suf x 0)) {b:Mx} (hb:b.length=x.zA.length) (hT:Tab (V (suf x 0)) x.zA.length (fun v d=>at0 v d) (tbl b))
 include h hc hb hT
theorem zQA{y:Vec}(hy:V (suf x 0) y):∃(z:Vec)(d:Nat),zW7 ⟨x,b⟩ y=dS (z,⟨x,b⟩)∧Sf (V (suf x 0)) (mul (suf x 0)) (zeros (suf x 0).length) x.zA.length (fun v d=>at0 v d) (tbl b) y z∧
  d≤x.zA.length∧(∀j,j<d→at0 z j=0)∧(d<x.zA.length→at0 z d≠0∧tbl b d=dT):=by
 have h6:=h.os.1;have F:=zFg h hc;obtain⟨d0,a1,a2,a3,a4⟩:=zC2 (v:=y) (by rw[zEw h hc hy];omega);rw[zEw h hc hy]at a1 a4;obtain⟨r,r1,_,d,rfl,r3,r4,r5,r6⟩:=vU (body:=zPO ⟨x,b⟩)
  (Q:=fun r=> ∃(z:Vec)(d:Nat),r=z∧Sf (V (suf x 0)) (mul (suf x 0)) (zeros (suf x 0).length) x.zA.length (fun v d=>at0 v d) (tbl b) y z∧d≤x.zA.length∧(∀j,j<d→at0 z j=0)∧(d<x.zA.length→at0 z d≠0∧tbl b d=dT))
  (fun s=> ∃(z:Vec)(d:Nat),s=(z,(d:Int))∧Sf (V (suf x 0)) (mul (suf x 0)) (zeros (suf x 0).length) x.zA.length (fun v d=>at0 v d) (tbl b) y z∧d≤x.zA.length∧(∀j,j<d→at0 z j=0)∧(d<x.zA.length→at0 z d≠0))
  (fun s=>x.zA.length-s.2.toNat) (fun s hs=>by
   obtain⟨z,d,rfl,sf,d1,d2,d3⟩:=hs;have hz:=sf.s;have cV:=zEw h hc hz;unfold zPO;simp only
   by_cases hd:d<x.zA.length
   ·rw[show decide ((d:Int)<(z.length:Int))=dU from dX (by omega),zI,zR [] (by omega),bs]
    cases ht:b.getD d []with
    |nil=>
     right;rw[show(!(([]:List Int)).isEmpty)=dV from rfl,zH];exact⟨_,rfl,z,d,rfl,sf,d1,d2,fun _=>⟨d3 hd,uY.2 ht⟩⟩
    |cons t0 ts=>
     left;have eF:tbl b d=dS (t0::ts):=qW.2 ⟨ht,by simp⟩;obtain⟨_,t2,t3,t4⟩:=hT.h eF;have eI:=h.os.2 d hd;have hp7:=eI.pos;have hr:=F.r hz hd;have k1:=F.killl hd t2 t3 t4 hz d2;obtain⟨q1,q2,_⟩:=F.pw1 hd t2 t3 t4 (at0 x.zA d-at0 z d).toNat;obtain⟨s1,s2⟩:=Sf.left F hT hd hz d2 (d3 hd) eF (fun _ g=>g.pw _) q1 q2 k1;have aj:=s1.s;rw[show(!((t0::ts)).isEmpty)=dU from rfl,zI,bs,zR 0 hd,bs,zR 0 (by omega),bs];rw[zF (by show _≤at0 x.zA d-at0 z d;omega) (by show at0 x.zA d-at0 z d≤_;omega),bs];rw[show x.zA.getD d 0-z.getD d 0=at0 x.zA d-at0 z d from rfl,zZw h hc t2 (by omega) (by omega),bs,zZv h hc q1 hz,bs,zR 0 (by rw[zEw h hc aj];exact hd),bs];rw[show Ud (mul (suf x 0) (pw (mul (suf x 0)) (zeros (suf x 0).length) (t0::ts) (at0 x.zA d-at0 z d).toNat) z) d 0=0 from k1,show((0:Int) != 0)=dV from rfl,zH];obtain⟨e0,b1,b2,b3,b4⟩:=zC2 (v:=mul (suf x 0) (pw (mul (suf x 0)) (zeros (suf x 0).length) (t0::ts) (at0 x.zA d-at0 z d).toNat) z) (by rw[zEw h hc aj];omega);rw[zEw h hc aj]at b1 b4;rw[b2,bs];refine⟨_,rfl,⟨_,e0,rfl,sf.trans s1,b1,b3,b4⟩,?_⟩;have:d<e0:=by apply Classical.byContradiction;intro gc;have:=s2 e0 (by omega);exact b4 (by omega) this
     simp only[J8];omega
   ·right
    rw[show decide ((d:Int)<(z.length:Int))=dV from dW (by omega),zH];exact⟨_,rfl,z,d,rfl,sf,d1,d2,fun hh=>absurd hh hd⟩) 1000 (y,(d0:Int)) (by simp only;omega) ⟨y,d0,rfl,Sf.refl hy,a1,a3,a4⟩
 refine⟨r,d,?_,r3,r4,r5,r6⟩;unfold zW7;rw[a2,bs,r1,bs]
end
end Go.Pl

namespace Go.Pl
open Go Go.Ab Go.Wk Go.Pc
theorem zIi{v:Vec}{d:Nat}(h:at0 v d≠0):v≠[]:=by rintro rfl;simp[at0]at h
section
variable {x:SPr} (h:Pres x) (hc:vM (suf x 0)) {b:Mx} (hb:b.length=x.zA.length) (hT:Tab (V (suf x 0)) x.zA.length (fun v d=>at0 v d) (tbl b))
 include h hc hb hT
theorem zQB{y:Vec}(hy:V (suf x 0) y){g:List Int×yV}(hg:g.2=⟨x,b⟩){Q:Mx}(hQ:Q.length≤100000):
  ∃W:Mx,zE (zRk g y) (Q,0)=dS (Q++W)∧W.length≤x.zA.length∧(∀w∈W,V (suf x 0) w∧ ∃k u,tbl b k=dS u∧mul (suf x 0) (mul (suf x 0) y u) w=mul (suf x 0) u y)∧
   ∀k u,tbl b k=dS u→ ∃w,w∈W∧mul (suf x 0) (mul (suf x 0) y u) w=mul (suf x 0) u y:=by
 have h6:=h.os.1;obtain⟨r,r1,W,rfl,r2,r3,r4⟩:=uF (body:=zRk g y)
  (Q:=fun r=> ∃W:Mx,r=Q++W∧W.length≤x.zA.length∧(∀w∈W,V (suf x 0) w∧ ∃k u,tbl b k=dS u∧mul (suf x 0) (mul (suf x 0) y u) w=mul (suf x 0) u y)∧
   ∀k u,tbl b k=dS u→ ∃w,w∈W∧mul (suf x 0) (mul (suf x 0) y u) w=mul (suf x 0) u y)
  (fun i s=> ∃W:Mx,s=(Q++W,(i:Int))∧W.length≤i∧(∀w∈W,V (suf x 0) w∧ ∃k u,tbl b k=dS u∧mul (suf x 0) (mul (suf x 0) y u) w=mul (suf x 0) u y)∧
   ∀k u,k<i→tbl b k=dS u→ ∃w,w∈W∧mul (suf x 0) (mul (suf x 0) y u) w=mul (suf x 0) u y) x.zA.length (fun i s hi hs=>by
   obtain⟨W,rfl,w1,w2,w3⟩:=hs;left;unfold zRk;simp only[hg];rw[show decide ((i:Int)<(b.length:Int))=dU from dX (by omega),zI,zR [] (by omega),bs];cases ht:b.getD i []with
   |nil=>
    rw[show(!(([]:List Int)).isEmpty)=dV from rfl,zH,zF (by omega) (by omega),bs,cs];refine⟨_,rfl,W,rfl,by omega,w2,fun k u hk hu=>?_⟩
    by_cases e:k=i
    ·subst e
     rw[uY.2 ht]at hu;cases hu
    ·exact w3 k u (by omega) hu
   |cons t0 ts=>
    have eF:tbl b i=dS (t0::ts):=qW.2 ⟨ht,by simp⟩;obtain⟨_,t2,_,_⟩:=hT.h eF;obtain⟨w,v1,v2,v3⟩:=yBL h hc t2 hy;rw[show(!((t0::ts)).isEmpty)=dU from rfl,zI,v3,bs,zS (by simp only[J7,Jb];omega),bs,zF (by omega) (by omega),bs,cs];refine⟨_,rfl,W++[w],by rw[Ji],by simp only[J7,Jb];omega,fun a ha=>?_,fun k u hk hu=>?_⟩
    ·rcases Jv.1 ha with ha|ha
     ·exact w2 a ha
     ·simp at ha;subst ha
      exact⟨v1,i,_,eF,v2⟩
    ·by_cases e:k=i
     ·subst e
      rw[eF]at hu;cases hu;exact⟨w,by simp,v2⟩
     ·obtain⟨a,a1,a2⟩:=w3 k u (by omega) hu
      exact⟨a,by simp[a1],a2⟩) (fun s hs=>by
   obtain⟨W,rfl,w1,w2,w3⟩:=hs;unfold zRk;simp only[hg];rw[show decide ((x.zA.length:Int)<(b.length:Int))=dV from dW (by omega),zH];exact⟨_,rfl,W,rfl,w1,w2,fun k u hu=>w3 k u (hT.h hu).1 hu⟩) (s:=(Q,0)) ⟨[],by simp,Jd _,by simp,fun k u hk=>by omega⟩
 exact⟨W,r1,r2,r3,r4⟩
end
section
variable {x:SPr} (h:Pres x) (hc:vM (suf x 0))
 include h hc
abbrev WlB(x:SPr)(L:Vec→Prop)(b:Mx)(Q:Mx):Prop:=Wl (V (suf x 0)) (mul (suf x 0)) (zeros (suf x 0).length) x.zA.length (fun d=>at0 x.zA d) (fun v d=>at0 v d) L (tbl b) Q
theorem zTf{L:Vec→Prop}(hL:∀a,L a→V (suf x 0) a){b:Mx}(hb:b.length=x.zA.length){g:Bool}{q:Vec}{Q:Mx}(hW:WlB x L b (q::Q))(hQ:Q.length≤10000):
  ∃(b':Mx)(g':Bool)(Q':Mx),zRl (x,b,g,q::Q)=dS (.inl (x,b',g',Q'))∧b'.length=x.zA.length∧WlB x L b' Q'∧
   (b'=b∧Q'=Q∧g'=g∨zBf b'+1=zBf b∧Q'.length≤Q.length+x.zA.length+2∧g'=dU):=by
 have h6:=h.os.1;have F:=zFg h hc;have G:=g0 h hc;have hq:=hW.q q (by simp);obtain⟨z,d,s1,sf,s3,s4,s5⟩:=zQA h hc hb hW.t hq.1;have hz:=sf.s;have cV:=zEw h hc hz;obtain⟨d',d1,d2,d3,d4⟩:=zC2 (v:=z) (by omega);rw[cV]at d1 d4;have dx:d'=d:=by
  rcases H5 d' d with g|g|g
  ·exact absurd (s4 d' g) (d4 (by omega))
  ·exact g
  ·exact absurd (d3 d g) (s5 (by omega)).1
 subst dx;unfold zRl;simp only
 rw[show decide (((q::Q).length:Int)> 0)=dU from dX (by simp only[Jj];omega),zI];rw[show ixO (q::Q) (0:Int)=dS q from rfl,bs,s1,bs];rw[show zL (q::Q) 1 ((q::Q).length:Int)=dS Q from by unfold zL;rw[if_pos ⟨by omega,by simp only[Jj];omega,Jaz _⟩];simp,bs]
 dsimp only
 rw[d2,bs]
 by_cases hd:d'<x.zA.length
 ·obtain⟨n1,n2⟩:=s5 hd
  have eI:=h.os.2 d' hd;have hp7:=eI.pos;have hr:=F.r hz hd;obtain⟨v,v1,v2,v3,v4⟩:=zCw eI (x:=at0 z d') (by have:=hr.1;omega) (by have:=hr.2;omega);have c9:V (suf x 0) (pw (mul (suf x 0)) (zeros (suf x 0).length) z v.toNat):=wZ G.toMon hz _;obtain⟨y,fI⟩:∃y,y=pw (mul (suf x 0)) (zeros (suf x 0).length) z v.toNat:=⟨_,rfl⟩;rw[←fI]at c9;have pJ:=F.pwc hd hz s4 v.toNat;rw[←fI]at pJ;have fP:at0 y d'=1:=by have:=pJ.2;rw[this,show((v.toNat:Nat):Int)=v from by omega,Hd];exact v4
  have mW:V (suf x 0) (pw (mul (suf x 0)) (zeros (suf x 0).length) y (at0 x.zA d').toNat):=wZ G.toMon c9 _;have fO:y≠[]:=zIi (d:=d') (by rw[fP];decide);rw[show(((d':Nat):Int)==(z.length:Int))=dV from by simp;omega,zH,zR 0 (by omega),bs,zR 0 hd,bs];rw[show z.getD d' 0=at0 z d' from rfl,show x.zA.getD d' 0=at0 x.zA d' from rfl,v1,bs,zS (by simp only[Jb];omega),bs];simp only
  rw[zZw h hc hz v2 (by omega),bs,bs,←fI,zZw h hc c9 (by omega) (by omega),bs,zS (by simp only[J7,Jb];omega),bs];obtain⟨W,W1,W2,W3,W4⟩:=zQB h hc hb hW.t c9 (g:=(z,⟨x,b⟩)) rfl (Q:=Q++[z]++[pw (mul (suf x 0)) (zeros (suf x 0).length) y (at0 x.zA d').toNat]) (by simp only[J7,Jb];omega);rw[W1,bs,zR [] (by omega),bs,show neO y=dS ()from by cases y with
   |nil=>exact absurd rfl fO
   |cons _ _=>rfl,bs]
  refine⟨_,_,_,rfl,by rw[Kh];exact hb,?_,.inr ⟨zIh b d' y (by omega) (uY.1 n2) fO,by simp only[J7,Jb];omega,rfl⟩⟩;rw[show((d':Nat):Int).toNat=d' from rfl];have gx:=zK7 (b:=b) (d:=d') (y:=y) (by omega) fO;have mV:Gen (V (suf x 0)) (mul (suf x 0)) (zeros (suf x 0).length) L z:=sf.h L hL hW.th hq.2;have ca:Gen (V (suf x 0)) (mul (suf x 0)) (zeros (suf x 0).length) L y:=by rw[fI];exact mV.pw _
  rw[WlB,gx];refine Wl.add F hW hd n2 c9 ca pJ.1 fP (x:=q) (fun k hk=>?_) (fun a ha=>?_) (fun a ha=>?_) (by simp) (fun k u hu=>?_)
  ·have dJ:∀k t,tbl b k=dS t→(fun j=>if j=d' then dS y else tbl b j) k=dS t:=fun k t hk=>by
    show(if k=d' then dS y else tbl b k)=dS t;rw[if_neg]
    ·exact hk
    ·intro e;rw[e,n2]at hk;cases hk
   have dM:∀a∈Q++[z]++[pw (mul (suf x 0)) (zeros (suf x 0).length) y (at0 x.zA d').toNat]++W,V (suf x 0) a:=fun a ha=>by
    simp only[Jv,List.mem_singleton]at ha;rcases ha with((ha|rfl)|rfl)|ha
    ·exact(hW.q a (by simp[ha])).1
    ·exact hz
    ·exact mW
    ·exact(W3 a ha).1
   have:=sf.g k (Q++[z]++[pw (mul (suf x 0)) (zeros (suf x 0).length) y (at0 x.zA d').toNat]++W) dM hk (.x (.inr ⟨by simp,fun j hj fD=>sf.d k hk j hj fD⟩));exact this.tr dJ fun a ha k hk=>.x (.inr ⟨ha,hk⟩)
  ·simp only[Jv,List.mem_singleton]at ha
   rcases ha with((ha|rfl)|rfl)|ha
   ·exact hW.q a (by simp[ha])
   ·exact⟨hz,mV⟩
   ·exact⟨mW,ca.pw _⟩
   ·obtain⟨a1,k,u,a2,a3⟩:=W3 a ha
    have hu:=(hW.t.h a2).2.1;refine⟨a1,Gen.right G hL (.m ca (hW.th a2)) a1 ?_⟩;rw[a3];exact .m (hW.th a2) ca
  ·simp only[Jq]at ha
   rcases ha with rfl|ha
   ·exact .inl rfl
   ·exact .inr (by simp[ha])
  ·obtain⟨w,w1,w2⟩:=W4 k u hu
   exact⟨w,by simp[w1],.inr w2⟩
 ·rw[show(((d':Nat):Int)==(z.length:Int))=dU from by simp;omega,zI]
  refine⟨b,g,Q,rfl,hb,?_,.inl ⟨rfl,rfl,rfl⟩⟩;have ag:z=zeros (suf x 0).length:=F.ex hz G.ein fun j hj=>by have e0:=F.e0 hj;rw[e0,s4 j (by omega)]
  refine Wl.drop hW (x:=q) (fun k hk=>?_) (fun a ha=>by simp[ha]) (fun a ha=>by simpa using ha);exact sf.g k Q (fun a ha=>(hW.q a (by simp[ha])).1) hk (by rw[ag];exact .one)
theorem zQC{L:Vec→Prop}(hL:∀a,L a→V (suf x 0) a){b:Mx}(hb:b.length=x.zA.length){M:Mx}(hW:WlB x L b M)(hM:M.length≤1000):
  ∃(g:Bool)(b':Mx),f_N ⟨x,b⟩ M=dS (g,⟨x,b'⟩)∧b'.length=x.zA.length∧WlB x L b' []∧(b'=b∧g=dV∨zBf b'<zBf b∧g=dU):=by
 have h6:=h.os.1;obtain⟨r,r1,b',g,rfl,r2,r3,r4⟩:=vU (body:=zRl) (Q:=fun r=> ∃(b':Mx)(g:Bool),r=(x,b',g)∧b'.length=x.zA.length∧WlB x L b' []∧(b'=b∧g=dV∨zBf b'<zBf b∧g=dU))
  (fun s=> ∃(b1:Mx)(g:Bool)(Q:Mx),s=(x,b1,g,Q)∧b1.length=x.zA.length∧WlB x L b1 Q∧zBf b1*20+Q.length≤2000∧(b1=b∧g=dV∨zBf b1<zBf b∧g=dU)) (fun s=>zBf s.2.1*20+s.2.2.2.length) (fun s hs=>by
   obtain⟨b1,g,Q,rfl,hb,hW,hm,hg⟩:=hs;cases Q with
   |nil=>
    right;unfold zRl;simp only
    rw[show decide ((([]:Mx).length:Int)> 0)=dV from rfl,zH];exact⟨_,rfl,b1,g,rfl,hb,hW,hg⟩
   |cons q Q=>
    left;simp only[Jj]at hm;obtain⟨b',g',Q',e1,e2,e3,e4⟩:=zTf h hc hL hb hW (g:=g) (by omega);refine⟨_,e1,⟨b',g',Q',rfl,e2,e3,?_,?_⟩,?_⟩
    ·rcases e4 with⟨rfl,rfl,_⟩|⟨e4,e5,_⟩<;>omega
    ·rcases e4 with⟨rfl,rfl,rfl⟩|⟨e4,e5,rfl⟩
     ·exact hg
     ·right
      refine⟨?_,rfl⟩;rcases hg with⟨rfl,_⟩|⟨hg,_⟩<;>omega
    ·simp only[Jj]
     rcases e4 with⟨rfl,rfl,_⟩|⟨e4,e5,_⟩<;>omega) 100000 (x,b,dV,M) (by have:=zD6 b;simp only;omega) ⟨b,dV,M,rfl,hb,hW,by have:=zD6 b;omega,.inl ⟨rfl,rfl⟩⟩
 refine⟨g,b',?_,r2,r3,r4⟩;unfold f_N zUv;rw[zS (by simp only[U5];omega),bs,bs,K6,r1,bs]
theorem zMp{L:Vec→Prop}(hL:∀a,L a→V (suf x 0) a){b:Mx}(hb:b.length=x.zA.length){M:Mx}(hW:WlB x L b M)(hM:M.length≤1000):
  ∃(g:Bool)(b':Mx),f_N ⟨x,b⟩ M=dS (g,⟨x,b'⟩)∧b'.length=x.zA.length∧WlB x L b' []:=by
 obtain⟨g,b',e1,e2,e3,_⟩:=zQC h hc hL hb hW hM;exact⟨g,b',e1,e2,e3⟩
end
end Go.Pl

namespace Go.Pl
open Go Go.Ab Go.Wk Go.Pc
def wU(C:Nat→Option Vec)(k l:Nat):Mx:=(G7 k l).filterMap C
def zDg(C:Nat→Option Vec)(k l:Nat):List Int:=(G7 k l).filterMap fun j=>(C j).map fun _=>(j:Int)
theorem zD7{C:Nat→Option Vec}{k l:Nat}(h:C k=dT):wU C k (l+1)=wU C (k+1) l:=by simp only[wU,Hi,Ha,h]
theorem zD8{C:Nat→Option Vec}{k l:Nat}{t:Vec}(h:C k=dS t):wU C k (l+1)=t::wU C (k+1) l:=by simp only[wU,Hi,Ha,h]
theorem zFR{C:Nat→Option Vec}{k l:Nat}(h:C k=dT):zDg C k (l+1)=zDg C (k+1) l:=by simp only[zDg,Hi,Ha,h,Ja3]
theorem zFS{C:Nat→Option Vec}{k l:Nat}{t:Vec}(h:C k=dS t):zDg C k (l+1)=(k:Int)::zDg C (k+1) l:=by simp only[zDg,Hi,Ha,h,Hh]
theorem zIj{C D:Nat→Option Vec}:∀(l k:Nat),(∀j,k≤j→C j=D j)→wU C k l=wU D k l
 |0,_,_=>rfl
 |l+1,k,h=>by
  have ih:=zIj l (k+1) fun j hj=>h j (by omega)
  cases hc:C k with
  |none=>rw[zD7 hc,zD7 (by rw[←h k (Jd _)];exact hc),ih]
  |some t=>rw[zD8 hc,zD8 (by rw[←h k (Jd _)];exact hc),ih]
theorem zIk(C:Nat→Option Vec)(k l:Nat):(wU C k l).length≤l:=by
 have:=List.length_filterMap_le C (G7 k l)
 rwa [List.length_range']at this
theorem zFh{α:Type}{u:List α}{i:Nat}{a:α}{v:List α}(h:u.drop i=a::v):i<u.length∧ixO u (i:Int)=dS a∧u.drop (i+1)=v:=by
 have hi:i<u.length:=by apply Classical.byContradiction;intro g;rw[Gl (by omega)]at h;cases h
 rw[Ga hi]at h;injection h with h1 h2;exact⟨hi,by rw[vC,J6 hi,h1],h2⟩
theorem zQD{v:List Int}{d:Nat}(hd:d<v.length)(hl:v.length≤1000)(hz:∀j,j<d→at0 v j=0)(h1:at0 v d=1):zQY v=dS (d:Int):=by
 obtain⟨r,r1,rfl⟩:=uF (body:=zGt v) (Q:=fun r=>r=.inr (d:Int)) (fun i s=>s=(i:Int)) d (fun i s hi hs=>by
  subst hs;left;unfold zGt zQX;rw[yJ (by omega),zI,zR 0 (by omega),bs,bs,show v.getD i 0=0 from hz i hi,show((0:Int) != 0)=dV from rfl,zH,zF (by omega) (by omega),bs,cs];exact⟨_,rfl,rfl⟩) (fun s hs=>by
  subst hs;unfold zGt zQX;rw[yJ hd,zI,zR 0 hd,bs,bs,show v.getD d 0=1 from h1,show((1:Int) != 0)=dU from rfl,zI];exact⟨_,rfl,rfl⟩) (s:=0) rfl
 unfold zQY;rw[r1,bs]
section
variable {x:SPr} (h:Pres x) (hc:vM (suf x 0)) {C:Nat→Option Vec} (hC:∀{j t},C j=dS t→j<x.zA.length∧V (suf x 0) t∧(∀i,i<j→at0 t i=0)∧at0 t j=1)
 include h hc hC
theorem zIl:∀(l k i:Nat)(u:Mx)(acc:List Int),k+l=x.zA.length→u.drop i=wU C k l→u.length≤1000→acc.length≤i→i≤u.length→zE (zIE u) (acc,(i:Int))=dS (acc++zDg C k l)
 |0,k,i,u,acc,hk,hu,hl,ha,hi=>by
  have:i=u.length:=by have:=congrArg Uz hu;rw[Kv]at this;simp[wU]at this;omega
  subst this;rw[yG];unfold zIE;simp only
  rw[tH,zH];simp[zDg]
 |l+1,k,i,u,acc,hk,hu,hl,ha,hi=>by
  have h6:=h.os.1;cases ht:C k with
  |none=>
   rw[zD7 ht]at hu;rw[zFR ht];exact zIl l (k+1) i u acc (by omega) hu hl ha hi
  |some t=>
   rw[zD8 ht]at hu;obtain⟨a1,a2,a3⟩:=zFh hu;obtain⟨c1,c2,c3,c4⟩:=hC ht;have fQ:=zEw h hc c2;rw[yG];unfold zIE;simp only
   rw[yJ a1,zI,a2,bs,zQD (by omega) (by omega) c3 c4,bs,zS (by simp only[Jb];omega),bs,zF (by omega) (by omega),bs,cs];have:=zIl l (k+1) (i+1) u (acc++[(k:Int)]) (by omega) a3 hl (by simp only[J7,Jb];omega) (by omega);unfold zIE at this;simp only at this ⊢
   rw[this,zFS ht,Ji];rfl
theorem zMq(k l:Nat)(hk:k+l=x.zA.length):f_W (wU C k l)=dS (zDg C k l):=by have h6:=h.os.1;have:=zIl h hc hC l k 0 (wU C k l) [] hk rfl (by have:=zIk C k l;omega) (by simp) (by omega);unfold f_W;rw[show zE (zIE (wU C k l)) ([],0)=dS (zDg C k l)from by simpa using this,bs]
theorem zJ7{u:Mx}{s:List Int×Int}{j:Nat}{t y:Vec}(ht:C j=dS t)(hu:ixO u s.2=dS t)(hy:V (suf x 0) y):∃z,(∀{Y:Vec→Prop},Gen (V (suf x 0)) (mul (suf x 0)) (zeros (suf x 0).length) Y t→Gen (V (suf x 0)) (mul (suf x 0)) (zeros (suf x 0).length) Y z)∧
  V (suf x 0) z∧(∀i,i<j→at0 z i=0)∧at0 (mul (suf x 0) y z) j=0∧zE (zRm x u s (j:Int)) y=dS (mul (suf x 0) y z):=by
 have F:=zFg h hc;have G:=g0 h hc;obtain⟨c1,c2,c3,c4⟩:=hC ht;have hr:=F.r hy c1;have eI:=(h.os.2 j c1).pos;obtain⟨n,hn⟩:∃n:Nat,(at0 y j=0∧n=0)∨(at0 y j≠0∧(n:Int)=at0 x.zA j-at0 y j):=by
  by_cases e:at0 y j=0
  ·exact⟨0,.inl ⟨e,rfl⟩⟩
  ·exact⟨(at0 x.zA j-at0 y j).toNat,.inr ⟨e,by omega⟩⟩
 have hp:=fun a=>F.pw1 c1 c2 c3 c4 a
 have bS:∀a,at0 (mul (suf x 0) y (pw (mul (suf x 0)) (zeros (suf x 0).length) t a)) j=(at0 y j+a)%at0 x.zA j:=fun a=>by have:=(F.ad hy (hp a).1 c1 (hp a).2.1).2;rw[this,(hp a).2.2,Int.add_emod_emod]
 have hV:∀a,V (suf x 0) (mul (suf x 0) y (pw (mul (suf x 0)) (zeros (suf x 0).length) t a)):=fun a=>G.cl hy (hp a).1
 refine⟨pw (mul (suf x 0)) (zeros (suf x 0).length) t n,fun g=>g.pw n,(hp n).1,(hp n).2.1,?_,?_⟩
 ·rw[bS]
  rcases hn with⟨e,rfl⟩|⟨e,hn⟩
  ·rw[e];simp
  ·rw[hn,show at0 y j+(at0 x.zA j-at0 y j)=at0 x.zA j from by omega,U6]
 ·have:=zP (body:=zRm x u s (j:Int)) (r:=mul (suf x 0) y (pw (mul (suf x 0)) (zeros (suf x 0).length) t n)) (fun a=>mul (suf x 0) y (pw (mul (suf x 0)) (zeros (suf x 0).length) t a)) n (fun a ha=>by
   have tf:=hV a;unfold zRm;rw[zR 0 (by rw[zEw h hc tf];exact c1),bs];rw[show Ud (mul (suf x 0) y (pw (mul (suf x 0)) (zeros (suf x 0).length) t a)) j 0=(at0 y j+a)%at0 x.zA j from bS a];have gc:(at0 y j+a)%at0 x.zA j≠0:=by
    rcases hn with⟨e,rfl⟩|⟨e,hn⟩
    ·omega
    ·rw[Jr (by omega) (by omega)];omega
   rw[show((at0 y j+a)%at0 x.zA j != 0)=dU from by simpa using gc,zI,hu,bs,tv0 h hc tf c2,bs];have e1:mul (suf x 0) (mul (suf x 0) y (pw (mul (suf x 0)) (zeros (suf x 0).length) t a)) t=mul (suf x 0) y (pw (mul (suf x 0)) (zeros (suf x 0).length) t (a+1)):=by
    rw[G.assoc hy (hp a).1 c2]
    congr 1
    rw[pw,pw,vS]
   rw[e1]) (by
   have tf:=hV n;unfold zRm;rw[zR 0 (by rw[zEw h hc tf];exact c1),bs];rw[show Ud (mul (suf x 0) y (pw (mul (suf x 0)) (zeros (suf x 0).length) t n)) j 0=0 from by
    have:=bS n;rw[show Ud (mul (suf x 0) y (pw (mul (suf x 0)) (zeros (suf x 0).length) t n)) j 0=(at0 y j+n)%at0 x.zA j from this];rcases hn with⟨e,rfl⟩|⟨e,hn⟩
    ·rw[e];simp
    ·rw[hn,show at0 y j+(at0 x.zA j-at0 y j)=at0 x.zA j from by omega,U6]]
   rw[show((0:Int) != 0)=dV from rfl,zH])
  have e0:mul (suf x 0) y (pw (mul (suf x 0)) (zeros (suf x 0).length) t 0)=y:=G.oner hy;rw[e0]at this;exact this
theorem zOa{L:Vec→Prop}{d:Nat}(hL:∀{j t},C j=dS t→Gen (V (suf x 0)) (mul (suf x 0)) (zeros (suf x 0).length) L t){u:Mx}{P:List Int}:∀(l k i:Nat)(y:Vec),d<k→k+l=x.zA.length→u.drop i=wU C k l→P.drop i=zDg C k l→i≤P.length→i+l≤1000→
  Rd (V (suf x 0)) (mul (suf x 0)) (zeros (suf x 0).length) x.zA.length (fun v j=>at0 v j) L C d k y→
  ∃r,zE (zI0 x u P) (y,(i:Int))=dS r∧Rd (V (suf x 0)) (mul (suf x 0)) (zeros (suf x 0).length) x.zA.length (fun v j=>at0 v j) L C d x.zA.length r
 |0,k,i,y,hdk,hk,hu,hP,hi,eS,hR=>by
  have:i=P.length:=by have:=congrArg Uz hP;rw[Kv]at this;simp[zDg]at this;omega
  subst this;have e:k=x.zA.length:=by omega
  rw[e]at hR;refine⟨y,?_,hR⟩;rw[yG];unfold zI0;simp only
  rw[tH,zH]
 |l+1,k,i,y,hdk,hk,hu,hP,hi,eS,hR=>by
  have h6:=h.os.1;have F:=zFg h hc;cases ht:C k with
  |none=>
   rw[zD7 ht]at hu;rw[zFR ht]at hP;exact zOa hL l (k+1) i y (by omega) (by omega) hu hP hi (by omega) (hR.skip (.inl ht))
  |some t=>
   rw[zD8 ht]at hu;rw[zFS ht]at hP;obtain⟨a1,a2,a3⟩:=zFh hu;obtain⟨p1,p2,p3⟩:=zFh hP;obtain⟨z,z1,z2,z3,z4,z5⟩:=zJ7 h hc hC (u:=u) (s:=(y,(i:Int))) ht a2 hR.s;have ac:=hR.step F hdk (by omega) z2 (z1 (hL ht)) z3 z4;obtain⟨r,r1,r2⟩:=zOa hL l (k+1) (i+1) _ (by omega) (by omega) a3 p3 (by omega) (by omega) ac;have eA:zI0 x u P (y,(i:Int))=dS (.inl (mul (suf x 0) y z,((i+1:Nat):Int))):=by
    unfold zI0;simp only
    rw[yJ p1,zI,p2,bs,z5,bs,zF (by omega) (by omega),bs,cs]
   exact⟨r,by rw[yG,eA];exact r1,r2⟩
end
end Go.Pl

namespace Go.Pl
open Go Go.Ab Go.Wk Go.Pc
section
variable {x:SPr} (h:Pres x) (hc:vM (suf x 0))
abbrev zCc(x:SPr)(L:Vec→Prop):Vec→Prop:=Gen (V (suf x 0)) (mul (suf x 0)) (zeros (suf x 0).length) L
abbrev zFT(x:SPr)(L:Vec→Prop)(C:Nat→Option Vec):Prop:=Pc.Can (e:=zeros (suf x 0).length) (V (suf x 0)) x.zA.length (fun v j=>at0 v j) (zCc x L) C
structure CI (x:SPr) (L:Vec→Prop) (b:Mx) (d:Nat) (C:Nat→Option Vec):Prop where
 c:∀{j t},C j=dS t→j<x.zA.length∧V (suf x 0) t∧(∀i,i<j→at0 t i=0)∧at0 t j=1
 lo:∀{j t},C j=dS t→d≤j
 g:∀{j t},C j=dS t→zCc x L t
 r:∀{j t},C j=dS t→ ∀i,j<i→i<x.zA.length→(C i).isSome=dU→at0 t i=0
 s:∀j,d≤j→(C j).isSome=(tbl b j).isSome
theorem CI.put{L:Vec→Prop}{b:Mx}{d:Nat}{C:Nat→Option Vec}(hI:CI x L b (d+1) C)(hd:d<x.zA.length){t r:Vec}(ht:tbl b d=dS t)(hr:Rd (V (suf x 0)) (mul (suf x 0)) (zeros (suf x 0).length) x.zA.length (fun v j=>at0 v j) L C d x.zA.length r):
  CI x L b d (fun j=>if j=d then dS r else C j)∧wU (fun j=>if j=d then dS r else C j) d (x.zA.length-d)=r::wU C (d+1) (x.zA.length-(d+1)):=by
 have key:∀{j t},(if j=d then dS r else C j)=dS t→(j=d∧t=r)∨(j≠d∧C j=dS t):=fun{j t} hj=>by
  split at hj
  ·rename_i e;cases hj;exact .inl ⟨e,rfl⟩
  ·rename_i e;exact .inr ⟨e,hj⟩
 refine⟨⟨fun hj=>?_,fun hj=>?_,fun hj=>?_,fun hj i hi gN pH=>?_,fun j hj=>?_⟩,?_⟩
 ·rcases key hj with⟨rfl,rfl⟩|⟨_,e⟩
  ·exact⟨hd,hr.s,hr.z,hr.o⟩
  ·exact hI.c e
 ·rcases key hj with⟨rfl,rfl⟩|⟨_,e⟩
  ·exact Jd _
  ·have:=hI.lo e;omega
 ·rcases key hj with⟨rfl,rfl⟩|⟨_,e⟩
  ·exact hr.l
  ·exact hI.g e
 ·replace pH:(if i=d then dS r else C i).isSome=dU:=pH
  rcases key hj with⟨rfl,rfl⟩|⟨_,e⟩
  ·rw[if_neg (by omega)]at pH
   exact hr.r i hi gN pH
  ·have:=hI.lo e
   rw[if_neg (by omega)]at pH;exact hI.r e i hi gN pH
 ·show(if j=d then dS r else C j).isSome=_
  by_cases e:j=d
  ·subst e;rw[if_pos rfl,ht];rfl
  ·rw[if_neg e];exact hI.s j (by omega)
 ·rw[show x.zA.length-d=(x.zA.length-(d+1))+1 from by omega,zD8 (t:=r) (by simp)]
  congr 1
  exact zIj _ _ fun j hj=>by rw[if_neg (by omega)]
theorem CI.skip{L:Vec→Prop}{b:Mx}{d:Nat}{C:Nat→Option Vec}(hI:CI x L b (d+1) C)(hd:d<x.zA.length)(ht:tbl b d=dT):CI x L b d C∧wU C d (x.zA.length-d)=wU C (d+1) (x.zA.length-(d+1)):=by
 have hn:C d=dT:=by
  cases e:C d with
  |none=>rfl
  |some t=>have:=hI.lo e;omega
 refine⟨⟨hI.c,fun e=>by have:=hI.lo e;omega,hI.g,hI.r,fun j hj=>?_⟩,?_⟩
 ·by_cases e:j=d
  ·subst e;rw[hn,ht]
  ·exact hI.s j (by omega)
 ·rw[show x.zA.length-d=(x.zA.length-(d+1))+1 from by omega,zD7 hn]
theorem CI.start{L:Vec→Prop}{b:Mx}(hb:b.length=x.zA.length):CI x L b x.zA.length (fun _=>dT):=
 ⟨(fun e=>by cases e),(fun e=>by cases e),(fun e=>by cases e),(fun e=>by cases e),fun j hj=>by rw[uY.2 (by rw[J4,Qp (by omega)];rfl)]⟩
 include h hc
theorem CI.can{L:Vec→Prop}{b:Mx}{C:Nat→Option Vec}(hI:CI x L b 0 C)(hW:WlB x L b []):zFT x L C:=
 Wl.can (zFg h hc) hW (fun k=>hI.s k (by omega)) fun{k t} e=>by obtain⟨c1,c2,c3,c4⟩:=hI.c e;exact⟨hI.g e,c2,c3,c4,hI.r e⟩
theorem zTg{L:Vec→Prop}{b:Mx}{d:Nat}{C:Nat→Option Vec}(hI:CI x L b (d+1) C)(hd:d<x.zA.length){t:Vec}(hT:V (suf x 0) t)(hg:zCc x L t)(hz:∀i,i<d→at0 t i=0)(h1:at0 t d=1):
  ∃r,f_x x (wU C (d+1) (x.zA.length-(d+1))) t=dS r∧Rd (V (suf x 0)) (mul (suf x 0)) (zeros (suf x 0).length) x.zA.length (fun v j=>at0 v j) L C d x.zA.length r:=by
 have h6:=h.os.1;have gI:f_K t=dS t:=by
  have:=zHF h (k:=0) (by omega) hc hT
  rwa [fv0]at this
 obtain⟨r,r1,r2⟩:=zOa h hc (C:=C) (fun e=>hI.c e) (L:=L) (d:=d) (fun e=>hI.g e) (u:=wU C (d+1) (x.zA.length-(d+1))) (P:=zDg C (d+1) (x.zA.length-(d+1))) (x.zA.length-(d+1)) (d+1) 0 t (by omega) (by omega) rfl rfl (by omega) (by omega)
  ⟨hT,hg,hz,h1,fun i hi eS=>by omega⟩
 refine⟨r,?_,r2⟩;unfold f_x;rw[gI,bs,zMq h hc (C:=C) (fun e=>hI.c e) (d+1) _ (by omega),bs];have r1':zE (zI0 x (wU C (d+1) (x.zA.length-(d+1))) (zDg C (d+1) (x.zA.length-(d+1)))) (t,0)=dS r:=r1;rw[r1',bs]
theorem zIm{L:Vec→Prop}{b:Mx}(hb:b.length=x.zA.length)(hW:WlB x L b []):∃C,zUw ⟨x,b⟩=dS (wU C 0 x.zA.length)∧zFT x L C:=by
 have h6:=h.os.1;obtain⟨r,r1,C,rfl,r2⟩:=vU (body:=zPP ⟨x,b⟩) (Q:=fun r=> ∃C,r=wU C 0 x.zA.length∧CI x L b 0 C)
  (fun s=> ∃(d:Nat)(C:Nat→Option Vec),s=(wU C d (x.zA.length-d),(d:Int)-1)∧d≤x.zA.length∧CI x L b d C) (fun s=>(s.2+1).toNat) (fun s hs=>by
   obtain⟨d,C,rfl,hd,hI⟩:=hs;unfold zPP;simp only
   cases d with
   |zero=>
    right;rw[show decide (((0:Nat):Int)-1≥0)=dV from rfl,zH];exact⟨_,rfl,C,rfl,hI⟩
   |succ d=>
    left;rw[show(((d+1:Nat):Int)-1)=(d:Int)from by omega,show decide ((d:Int)≥0)=dU from dX (by omega),zI,zR [] (by omega),bs];cases ht:b.getD d []with
    |nil=>
     obtain⟨i1,i2⟩:=hI.skip (by omega) (uY.2 ht);rw[show(!(([]:List Int)).isEmpty)=dV from rfl,zH,zF (by omega) (by omega),bs];exact⟨_,rfl,⟨d,C,by rw[i2],by omega,i1⟩,by simp only;omega⟩
    |cons t0 ts=>
     have eF:tbl b d=dS (t0::ts):=qW.2 ⟨ht,by simp⟩;obtain⟨t1,t2,t3,t4⟩:=hW.t.h eF;obtain⟨r,e1,e2⟩:=zTg h hc hI (by omega) t2 (hW.th eF) t3 t4;obtain⟨i1,i2⟩:=hI.put (by omega) eF e2;rw[show(!((t0::ts)).isEmpty)=dU from rfl,zI,bs,e1,bs,zS (by have:=zIk C (d+1) (x.zA.length-(d+1));simp only[Jb];omega),bs,zF (by omega) (by omega),bs];exact⟨_,rfl,⟨d,_,by rw[i2];rfl,by omega,i1⟩,by simp only;omega⟩) 1000 ([],(x.zA.length:Int)-1) (by simp only;omega) ⟨x.zA.length,fun _=>dT,by simp[wU],Jd _,CI.start hb⟩
 refine⟨C,?_,r2.can h hc hW⟩;unfold zUw;simp only
 rw[hb,zF (by omega) (by omega),bs,r1,bs]
theorem zFU{M:Mx}(hM:∀a∈M,V (suf x 0) a):WlB x (· ∈M) (J1 x.zA.length []) M:=by
 have e:tbl (J1 x.zA.length [])=fun _=>dT:=by
  funext k
  rw[uY,J4,Jp];split<;>rfl
 have _:=h;have _:=hc;rw[WlB,e];exact Wl.start M hM
theorem zIn{M:Mx}(hM:∀a∈M,V (suf x 0) a)(hl:M.length≤1000):∃C,zW9 x M=dS (wU C 0 x.zA.length)∧zFT x (· ∈M) C:=by have h6:=h.os.1;obtain⟨g,b,e1,e2,e3⟩:=zMp h hc (L:=(· ∈M)) (fun a ha=>hM a ha) (b:=J1 x.zA.length []) (by simp) (zFU h hc hM) hl;obtain⟨C,c1,c2⟩:=zIm h hc e2 e3;refine⟨C,?_,c2⟩;unfold zW9 zUu;rw[yF (by omega),bs,bs,e1,bs,c1,bs]
end
end Go.Pl

namespace Go.Pl
open Go Go.Ab Go.Wk Go.Pc
theorem zWc{C:Nat→Option Vec}(k l:Nat):wU C k (l+1)=wU C k l++(match C (k+l)with
  |none=>[]
  |some t=>[t]):=by
 unfold wU;rw[List.range'_1_concat,List.filterMap_append]
 congr 1
 cases h:C (k+l)<;>simp[h]
section
variable {x:SPr} (h:Pres x) (hc:vM (suf x 0))
 include h hc
theorem zJ8{b:Mx}{d:Nat}{t y:Vec}(hd:d<x.zA.length)(ht:V (suf x 0) t)(zt:∀j,j<d→at0 t j=0)(h1:at0 t d=1)(hy:V (suf x 0) y)(hn:at0 y d≠0)(hb:b.getD d []=t):
  ∃z,zIF x t (0-at0 y d)=dS z∧V (suf x 0) z∧(∀{Y:Vec→Prop},(∀a,Y a→V (suf x 0) a)→zCc x Y t→zCc x Y z)∧(∀j,j<d→at0 z j=0)∧at0 (mul (suf x 0) y z) d=0:=by
 have F:=zFg h hc;have hr:=F.r hy hd;have eI:=(h.os.2 d hd).pos;have _:=hb;obtain⟨u,u1,u2,u3⟩:=yBM h hc ht (e:=at0 y d) (by have:=hr.1;omega) (by have:=hr.2;omega);obtain⟨k1,k2,k3⟩:=F.killr hd ht u1 u2 zt h1 hy;exact⟨_,by rw[show(0:Int)-at0 y d= -at0 y d from by omega];exact u3,k1,fun _ g=>(Gen.i g u1 u2).pw _,k2,k3⟩
theorem zOb{b:Mx}(hb:b.length=x.zA.length)(hT:Tab (V (suf x 0)) x.zA.length (fun v d=>at0 v d) (tbl b)){y:Vec}(hy:V (suf x 0) y):∃(z:Vec)(d:Nat),zW4 x b y=dS ((d:Int),z)∧
  Sf (V (suf x 0)) (mul (suf x 0)) (zeros (suf x 0).length) x.zA.length (fun v d=>at0 v d) (tbl b) y z∧d≤x.zA.length∧(∀j,j<d→at0 z j=0)∧(d<x.zA.length→at0 z d≠0∧tbl b d=dT):=by
 have h6:=h.os.1;have F:=zFg h hc;obtain⟨r,r1,r2⟩:=uF (body:=zNb x b) (Q:=fun r=>match r with
   |.inl z=>Sf (V (suf x 0)) (mul (suf x 0)) (zeros (suf x 0).length) x.zA.length (fun v d=>at0 v d) (tbl b) y z∧ ∀j,j<x.zA.length→at0 z j=0
   |.inr p=> ∃(z:Vec)(d:Nat),p=((d:Int),z)∧Sf (V (suf x 0)) (mul (suf x 0)) (zeros (suf x 0).length) x.zA.length (fun v d=>at0 v d) (tbl b) y z∧d<x.zA.length∧(∀j,j<d→at0 z j=0)∧at0 z d≠0∧tbl b d=dT)
  (fun d s=> ∃z:Vec,s=(z,(d:Int))∧Sf (V (suf x 0)) (mul (suf x 0)) (zeros (suf x 0).length) x.zA.length (fun v d=>at0 v d) (tbl b) y z∧ ∀j,j<d→at0 z j=0) x.zA.length (fun d s hd hs=>by
   obtain⟨z,rfl,sf,z0⟩:=hs;have hz:=sf.s;have cV:=zEw h hc hz;unfold zNb;simp only
   rw[show decide ((d:Int)<(b.length:Int))=dU from dX (by omega),zI,zR 0 (by omega),bs]
   by_cases h0:at0 z d=0
   ·left
    rw[show z.getD d 0=0 from h0,show((0:Int)==0)=dU from rfl,zI,zF (by omega) (by omega),bs,cs];refine⟨_,rfl,z,rfl,sf,fun j hj=>?_⟩
    by_cases e:j=d
    ·rw[e];exact h0
    ·exact z0 j (by omega)
   ·rw[show(z.getD d 0==0)=dV from by simpa using h0,zH,zR [] (by omega),bs]
    cases ht:b.getD d []with
    |nil=>
     right;rw[show(((([]:List Int)).length:Int)==0)=dU from rfl,zI];exact⟨_,rfl,z,d,rfl,sf,hd,z0,h0,uY.2 ht⟩
    |cons t0 ts=>
     left;have eF:tbl b d=dS (t0::ts):=qW.2 ⟨ht,by simp⟩;obtain⟨_,t2,t3,t4⟩:=hT.h eF;obtain⟨w,w1,w2,w3,w4,w5⟩:=zJ8 h hc hd t2 t3 t4 hz h0 ht;obtain⟨s1,s2⟩:=Sf.right F hT hd hz z0 h0 eF w3 w2 w4 w5;have hr:=F.r hz hd;have eI:=(h.os.2 d hd).pos;rw[show((((t0::ts):List Int).length:Int)==0)=dV from by simp;omega,zH,bs,bs];rw[show z.getD d 0=at0 z d from rfl,zF (by have:=hr.2;omega) (by have:=hr.1;omega),bs,w1,bs,zJ6 h hc hz w2,bs,zF (by omega) (by omega),bs,cs];exact⟨_,rfl,_,rfl,sf.trans s1,s2⟩) (fun s hs=>by
   obtain⟨z,rfl,sf,z0⟩:=hs;unfold zNb;simp only
   rw[show decide ((x.zA.length:Int)<(b.length:Int))=dV from dW (by omega),zH];exact⟨_,rfl,sf,z0⟩) (s:=(y,0)) ⟨y,rfl,Sf.refl hy,fun j hj=>by omega⟩
 unfold zW4;rw[wF (by rw[zEw h hc hy];omega),bs,r1,bs];cases r with
 |inl z=>exact⟨z,x.zA.length,by simp only[hb],r2.1,Jd _,r2.2,fun hh=>absurd hh (Ja4 _)⟩
 |inr p=>
  obtain⟨z,d,rfl,p1,p2,p3,p4,p5⟩:=r2;exact⟨z,d,rfl,p1,by omega,p3,fun _=>⟨p4,p5⟩⟩
theorem zOc{b:Mx}(hb:b.length=x.zA.length)(hT:Tab (V (suf x 0)) x.zA.length (fun v d=>at0 v d) (tbl b)){y:Vec}(hy:V (suf x 0) y){d:Nat}(hd:d<x.zA.length)(hn:tbl b d=dT){s:Mx×Mx}(hs:s.1=b){g:Int×List Int}(hg:g.1=(d:Int)){Q:Mx}(hQ:Q.length≤100000):
  ∃W:Mx,zE (zRi x s g y) (Q,0)=dS (Q++W)∧W.length≤x.zA.length∧(∀w∈W,V (suf x 0) w∧ ∃k u,tbl b k=dS u∧mul (suf x 0) (mul (suf x 0) u y) w=mul (suf x 0) y u)∧
   ∀k u,tbl b k=dS u→ ∃w,w∈W∧mul (suf x 0) (mul (suf x 0) u y) w=mul (suf x 0) y u:=by
 have h6:=h.os.1;obtain⟨r,r1,W,rfl,r2,r3,r4⟩:=uF (body:=zRi x s g y)
  (Q:=fun r=> ∃W:Mx,r=Q++W∧W.length≤x.zA.length∧(∀w∈W,V (suf x 0) w∧ ∃k u,tbl b k=dS u∧mul (suf x 0) (mul (suf x 0) u y) w=mul (suf x 0) y u)∧
   ∀k u,tbl b k=dS u→ ∃w,w∈W∧mul (suf x 0) (mul (suf x 0) u y) w=mul (suf x 0) y u)
  (fun i s=> ∃W:Mx,s=(Q++W,(i:Int))∧W.length≤i∧(∀w∈W,V (suf x 0) w∧ ∃k u,tbl b k=dS u∧mul (suf x 0) (mul (suf x 0) u y) w=mul (suf x 0) y u)∧
   ∀k u,k<i→tbl b k=dS u→ ∃w,w∈W∧mul (suf x 0) (mul (suf x 0) u y) w=mul (suf x 0) y u) x.zA.length (fun i s' hi gM=>by
   obtain⟨W,rfl,w1,w2,w3⟩:=gM;left;unfold zRi;simp only[hs,hg];rw[yJ hi,zI]
   by_cases e:i=d
   ·subst e
    rw[show(((i:Nat):Int) != (i:Int))=dV from by simp,zH,zF (by omega) (by omega),bs,cs];refine⟨_,rfl,W,rfl,by omega,w2,fun k u hk hu=>?_⟩
    by_cases e:k=i
    ·subst e;rw[hn]at hu;cases hu
    ·exact w3 k u (by omega) hu
   ·rw[show(((i:Nat):Int) != (d:Int))=dU from by simp;omega,zI,show((d:Nat):Int).toNat=d from rfl,zR [] (by rw[Kh];omega),bs]
    rw[show(b.set d y).getD i []=b.getD i []from by rw[J4,U2 (fun g=>e g.symm),←J4]];cases ht:b.getD i []with
    |nil=>
     rw[show decide (((([]:List Int)).length:Int)> 0)=dV from rfl,zH,zF (by omega) (by omega),bs,cs];refine⟨_,rfl,W,rfl,by omega,w2,fun k u hk hu=>?_⟩
     by_cases e:k=i
     ·subst e
      rw[uY.2 ht]at hu;cases hu
     ·exact w3 k u (by omega) hu
    |cons t0 ts=>
     have eF:tbl b i=dS (t0::ts):=qW.2 ⟨ht,by simp⟩;obtain⟨_,t2,_,_⟩:=hT.h eF;obtain⟨w,v1,v2,v3⟩:=zZx h hc hy t2;rw[show decide ((((t0::ts):List Int).length:Int)> 0)=dU from dX (by simp only[Jj];omega),zI,v3,bs,zS (by simp only[J7,Jb];omega),bs,zF (by omega) (by omega),bs,cs];refine⟨_,rfl,W++[w],by rw[Ji],by simp only[J7,Jb];omega,fun a ha=>?_,fun k u hk hu=>?_⟩
     ·rcases Jv.1 ha with ha|ha
      ·exact w2 a ha
      ·simp at ha;subst ha
       exact⟨v1,i,_,eF,v2⟩
     ·by_cases e:k=i
      ·subst e
       rw[eF]at hu;cases hu;exact⟨w,by simp,v2⟩
      ·obtain⟨a,a1,a2⟩:=w3 k u (by omega) hu
       exact⟨a,by simp[a1],a2⟩) (fun s' gM=>by
   obtain⟨W,rfl,w1,w2,w3⟩:=gM;unfold zRi;simp only
   rw[tH,zH];exact⟨_,rfl,W,rfl,w1,w2,fun k u hu=>w3 k u (hT.h hu).1 hu⟩) (s:=(Q,0)) ⟨[],by simp,Jd _,by simp,fun k u hk=>by omega⟩
 exact⟨W,r1,r2,r3,r4⟩
theorem zOd{L:Vec→Prop}(hL:∀a,L a→V (suf x 0) a){b:Mx}(hb:b.length=x.zA.length){q:Vec}{Q:Mx}(hW:WlB x L b (Q++[q]))(hQ:Q.length≤10000):
  ∃(b':Mx)(Q':Mx),zRj x (b,Q++[q])=dS (.inl (b',Q'))∧b'.length=x.zA.length∧WlB x L b' Q'∧
   (b'=b∧Q'=Q∨zBf b'+1=zBf b∧Q'.length≤Q.length+x.zA.length+2):=by
 have h6:=h.os.1;have F:=zFg h hc;have G:=g0 h hc;have hq:=hW.q q (by simp);obtain⟨z,d,s1,sf,s3,s4,s5⟩:=zOb h hc hb hW.t hq.1;have hz:=sf.s;have cV:=zEw h hc hz;unfold zRj;simp only
 have gk:((Q++[q]).length:Int)=(Q.length:Int)+1:=by simp
 rw[show decide (((Q++[q]).length:Int)> 0)=dU from dX (by omega),zI,gk,show(Q.length:Int)+1-1=(Q.length:Int)from by omega,zF (by omega) (by omega),bs];rw[show ixO (Q++[q]) (Q.length:Int)=dS q from by rw[vC,Jf (Jd _),L3];rfl,bs];rw[show zL (Q++[q]) 0 (Q.length:Int)=dS Q from by unfold zL;rw[if_pos ⟨by omega,by omega,by omega⟩];simp,bs,s1,bs]
 dsimp only
 by_cases hd:d<x.zA.length
 ·obtain⟨n1,n2⟩:=s5 hd
  have eI:=h.os.2 d hd;have hp7:=eI.pos;have hr:=F.r hz hd;obtain⟨v,v1,v2,v3,v4⟩:=zMe eI (x:=at0 z d) (by have:=hr.1;omega) (by have:=hr.2;omega);have c9:V (suf x 0) (pw (mul (suf x 0)) (zeros (suf x 0).length) z v.toNat):=wZ G.toMon hz _;obtain⟨y,fI⟩:∃y,y=pw (mul (suf x 0)) (zeros (suf x 0).length) z v.toNat:=⟨_,rfl⟩;rw[←fI]at c9;have pJ:=F.pwc hd hz s4 v.toNat;rw[←fI]at pJ;have fP:at0 y d=1:=by have:=pJ.2;rw[this,show((v.toNat:Nat):Int)=v from by omega,Hd];exact v4
  have mW:V (suf x 0) (pw (mul (suf x 0)) (zeros (suf x 0).length) y (at0 x.zA d).toNat):=wZ G.toMon c9 _;have fO:y≠[]:=zIi (d:=d) (by rw[fP];decide);rw[show(((d:Nat):Int)==(x.zA.length:Int))=dV from by simp;omega,zH,zR 0 (by omega),bs,zR 0 hd,bs];rw[show z.getD d 0=at0 z d from rfl,show x.zA.getD d 0=at0 x.zA d from rfl,v1,bs,zYa h hc hz v2 (by omega),bs,←fI,zR [] (by omega),bs,zS (by simp only[Jb];omega),bs];rw[zYa h hc c9 (by omega) (by omega),bs,zS (by simp only[J7,Jb];omega),bs];obtain⟨W,W1,W2,W3,W4⟩:=zOc h hc hb hW.t c9 hd n2 (s:=(b,Q++[q])) rfl (g:=((d:Int),z)) rfl (Q:=Q++[z]++[pw (mul (suf x 0)) (zeros (suf x 0).length) y (at0 x.zA d).toNat]) (by simp only[J7,Jb];omega);rw[W1,bs];refine⟨_,_,rfl,by rw[Kh];exact hb,?_,.inr ⟨zIh b d y (by omega) (uY.1 n2) fO,by simp only[J7,Jb];omega⟩⟩;rw[show((d:Nat):Int).toNat=d from rfl];have gx:=zK7 (b:=b) (d:=d) (y:=y) (by omega) fO;have mV:zCc x L z:=sf.h L hL hW.th hq.2;have ca:zCc x L y:=by rw[fI];exact mV.pw _
  rw[WlB,gx];refine Wl.add F hW hd n2 c9 ca pJ.1 fP (x:=q) (fun k hk=>?_) (fun a ha=>?_) (fun a ha=>?_) (by simp) (fun k u hu=>?_)
  ·have dJ:∀k t,tbl b k=dS t→(fun j=>if j=d then dS y else tbl b j) k=dS t:=fun k t hk=>by
    show(if k=d then dS y else tbl b k)=dS t;rw[if_neg]
    ·exact hk
    ·intro e;rw[e,n2]at hk;cases hk
   have dM:∀a∈Q++[z]++[pw (mul (suf x 0)) (zeros (suf x 0).length) y (at0 x.zA d).toNat]++W,V (suf x 0) a:=fun a ha=>by
    simp only[Jv,List.mem_singleton]at ha;rcases ha with((ha|rfl)|rfl)|ha
    ·exact(hW.q a (by simp[ha])).1
    ·exact hz
    ·exact mW
    ·exact(W3 a ha).1
   have:=sf.g k (Q++[z]++[pw (mul (suf x 0)) (zeros (suf x 0).length) y (at0 x.zA d).toNat]++W) dM hk (.x (.inr ⟨by simp,fun j hj fD=>sf.d k hk j hj fD⟩));exact this.tr dJ fun a ha k hk=>.x (.inr ⟨ha,hk⟩)
  ·simp only[Jv,List.mem_singleton]at ha
   rcases ha with((ha|rfl)|rfl)|ha
   ·exact hW.q a (by simp[ha])
   ·exact⟨hz,mV⟩
   ·exact⟨mW,ca.pw _⟩
   ·obtain⟨a1,k,u,a2,a3⟩:=W3 a ha
    refine⟨a1,Gen.right G hL (.m (hW.th a2) ca) a1 ?_⟩;rw[a3];exact .m ca (hW.th a2)
  ·simp only[Jv,List.mem_singleton]at ha
   rcases ha with ha|rfl
   ·exact .inr (by simp[ha])
   ·exact .inl rfl
  ·obtain⟨w,w1,w2⟩:=W4 k u hu
   exact⟨w,by simp[w1],.inl w2⟩
 ·rw[show(((d:Nat):Int)==(x.zA.length:Int))=dU from by simp;omega,zI]
  refine⟨b,Q,rfl,hb,?_,.inl ⟨rfl,rfl⟩⟩;have ag:z=zeros (suf x 0).length:=F.ex hz G.ein fun j hj=>by have e0:=F.e0 hj;rw[e0,s4 j (by omega)]
  refine Wl.drop hW (x:=q) (fun k hk=>?_) (fun a ha=>by simp[ha]) (fun a ha=>by simp at ha;rcases ha with ha|ha;exact .inr ha;exact .inl ha);exact sf.g k Q (fun a ha=>(hW.q a (by simp[ha])).1) hk (by rw[ag];exact .one)
end
end Go.Pl

namespace Go.Pl
open Go Go.Ab Go.Wk Go.Pc
section
variable {x:SPr} (h:Pres x) (hc:vM (suf x 0))
 include h hc
theorem zOe{L:Vec→Prop}{b D:Mx}{d:Nat}(hb:b.length=x.zA.length)(hD:D.length=x.zA.length)(hI:CI x L b (d+1) (tbl D))(hd:d<x.zA.length){s:Mx×Int}(hs:s.1=D){t:Vec}(hT:V (suf x 0) t)(hg:zCc x L t)(hz:∀i,i<d→at0 t i=0)(h1:at0 t d=1)(hL:∀a,L a→V (suf x 0) a):
  ∃r,zE (zUt x b s) (t,((d+1:Nat):Int))=dS r∧Rd (V (suf x 0)) (mul (suf x 0)) (zeros (suf x 0).length) x.zA.length (fun v j=>at0 v j) L (tbl D) d x.zA.length r:=by
 have h6:=h.os.1;have F:=zFg h hc;have _:=hL;obtain⟨r,r1,r2⟩:=vU (body:=zUt x b s) (Q:=fun r=>Rd (V (suf x 0)) (mul (suf x 0)) (zeros (suf x 0).length) x.zA.length (fun v j=>at0 v j) L (tbl D) d x.zA.length r)
  (fun st=> ∃(k:Nat)(y:Vec),st=(y,(k:Int))∧d<k∧k≤x.zA.length∧Rd (V (suf x 0)) (mul (suf x 0)) (zeros (suf x 0).length) x.zA.length (fun v j=>at0 v j) L (tbl D) d k y) (fun st=>x.zA.length-st.2.toNat) (fun st gJ=>by
   obtain⟨k,y,rfl,k1,k2,hR⟩:=gJ;have hy:=hR.s;unfold zUt;simp only[hs]
   by_cases hk:k<x.zA.length
   ·left
    rw[show decide ((k:Int)<(b.length:Int))=dU from dX (by omega),zI,zR [] (by omega),bs];cases ht:D.getD k []with
    |nil=>
     rw[show decide (((([]:List Int)).length:Int)> 0)=dV from rfl,zH,zF (by omega) (by omega),bs,cs];exact⟨_,rfl,⟨k+1,y,rfl,by omega,by omega,hR.skip (.inl (uY.2 ht))⟩,by simp only[J8];omega⟩
    |cons t0 ts=>
     have eF:tbl D k=dS (t0::ts):=qW.2 ⟨ht,by simp⟩;obtain⟨_,t2,t3,t4⟩:=hI.c eF;rw[show decide ((((t0::ts):List Int).length:Int)> 0)=dU from dX (by simp only[Jj];omega),zI,zR 0 (by rw[zEw h hc hy];exact hk),bs]
     by_cases h0:at0 y k=0
     ·rw[show(y.getD k 0 != 0)=dV from by simpa using h0,zH,zF (by omega) (by omega),bs,cs]
      exact⟨_,rfl,⟨k+1,y,rfl,by omega,by omega,hR.skip (.inr h0)⟩,by simp only[J8];omega⟩
     ·obtain⟨w,w1,w2,w3,w4,w5⟩:=zJ8 h hc hk t2 t3 t4 hy h0 ht
      have hr:=F.r hy hk;have eI:=(h.os.2 k hk).pos;have hw:zCc x L w:=w3 hL (hI.g eF);rw[show(y.getD k 0 != 0)=dU from by simpa using h0,zI,bs,bs,show y.getD k 0=at0 y k from rfl,zF (by have:=hr.2;omega) (by have:=hr.1;omega),bs,w1,bs,zJ6 h hc hy w2,bs,zF (by omega) (by omega),bs,cs];exact⟨_,rfl,⟨k+1,_,rfl,by omega,by omega,hR.step F k1 hk w2 hw w4 w5⟩,by simp only[J8];omega⟩
   ·right
    have e:k=x.zA.length:=by omega
    subst e;rw[show decide ((x.zA.length:Int)<(b.length:Int))=dV from dW (by omega),zH];exact⟨_,rfl,hR⟩) 1000 (t,((d+1:Nat):Int)) (by simp only;omega) ⟨d+1,t,rfl,by omega,by omega,hT,hg,hz,h1,fun i hi eS=>by omega⟩
 exact⟨r,r1,r2⟩
theorem zTh{D:Mx}(hD:D.length=x.zA.length):zE (zRh D) ([],0)=dS (wU (tbl D) 0 x.zA.length):=by
 have h6:=h.os.1;have _:=hc;have:=zP (body:=zRh D) (r:=wU (tbl D) 0 x.zA.length) (fun i=>(wU (tbl D) 0 i,(i:Int))) x.zA.length (fun i hi=>by
  have hl:=zIk (tbl D) 0 i;unfold zRh;simp only
  rw[show decide ((i:Int)<(D.length:Int))=dU from dX (by omega),zI,zR [] (by omega),bs,zWc,Ja];cases ht:D.getD i []with
  |nil=>
   rw[show decide (((([]:List Int)).length:Int)> 0)=dV from rfl,zH,zF (by omega) (by omega),bs,cs,uY.2 ht];simp
  |cons t0 ts=>
   rw[show decide ((((t0::ts):List Int).length:Int)> 0)=dU from dX (by simp only[Jj];omega),zI,bs,zS (by simp only[Jb];omega),bs,zF (by omega) (by omega),bs,cs,(qW (t:=t0::ts)).2 ⟨ht,by simp⟩]) (by
  unfold zRh;simp only
  rw[show decide ((x.zA.length:Int)<(D.length:Int))=dV from dW (by omega),zH])
 exact this
theorem zQE{L:Vec→Prop}(hL:∀a,L a→V (suf x 0) a){b:Mx}(hb:b.length=x.zA.length)(hW:WlB x L b []):∃C,f_J x b=dS (wU C 0 x.zA.length)∧zFT x L C:=by
 have h6:=h.os.1;have e0:tbl (J1 x.zA.length [])=fun _=>dT:=by
  funext k
  rw[uY,J4,Jp];split<;>rfl
 obtain⟨D,r1,r2,r3⟩:=vU (body:=zW6 x b) (Q:=fun D=>D.length=x.zA.length∧CI x L b 0 (tbl D))
  (fun s=> ∃(d:Nat)(D:Mx),s=(D,(d:Int)-1)∧d≤x.zA.length∧D.length=x.zA.length∧CI x L b d (tbl D)) (fun s=>(s.2+1).toNat) (fun s hs=>by
   obtain⟨d,D,rfl,hd,hD,hI⟩:=hs;unfold zW6;simp only
   cases d with
   |zero=>
    right;rw[show decide (((0:Nat):Int)-1≥0)=dV from rfl,zH];exact⟨_,rfl,hD,hI⟩
   |succ d=>
    left;rw[show(((d+1:Nat):Int)-1)=(d:Int)from by omega,show decide ((d:Int)≥0)=dU from dX (by omega),zI,zR [] (by omega),bs];cases ht:b.getD d []with
    |nil=>
     obtain⟨i1,_⟩:=hI.skip (by omega) (uY.2 ht);rw[show(((([]:List Int)).length:Int)==0)=dU from rfl,zI,zF (by omega) (by omega),bs];exact⟨_,rfl,⟨d,D,rfl,by omega,hD,i1⟩,by simp only;omega⟩
    |cons t0 ts=>
     have eF:tbl b d=dS (t0::ts):=qW.2 ⟨ht,by simp⟩;obtain⟨t1,t2,t3,t4⟩:=hW.t.h eF;obtain⟨r,e1,e2⟩:=zOe h hc hb hD hI (by omega) (s:=(D,(d:Int))) rfl t2 (hW.th eF) t3 t4 hL;obtain⟨i1,_⟩:=hI.put (by omega) eF e2;have aA:r≠[]:=zIi (d:=d) (by have:=e2.o;rw[this];decide);rw[show((((t0::ts):List Int).length:Int)==0)=dV from by simp;omega,zH,bs,zF (by omega) (by omega),bs,cs,e1,bs,zR [] (by omega),bs,zF (by omega) (by omega),bs,show((d:Nat):Int).toNat=d from rfl];refine⟨_,rfl,⟨d,_,rfl,by omega,by rw[Kh];exact hD,?_⟩,by simp only;omega⟩;rw[zK7 (by omega) aA];exact i1) 1000 (J1 x.zA.length [],(x.zA.length:Int)-1) (by simp only;omega) ⟨x.zA.length,_,rfl,Jd _,by simp,by rw[e0];exact CI.start hb⟩
 refine⟨tbl D,?_,r3.can h hc hW⟩;unfold f_J;rw[hb,yF (by omega),bs,zF (by omega) (by omega),bs,r1,bs,zTh h hc r2,bs]
theorem zOf{M:Mx}(hM:∀a∈M,V (suf x 0) a)(hl:M.length≤1000):∃C,f_Y x M=dS (wU C 0 x.zA.length)∧zFT x (· ∈M) C:=by
 have h6:=h.os.1;obtain⟨b,r1,r2,r3⟩:=vU (body:=zRj x) (Q:=fun b=>b.length=x.zA.length∧WlB x (· ∈M) b [])
  (fun s=> ∃(b Q:Mx),s=(b,Q)∧b.length=x.zA.length∧WlB x (· ∈M) b Q∧zBf b*20+Q.length≤2000) (fun s=>zBf s.1*20+s.2.length) (fun s hs=>by
   obtain⟨b,Q,rfl,hb,hW,hm⟩:=hs;rcases List.eq_nil_or_concat Q with rfl|⟨Q,q,rfl⟩
   ·right
    unfold zRj;simp only
    rw[show decide ((([]:Mx).length:Int)> 0)=dV from rfl,zH];exact⟨_,rfl,hb,hW⟩
   ·left
    rw[List.concat_eq_append]at hW hm ⊢
    simp only[J7,Jb]at hm;obtain⟨b',Q',e1,e2,e3,e4⟩:=zOd h hc (L:=(· ∈M)) (fun a ha=>hM a ha) hb hW (by omega);refine⟨_,e1,⟨b',Q',rfl,e2,e3,?_⟩,?_⟩
    ·rcases e4 with⟨rfl,rfl⟩|⟨e4,e5⟩<;>omega
    ·simp only[J7,Jb]
     rcases e4 with⟨rfl,rfl⟩|⟨e4,e5⟩<;>omega) 100000 (J1 x.zA.length [],M) (by have:=zD6 (J1 x.zA.length []);simp only[Kk]at this ⊢;omega) ⟨_,M,rfl,by simp,zFU h hc hM,by have:=zD6 (J1 x.zA.length []);simp only[Kk]at this;omega⟩
 obtain⟨C,c1,c2⟩:=zQE h hc (L:=(· ∈M)) (fun a ha=>hM a ha) r2 r3;refine⟨C,?_,c2⟩;unfold f_Y;rw[yF (by omega),bs,zBZ (by omega) (fun i hi=>by have:=hM (M.getD i []) (by rw[J4,J6 hi];exact Kj hi);rw[zEw h hc this];omega),bs,r1,bs,c1,bs]
end
end Go.Pl

namespace Go.Pl
open Go Go.Ab Go.Wk Go.Pc
end Go.Pl

namespace Go.Pl
open Go Go.Ab Go.Wk Go.Pc
theorem zBg{x:SPr}(h:Pres x){k:Int}(k0:0≤k)(k1:k≤1000000):∃e,zO6 x k=dS e∧zO5 x k=dS e∧V (suf x 0) e:=by
 have h9:=h.os.1;have hP:=h.os.2;obtain⟨e,e1,e2,e3⟩:=vU (body:=zFn x) (Q:=fun e=>e.length=x.zA.length∧ ∀j,j<x.zA.length→0≤at0 e j∧at0 e j≤at0 x.zA j-1)
  (fun s=> ∃(q:Int)(e:Vec)(i:Nat),s=(q,e,(i:Int)-1)∧i≤x.zA.length∧0≤q∧q≤1000000∧e.length=x.zA.length∧ ∀j,j<x.zA.length→0≤at0 e j∧at0 e j≤at0 x.zA j-1)
  (fun s=>(s.2.2+1).toNat) (fun s hs=>by
   obtain⟨q,e,i,rfl,hi,q0,q1,he,hr⟩:=hs;unfold zFn;simp only
   cases i with
   |zero=>
    right;rw[show decide (((0:Nat):Int)-1≥0)=dV from rfl,zH];exact⟨_,rfl,he,hr⟩
   |succ i=>
    left;have hp:=(hP i (by omega)).pos;have t1:=Ja0 (at0 x.zA i) q0;have t2:=U8 q (b:=at0 x.zA i) (by omega);have t3:q.tdiv (at0 x.zA i)=q/at0 x.zA i:=Kq q0;have t4:0≤q/at0 x.zA i:=Int.ediv_nonneg q0 (by omega);have t5:q/at0 x.zA i≤q:=Int.ediv_le_self _ q0;rw[show(((i+1:Nat):Int)-1)=(i:Int)from by omega,show decide ((i:Int)≥0)=dU from dX (by omega),zI,zZ (by omega),bs,yL,if_neg (by omega),bs,zR 0 (by omega),bs,bs,xC,if_neg (by omega),t3,zF (by omega) (by omega),bs,zF (by omega) (by omega),bs,show((i:Nat):Int).toNat=i from rfl];refine⟨_,rfl,⟨_,_,i,rfl,by omega,t4,by omega,by rw[Kh];exact he,fun j hj=>?_⟩,by simp only;omega⟩
    by_cases hji:i=j
    ·subst hji
     rw[at0,J4,Gj (by omega)];simp only[H7];omega
    ·have:=hr j hj
     rw[at0,J4,U2 hji,←J4];exact this) 1000 (k,J1 x.zA.length 0,(x.zA.length:Int)-1) (by simp only;omega)
   ⟨k,_,x.zA.length,rfl,Jd _,k0,k1,by simp,fun j hj=>by have:=(hP j hj).pos;rw[at0,J4,Jp,if_pos hj];simp only[H7];omega⟩
 refine⟨e,?_,?_,zSC x.zA.length 0 e (by omega) e2 fun i hi=>by rw[Ja];exact e3 i hi⟩
 ·unfold zO6
  rw[yF (by omega),bs,Kk,zF (by omega) (by omega),bs,e1,bs]
 ·unfold zO5 zZR
  rw[yF (by omega),bs,bs,Kk,zF (by omega) (by omega),bs,show zUx x=zFn x from rfl,e1,bs]
noncomputable def elv (x:SPr) (k:Nat):Vec:=(zO5 x (k:Int)).getD []
theorem zBh{x:SPr}(h:Pres x){k:Nat}(k1:k≤1000000):zO6 x (k:Int)=dS (elv x k)∧zO5 x (k:Int)=dS (elv x k)∧V (suf x 0) (elv x k):=by
 obtain⟨e,e1,e2,e3⟩:=zBg h (k:=(k:Int)) (by omega) (by omega);have:elv x k=e:=by rw[elv,e2];rfl
 rw[this];exact⟨e1,e2,e3⟩
noncomputable def els (x:SPr) (n:Nat):Mx:=(Jn n).map (elv x)
theorem zFi{x:SPr}{n:Nat}:els x (n+1)=els x n++[elv x n]:=by simp[els,K9]
theorem zFj{x:SPr}{n:Nat}:(els x n).length=n:=by simp[els]
theorem zWd{x:SPr}{n i:Nat}(h:i<n):(els x n).getD i []=elv x i:=by rw[J4,els,Jm,List.getElem?_range h];rfl
theorem sF{x:SPr}(hx:jU x):∃N:Nat,pr x.zA x.zA.length=(N:Int)∧N≤729∧zRg x=dS (N:Int)∧zNa x=dS (N:Int)∧zUy x=dS (els x N):=by
 have h1:=zB3 (os:=x.zA) (i:=x.zA.length) (fun j hj=>hx.os.2 j hj);have h2:=hx.pr;obtain⟨N,hN⟩:=Int.eq_ofNat_of_zero_le (a:=pr x.zA x.zA.length) (by omega);rw[hN]at h2;have o1:zRg x=dS (N:Int):=by unfold zRg;rw[zIg hx (body:=zUs x) (fun _=>rfl),bs,hN]
 have o2:zNa x=dS (N:Int):=by unfold zNa;rw[zIg hx (body:=zUq x) (fun _=>rfl),bs,hN]
 refine⟨N,hN,by omega,o1,o2,?_⟩;have l:=zP (body:=zNe x (N:Int)) (r:=els x N) (fun i=>(els x i,(i:Int))) N (fun i hi=>by
  unfold zNe;rw[show decide ((i:Int)<(N:Int))=dU from dX (by omega),zI,(zBh hx.toPres (by omega)).1,bs,zS (by rw[zFj,Jb];omega),bs,zF (by omega) (by omega),bs,zFi];rfl) (by
  unfold zNe;rw[show decide ((N:Int)<(N:Int))=dV from dW (by omega),zH])
 unfold zUy;rw[o1,bs];rw[show els x 0=[]from rfl,show((0:Nat):Int)=0 from rfl]at l;rw[l,bs]
section
variable {x:SPr} (h:Pres x) (hc:vM (suf x 0)) {m:zB}{D:Nat} (hD:MOk x.zA.length m D) {vals:Mx} (hV:VOk x.zA.length m.Prime D vals)
noncomputable def zval (m:zB) (D:Nat) (vals:Mx) (e:Vec):Bool:=(f_y (ev m D vals (z0 D) (nw 0 e))).getD dV
 include h hD hV
theorem zFV{e:Vec}(he:V (suf x 0) e):zWA e m vals=dS (zval m D vals e)∧f_L m vals (J1 D 0) e=dS (ev m D vals (z0 D) (nw 0 e))∧f_Q (ev m D vals (z0 D) (nw 0 e))=dS (zval m D vals e):=by
 have h6:=h.os.1;have d3:=hD.d3;obtain⟨q1,q2⟩:=zBm h.os x.zA.length 0 e (by omega) he;have q3:∀i,i<x.zA.length→0≤at0 e i∧at0 e i≤6:=fun i hi=>⟨(q2 i hi).1,(q2 i hi).2.2⟩
 have hz:=kI (p:=m.Prime) (D:=D) (by have:=hD.p.pos;omega);have gk:=zEr 0 e (fun i hi=>(q3 i (by omega)).2);have hbe:=zBt hD h6 hV hz q1 q3;have hvo:=zAJ hD h6 hV (ws:=nw 0 e) (fun w hw=>zGo 0 e (by omega) w hw) (by omega);have hl:=(zB9 hD h6 hV hz (nw 0 e)).1;have hb:∃b,f_y (ev m D vals (z0 D) (nw 0 e))=dS b∧f_Q (ev m D vals (z0 D) (nw 0 e))=dS b:=by
  rcases(zDc (v:=ev m D vals (z0 D) (nw 0 e)) (by omega)).both (kJ (v:=ev m D vals (z0 D) (nw 0 e)) (by omega))with⟨a,b,_⟩|⟨a,b,_⟩
  ·exact⟨_,a,b⟩
  ·exact⟨_,a,b⟩
 obtain⟨b,b1,b2⟩:=hb;have hzb:zval m D vals e=b:=by rw[zval,b1];rfl
 rw[hzb];refine⟨?_,hbe,b2⟩;unfold zWA;rw[sY (by omega) (fun i hi=>q3 i (by omega)),bs,hvo,bs,b1,bs]
theorem zTi{N:Nat}(hN:N≤729)(ho:zNa x=dS (N:Int)):zE (zJM x m vals) ([],0)=dS ((els x N).filter (zval m D vals)):=by
 have l:=zP (body:=zJM x m vals) (r:=(els x N).filter (zval m D vals)) (fun i=>((els x i).filter (zval m D vals),(i:Int))) N (fun i hi=>by
  obtain⟨_,e1,e2⟩:=zBh h (k:=i) (by omega);obtain⟨_,z1,z2⟩:=zFV h hD hV e2;unfold zJM;rw[ho,bs,show decide ((i:Int)<(N:Int))=dU from dX (by omega),zI,e1,bs,hD.d,yF (by have:=hD.d3;omega),bs,z1,bs,z2,bs];have de:=List.length_filter_le (zval m D vals) (els x i);rw[zFj]at de;rw[zFi,Gk];cases hz:zval m D vals (elv x i)with
  |true=>
   rw[zI,zS (by simp only[Jb];omega),bs,zF (by omega) (by omega),bs,Um (by rw[hz]),H9];rfl
  |false=>
   rw[zH,zF (by omega) (by omega),bs,Un (by rw[hz];decide),H9,Jh];rfl) (by
  unfold zJM;rw[ho,bs,show decide ((N:Int)<(N:Int))=dV from dW (by omega),zH])
 rw[show els x 0=[]from rfl,H9,show((0:Nat):Int)=0 from rfl]at l;exact l
 include hc
theorem zQF{N:Nat}(hN:N≤729)(ha:zUy x=dS (els x N)):∃C,zUz x (m,vals)=dS (wU C 0 x.zA.length)∧zFT x (· ∈(els x N).filter (zval m D vals)) C:=by
 have h9:=h.os.1;have gu:∀i,i≤N→ ∀a∈(els x i).filter (zval m D vals),V (suf x 0) a:=fun i hi a hm=>by obtain⟨k,k1,rfl⟩:=Je.1 (Gm.1 hm).1;exact(zBh h (by have:=Jx.1 k1;omega)).2.2
 obtain⟨r,r1,b,rfl,r2,r3⟩:=vU (body:=zPQ (m,vals) (els x N)) (Q:=fun r=> ∃b,r=(x,b)∧b.length=x.zA.length∧WlB x (· ∈(els x N).filter (zval m D vals)) b [])
  (fun s=> ∃(i:Nat)(b:Mx),s=(x,b,(i:Int))∧i≤N∧b.length=x.zA.length∧WlB x (· ∈(els x i).filter (zval m D vals)) b []) (fun s=>(N-s.2.2).toNat) (fun s hs=>by
   obtain⟨i,b,rfl,hi,hb,hW⟩:=hs;unfold zPQ;simp only
   rw[zFj]
   by_cases hiN:i<N
   ·left
    obtain⟨_,_,e2⟩:=zBh h (k:=i) (by omega);obtain⟨z1,_,_⟩:=zFV h hD hV e2;rw[show decide ((i:Int)<(N:Int))=dU from dX (by omega),zI,zR [] (by rw[zFj];exact hiN),zWd hiN,bs,z1,bs];cases hz:zval m D vals (elv x i)with
    |true=>
     have e:(fun a=>a∈(els x i).filter (zval m D vals)∨a∈[elv x i])=(· ∈(els x (i+1)).filter (zval m D vals)):=by
      funext a
      rw[zFi,Gk,Um (by rw[hz]),H9,Jv]
     have hW2:=Wl.more hW (M:=[elv x i]) (fun a ha=>by rw[List.mem_singleton.1 ha];exact e2);rw[e]at hW2;obtain⟨g,b',g1,g2,g3⟩:=zMp h hc (fun a ha=>gu (i+1) (by omega) a ha) hb hW2 (by simp);rw[zI,g1,bs,zF (by omega) (by omega),bs];exact⟨_,rfl,⟨i+1,b',rfl,by omega,g2,g3⟩,by simp only;omega⟩
    |false=>
     have e:(els x (i+1)).filter (zval m D vals)=(els x i).filter (zval m D vals):=by rw[zFi,Gk,Un (by rw[hz];decide),H9,Jh]
     rw[zH,zF (by omega) (by omega),bs];exact⟨_,rfl,⟨i+1,b,rfl,by omega,hb,by rw[e];exact hW⟩,by simp only;omega⟩
   ·right
    have:i=N:=by omega
    subst this;rw[show decide ((i:Int)<(i:Int))=dV from dW (by omega),zH];exact⟨_,rfl,b,rfl,hb,hW⟩) 1000000 (x,J1 x.zA.length [],0) (by simp only;omega) ⟨0,_,rfl,Kc _,by simp,zFU h hc (M:=[]) (by simp)⟩
 obtain⟨C,c1,c2⟩:=zIm h hc r2 r3;refine⟨C,?_,c2⟩;unfold zUz zUu;rw[yF (by omega),bs,bs,ha,bs,r1,bs,c1,bs]
end
end Go.Pl

namespace Go.Pl
open Go Go.Ab Go.Wk Go.Pc
section
variable {x:SPr} (h:Pres x) (hc:vM (suf x 0))
 include h hc
theorem zMr{L M:Vec→Prop}{C D:Nat→Option Vec}(hC:zFT x L C)(hD:zFT x M D)(hs:∀a,zCc x L a↔zCc x M a):wU C 0 x.zA.length=wU D 0 x.zA.length:=by
 have e:zCc x L=zCc x M:=funext fun a=>propext (hs a)
 have ae:zFT x M C:=by unfold zFT at hC ⊢;rw[←e];exact hC
 have u:=Pc.Can.uniq (zFg h hc) (fun ha hb=>Gen.m ha hb) (fun ha hb c8=>Gen.i ha hb c8) ae hD;exact zIj _ _ fun j _=>u j
theorem zWe{L:Vec→Prop}(hL:∀a,L a→V (suf x 0) a){C:Nat→Option Vec}(hC:zFT x L C)(a:Vec):zCc x L a↔zCc x (· ∈wU C 0 x.zA.length) a:=by
 have F:=zFg h hc;constructor
 ·intro ha
  refine(Pc.Can.gen F hL hC ha).mono fun c hc=>?_
  obtain⟨⟨k,hk⟩,_⟩:=hc;have mP:=(hC.i hk).1;exact U1.2 ⟨k,by simp[List.mem_range'];omega,hk⟩
 ·intro ha
  refine ha.to fun c hc=>?_
  obtain⟨k,_,hk⟩:=U1.1 hc;exact(hC.i hk).2.1
end
end Go.Pl

namespace Go.Pl
open Go Go.Ab Go.Wk Go.Pc
end Go.Pl

namespace Go.Pl
open Go Go.Ab Go.Wk Go.Pc
end Go.Pl

namespace Go.Pl
open Go Go.Ab Go.Wk Go.Pc
end Go.Pl

namespace Go.Pl
open Go Go.Ab Go.Wk Go.Pc
end Go.Pl

namespace Go.Pl
open Go Go.Ab Go.Wk Go.Pc
end Go.Pl

namespace Go.Pl
open Go Go.Ab Go.Wk Go.Pc
end Go.Pl

namespace Go.Pl
open Go Go.Ab Go.Wk Go.Pc
end Go.Pl

namespace Go.Pl
open Go Go.Ab Go.Wk Go.Pc
end Go.Pl

namespace Go.Pl
open Go Go.Ab Go.Wk Go.Pc
end Go.Pl

namespace Go.Pl
open Go Go.Ab Go.Wk Go.Pc
end Go.Pl

namespace Go.Pl
open Go Go.Ab Go.Wk Go.Pc
variable {x:SPr}{w:Pres x∧vM (suf x 0)}
end Go.Pl

namespace Go.Pl
open Go Go.Ab Go.Wk Go.Pc
variable {x:SPr}{w:Pres x∧vM (suf x 0)}
end Go.Pl

namespace Go.Pl
open Go Go.Ab Go.Wk Go.Pc
end Go.Pl

namespace Go.Pl
open Go Go.Ab Go.Wk Go.Pc
end Go.Pl

namespace Go.Pl
open Go Go.Ab Go.Wk Go.Pc
end Go.Pl

namespace Go.Pl
open Go Go.Ab Go.Wk Go.Pc
end Go.Pl

namespace Go.Pl
open Go Go.Ab Go.Wk Go.Pc
end Go.Pl

namespace Go.Pl
open Go Go.Ab Go.Wk Go.Pc
end Go.Pl

namespace Go.Pl
open Go Go.Ab Go.Wk Go.Pc
end Go.Pl

namespace Go.Pl
open Go Go.Ab Go.Wk Go.Pc
end Go.Pl

namespace Go.Pl
open Go Go.Ab
def Le{α:Type}(a b:Option α):Prop:=∀r,a=dS r→b=dS r
class LeC {α:Type} (a b:Option α):Prop where
 h:Le a b
theorem Le.rf{α:Type}{a:Option α}:Le a a:=fun _ h=>h
theorem Le.bd{α β:Type}{a b:Option α}{f g:α→Option β}(h:Le a b)(k:∀x,Le (f x) (g x)):Le (a.bind f) (b.bind g):=by
 intro r hr;cases ha:a with
 |none=>rw[ha]at hr;cases hr
 |some x=>rw[ha]at hr;rw[h x ha];exact k x r hr
theorem Le.cd{α:Type}{c:Bool}{a b a' b':Option α}(h:Le a b)(k:Le a' b'):Le (cond c a a') (cond c b b'):=by
 cases c
 ·exact k
 ·exact h
theorem Le.lp{σ ρ:Type}{e f:σ→Option (σ⊕ρ)}{n:Nat}{s:σ}(h:∀s,Le (e s) (f s)):Le (yY e n s) (zE f s):=by
 intro r hr;rw[zCi];refine⟨n,?_⟩
 induction n generalizing s with
 |zero=>cases hr
 |succ n ih=>
  simp only[yY]at hr ⊢
  cases he:e s with
  |none=>rw[he]at hr;cases hr
  |some x=>
   rw[he]at hr;rw[h s x he];cases x with
   |inl s'=>exact ih hr
   |inr r'=>exact hr
theorem leS{α:Type}{a b:Option α}(h:Le a b:=by
 repeat' first
  |with_reducible exact Le.rf
  |exact LeC.h
  |with_reducible refine Le.bd ?_ fun _=>?_
  |with_reducible refine Le.cd ?_ ?_
  |with_reducible refine Le.lp fun _=>?_
  |(rename_i x;cases x using Sum.casesOn<;>dsimp only)
  |fail):Le a b:=h
theorem Le.fu{α:Type}{g:Nat→Option α}{n:Nat}(h:∀n,Le (g n) (g (n+1))):Le (g n) (zCQ g):=fun r hr=>
 zBR n fun m hm=>by
  induction m with
  |zero=>rw[show 0=n from by omega];exact hr
  |succ m ih=>
   rcases Nat.eq_or_lt_of_le hm with e|e
   ·rw[←e];exact hr
   ·exact h m r (ih (by omega))
end Go.Pl

namespace Go.Wk
open Go Go.Ab Go.Pl
noncomputable def tE (x0:List Int):Option Int:=
 (yY (zQL x0) 400 (1,0)).bind fun r5=>
 dS r5
noncomputable def uK (x0:List Int) (x1:List Int) (x2:Int):Option Bool:=
 cond ((x1.length:Int) != (x0.length:Int)) (
  dS dV) (
  (yY (zIu x0 x1 x2) 400 0).bind fun r6=>
  match r6 with
  |(.inl _)=>
   dS dU
  |(.inr r6)=>
   dS r6)
noncomputable def uZ (x0:SPr) (s7:Int) (s8:Int):Option (Int⊕(Unit⊕Bool)):=
 (ixO x0.zC s7).bind fun v11=>
 cond (decide (s8<(v11.length:Int))) (
  (ixO x0.zC s7).bind fun v12=>
  (ixO v12 s8).bind fun v13=>
  (uK x0.zA v13 s7).bind fun r14=>
  cond (!r14) (
   dS (.inr (.inr dV))) (
   (rng (s8+1)).bind fun v15=>
   dS (.inl v15))) (
  dS (.inr (.inl ())))
noncomputable def tA (x0:SPr) (s7:Int):Option (Int⊕(Unit⊕Bool)):=
 cond (decide (s7<(x0.zA.length:Int))) (
  (ixO x0.zN s7).bind fun v6=>
  (uK x0.zA v6 s7).bind fun r7=>
  cond (!r7) (
   dS (.inr (.inr dV))) (
   (ixO x0.zC s7).bind fun v8=>
   (rng ((x0.zA.length:Int)-1)).bind fun v9=>
   (rng (v9-s7)).bind fun v10=>
   cond ((v8.length:Int) != v10) (
    dS (.inr (.inr dV))) (
    (yY (uZ x0 s7) 400 0).bind fun r16=>
    match r16 with
    |(.inl _)=>
     (rng (s7+1)).bind fun v17=>
     dS (.inl v17)
    |(.inr r16)=>
     dS (.inr (.inr r16))))) (
  dS (.inr (.inl ())))
noncomputable def tF (x0:SPr):Option Bool:=
 cond (decide ((x0.zA.length:Int)> 6)) (
  dS dV) (
  cond ((x0.zN.length:Int) != (x0.zA.length:Int)) (
   dS dV) (
   cond ((x0.zC.length:Int) != (x0.zA.length:Int)) (
    dS dV) (
    (yY (zQM x0) 400 0).bind fun r4=>
    match r4 with
    |(.inl _)=>
     (tE x0.zA).bind fun r5=>
     cond (decide (r5> 729)) (
      dS dV) (
      (yY (tA x0) 400 0).bind fun r18=>
      match r18 with
      |(.inl _)=>
       dS dU
      |(.inr r18)=>
       dS r18)
    |(.inr r4)=>
     dS r4)))
noncomputable def zA1 (x0:List Int) (x1:List Int):Option Bool:=
 cond ((x0.length:Int) != (x1.length:Int)) (
  dS dV) (
  (yY (zTs x0 x1) 400 0).bind fun r4=>
  match r4 with
  |(.inl _)=>
   dS dU
  |(.inr r4)=>
   dS r4)
noncomputable def qX (x0:Int) (x1:List Int) (x2:List (List Int)) (s5:(List Int)×Int):Option (((List Int)×Int)⊕(List Int)):=
 cond (decide (s5.2<(x1.length:Int))) (
  cond (decide (s5.2<(x2.length:Int))) (
   (yY (zQN x0 x1 x2 s5) 400 (s5.1,0)).bind fun r12=>
   (rng (s5.2+1)).bind fun v13=>
   dS (.inl (r12,v13))) (
   dS (.inr s5.1))) (
  dS (.inr s5.1))
noncomputable def kL (x0:Int) (x1:List Int) (x2:List (List Int)) (x3:Int):Option (List Int):=
 (zV x3).bind fun m1=>
 (yY (qX x0 x1 x2) 400 (J1 m1 (0:Int),0)).bind fun r14=>
 dS r14
noncomputable def sO (x0:Int) (x1:List (List Int)) (x2:List (List Int)) (x3:Int) (s1:(List (List Int))×Int):Option (((List (List Int))×Int)⊕(List (List Int))):=
 cond (decide (s1.2<(x1.length:Int))) (
  (ixO x1 s1.2).bind fun v1=>
  (kL x0 v1 x2 x3).bind fun r2=>
  (zX s1.1 [r2]).bind fun v3=>
  (rng (s1.2+1)).bind fun v4=>
  dS (.inl (v3,v4))) (
  dS (.inr s1.1))
noncomputable def qG (x0:Int) (x1:List (List Int)) (x2:List (List Int)) (x3:Int):Option (List (List Int)):=
 (yY (sO x0 x1 x2 x3) 400 ([],0)).bind fun r5=>
 dS r5
noncomputable def zA2 (x0:List Int):Option Bool:=
 (yY (zZF x0) 400 0).bind fun r3=>
 match r3 with
 |(.inl _)=>
  dS dU
 |(.inr r3)=>
  dS r3
noncomputable def tJ (x0:List (List Int)):Option (List (List Int)):=
 (yY (zQW x0) 400 ([],0)).bind fun r5=>
 dS r5
noncomputable def sP (x0:List Int) (s5:(List (List Int))×(List (List (List Int)))×Int):Option (((List (List Int))×(List (List (List Int)))×Int)⊕((List (List Int))×(List (List (List Int))))):=
 cond (decide (s5.2.2<(x0.length:Int))) (
  (zV (x0.length:Int)).bind fun m2=>
  (zX s5.1 [J1 m2 (0:Int)]).bind fun v3=>
  (rng (s5.2.2+1)).bind fun v4=>
  (yY (zRn x0) 400 ([],v4)).bind fun r8=>
  (zX s5.2.1 [r8]).bind fun v9=>
  (rng (s5.2.2+1)).bind fun v10=>
  dS (.inl (v3,v9,v10))) (
  dS (.inr (s5.1,s5.2.1)))
noncomputable def wE (x0:List Int):Option SPr:=
 (f_q x0).bind fun r1=>
 (yY (sP x0) 400 ([],[],0)).bind fun r11=>
 dS (SPr.mk r1 r11.1 r11.2)
noncomputable def sQ (s5:Int×(List Int)×Int):Option ((Int×(List Int)×Int)⊕(Int×(List Int))):=
 cond (decide (s5.2.2≤7)) (
  (yY (zU1 s5) 400 (s5.1,s5.2.1)).bind fun r5=>
  (rng (s5.2.2+1)).bind fun v6=>
  dS (.inl (r5.1,r5.2,v6))) (
  dS (.inr (s5.1,s5.2.1)))
noncomputable def wY (x0:Int):Option ((List Int)×Bool):=
 (yY sQ 400 (x0,[],2)).bind fun r7=>
 dS (r7.2,(r7.1==1))
noncomputable def wN (x0:Int):Option (SPr×Int):=
 (zIt x0 1 729).bind fun r1=>
 cond (!r1) (
  dS ((SPr.mk [] [] []),2)) (
  (wY x0).bind fun r2=>
  cond (!r2.2) (
   dS ((SPr.mk [] [] []),2)) (
   cond (decide ((r2.1.length:Int)> 6)) (
    dS ((SPr.mk [] [] []),3)) (
    (wE r2.1).bind fun r3=>
    (yY (zPS r2) 400 (r3.zN,0)).bind fun r9=>
    dS ((SPr.mk r3.zA r9 r3.zC),0))))
noncomputable def uL (x0:List Int) (x1:Int) (x2:Int):Option (List Int):=
 (zV (x0.length:Int)).bind fun m1=>
 (yY (zU2 x0) 400 (x2,J1 m1 (0:Int),x1)).bind fun r8=>
 dS r8
noncomputable def sG (x0:Int) (x1:Int) (x2:Int):Option Int:=
 (yL 1 x2).bind fun v1=>
 (yY (zU3 x2) 400 (x0,x1,v1)).bind fun r11=>
 dS r11
noncomputable def kM (v4:List Int) (s7:(List (List (List Int)))×Int×Int) (s8:(List (List (List Int)))×Int):Option (((List (List (List Int)))×Int)⊕(List (List (List Int)))):=
 cond (decide (s8.2<(v4.length:Int))) (
  (ixO s8.1 s7.2.2).bind fun v18=>
  (rng (s8.2-s7.2.2)).bind fun v19=>
  (rng (v19-1)).bind fun v20=>
  (uL v4 s8.2 s7.2.1).bind fun r21=>
  (ixO v18 v20).bind fun _=>
  (rng (s8.2+1)).bind fun v23=>
  dS (.inl (s8.1.set s7.2.2.toNat (v18.set v20.toNat r21),v23))) (
  dS (.inr s8.1))
noncomputable def kN (x1:Int) (r1:(List Int)×Bool) (v4:List Int) (s7:(List (List (List Int)))×Int×Int):Option (((List (List (List Int)))×Int×Int)⊕(List (List (List Int)))):=
 cond (decide (s7.2.2<(r1.1.length:Int))) (
  (yY (kM v4 s7) 400 (s7.1,(r1.1.length:Int))).bind fun r24=>
  (ixO r1.1 s7.2.2).bind fun v25=>
  (sG s7.2.1 v25 x1).bind fun r26=>
  (rng (s7.2.2+1)).bind fun v27=>
  dS (.inl (r24,r26,v27))) (
  dS (.inr s7.1))
noncomputable def kO (v4:List Int) (s15:(List (List (List Int)))×Int×Int) (s16:(List (List (List Int)))×Int):Option (((List (List (List Int)))×Int)⊕(List (List (List Int)))):=
 cond (decide (s16.2<(v4.length:Int))) (
  (ixO s16.1 s15.2.2).bind fun v30=>
  (rng (s16.2-s15.2.2)).bind fun v31=>
  (rng (v31-1)).bind fun v32=>
  (uL v4 s16.2 s15.2.1).bind fun r33=>
  (ixO v30 v32).bind fun _=>
  (rng (s16.2+1)).bind fun v35=>
  dS (.inl (s16.1.set s15.2.2.toNat (v30.set v32.toNat r33),v35))) (
  dS (.inr s16.1))
noncomputable def kQ (x1:Int) (r1:(List Int)×Bool) (v4:List Int) (s15:(List (List (List Int)))×Int×Int):Option (((List (List (List Int)))×Int×Int)⊕(List (List (List Int)))):=
 cond (decide (s15.2.2<(r1.1.length:Int))) (
  (yY (kO v4 s15) 400 (s15.1,(r1.1.length:Int))).bind fun r36=>
  (ixO r1.1 s15.2.2).bind fun v37=>
  (sG s15.2.1 v37 x1).bind fun r38=>
  (rng (s15.2.2+1)).bind fun v39=>
  dS (.inl (r36,r38,v39))) (
  dS (.inr s15.1))
noncomputable def xS (x0:Int) (x1:Int) (x2:Int) (x3:Int):Option SPr:=
 (wY x0).bind fun r1=>
 (wY x1).bind fun r2=>
 (f_q r1.1).bind fun r3=>
 (zX r3 r2.1).bind fun v4=>
 (wE v4).bind fun r5=>
 (yY (zWC r1 v4) 400 (r5.zN,0)).bind fun r13=>
 cond (decide ((r1.1.length:Int)> 0)) (
  (rng ((r1.1.length:Int)-1)).bind fun v14=>
  (uL v4 (r1.1.length:Int) x3).bind fun r15=>
  (ixO r13 v14).bind fun _=>
  (yL x2 x1).bind fun v17=>
  (yY (kN x1 r1 v4) 400 (r5.zC,v17,0)).bind fun r28=>
  dS (SPr.mk r5.zA (r13.set v14.toNat r15) r28)) (
  (yL x2 x1).bind fun v29=>
  (yY (kQ x1 r1 v4) 400 (r5.zC,v29,0)).bind fun r40=>
  dS (SPr.mk r5.zA r13 r40))
noncomputable def qH (x0:Int) (x1:List (List Int)) (r1:(List Int)×Bool) (s13:(List (List (List Int)))×(List (List Int))×Int) (s16:(List (List Int))×Int):Option (((List (List Int))×Int)⊕(List (List Int))):=
 (ixO r1.1 s13.2.2).bind fun v23=>
 cond (decide (s16.2<v23)) (
  (qG x0 s16.1 s13.2.1 (x1.length:Int)).bind fun r24=>
  (rng (s16.2+1)).bind fun v25=>
  dS (.inl (r24,v25))) (
  dS (.inr s16.1))
noncomputable def qI (x0:Int) (x1:List (List Int)) (r1:(List Int)×Bool) (s13:(List (List (List Int)))×(List (List Int))×Int):Option (((List (List (List Int)))×(List (List Int))×Int)⊕(List (List (List Int)))):=
 cond (decide (s13.2.2<(r1.1.length:Int))) (
  (yY (zWF x1 r1 s13) 400 (s13.1,0)).bind fun r22=>
  (yY (qH x0 x1 r1 s13) 400 (s13.2.1,1)).bind fun r26=>
  (rng (s13.2.2+1)).bind fun v27=>
  dS (.inl (r22,r26,v27))) (
  dS (.inr s13.1))
noncomputable def xY (x0:Int) (x1:List (List Int)) (x2:Int):Option SPr:=
 (wY x2).bind fun r1=>
 (f_q r1.1).bind fun r2=>
 (yY (zZS x0 x1) 400 (r2,0)).bind fun r5=>
 (wE r5).bind fun r6=>
 (yY (zWE r1 r5) 400 (r6.zN,0)).bind fun r12=>
 (tJ x1).bind fun r13=>
 (yY (qI x0 x1 r1) 400 (r6.zC,r13,0)).bind fun r28=>
 dS (SPr.mk r6.zA r12 r28)
noncomputable def tB (x0:ByteArray) (x1:Int):Option (List ByteArray):=
 (yY (zUA x0 x1) 400 ([],0,0)).bind fun r7=>
 (zGz x0 r7.2 (x0.size:Int)).bind fun v8=>
 (zX r7.1 [v8]).bind fun v9=>
 dS v9
noncomputable def kR (x0:ByteArray):Option Int:=
 cond ((x0.size:Int)==0) (
  dS (-1)) (
  cond (decide ((x0.size:Int)> 6)) (
   dS (-1)) (
   cond (decide ((x0.size:Int)> 1)) (
    (zBl x0 0).bind fun v1=>
    cond (v1==48) (
     dS (-1)) (
     (yY (zUB x0) 400 (0,0)).bind fun r8=>
     match r8 with
     |(.inl r8)=>
      dS r8
     |(.inr r8)=>
      dS r8)) (
    (yY (zUC x0) 400 (0,0)).bind fun r15=>
    match r15 with
    |(.inl r15)=>
     dS r15
    |(.inr r15)=>
     dS r15)))
noncomputable def qJ (r1:(List ByteArray)) (s1:(List Int)×Int):Option (((List Int)×Int)⊕((List Int)⊕((List Int)×Bool))):=
 cond (decide (s1.2<(r1.length:Int))) (
  (ixO r1 s1.2).bind fun v2=>
  (kR v2).bind fun r3=>
  (zOj r3).bind fun r4=>
  cond (!r4) (
   dS (.inr (.inr ([],dV)))) (
   cond (decide (s1.2≥6)) (
    dS (.inr (.inr ([],dV)))) (
    (zX s1.1 [r3]).bind fun v5=>
    (rng (s1.2+1)).bind fun v6=>
    dS (.inl (v5,v6))))) (
  dS (.inr (.inl s1.1)))
noncomputable def qY (x0:ByteArray):Option ((List Int)×Bool):=
 cond (zDG x0 (ByteArray.mk #[49])) (
  dS ([],dU)) (
  (tB x0 32).bind fun r1=>
  (yY (qJ r1) 400 ([],0)).bind fun r7=>
  match r7 with
  |(.inl r7)=>
   (tE r7).bind fun r8=>
   dS (r7,decide (r8≤729))
  |(.inr r7)=>
   dS r7)
noncomputable def kS (x0:Int) (x1:ByteArray):Option ((List Int)×Bool):=
 cond (zDG x1 (ByteArray.mk #[49])) (
  dS ([],dU)) (
  (yY (zUD x0 x1) 400 ([],0)).bind fun r14=>
  match r14 with
  |(.inl r14)=>
   dS (r14,decide ((r14.length:Int)> 0))
  |(.inr r14)=>
   dS r14)
noncomputable def qZ (x0:Int) (x1:List Int):Option ((List Int)×Bool):=
 (zV x0).bind fun m1=>
 (yY (zUE x1) 400 (J1 m1 (0:Int),0)).bind fun r11=>
 match r11 with
 |(.inl r11)=>
  dS (r11,dU)
 |(.inr r11)=>
  dS r11
noncomputable def zA3 (x0:SPr) (s1:(List (List (List Int)))×Int):Option (((List (List (List Int)))×Int)⊕(List (List (List Int)))):=
 cond (decide (s1.2<(x0.zC.length:Int))) (
  (ixO x0.zC s1.2).bind fun v3=>
  (tJ v3).bind fun r4=>
  (zX s1.1 [r4]).bind fun v5=>
  (rng (s1.2+1)).bind fun v6=>
  dS (.inl (v5,v6))) (
  dS (.inr s1.1))
noncomputable def zBi (x0:SPr):Option SPr:=
 (f_q x0.zA).bind fun r1=>
 (tJ x0.zN).bind fun r2=>
 (yY (zA3 x0) 400 ([],0)).bind fun r7=>
 dS (SPr.mk r1 r2 r7)
noncomputable def sA (x0:Int):Option ByteArray:=zKP 40 x0
noncomputable def sS (x0:SPr) (x1:ByteArray):Option (SPr×Bool):=
 (tB x1 61).bind fun r1=>
 cond ((r1.length:Int) != 2) (
  dS (x0,dV)) (
  (ixO r1 0).bind fun v2=>
  cond ((v2.size:Int) != 4) (
   dS (x0,dV)) (
   (ixO r1 0).bind fun v3=>
   (zBl v3 0).bind fun v4=>
   cond (v4 != 32) (
    dS (x0,dV)) (
    (ixO r1 0).bind fun v5=>
    (zBl v5 2).bind fun v6=>
    cond (v6 != 94) (
     dS (x0,dV)) (
     (ixO r1 1).bind fun v7=>
     (kS (x0.zA.length:Int) v7).bind fun r8=>
     cond (!r8.2) (
      dS (x0,dV)) (
      (qZ (x0.zA.length:Int) r8.1).bind fun r9=>
      (ixO r1 0).bind fun v10=>
      (zBl v10 1).bind fun v11=>
      (rng ((IntKind.wrap .i64 v11)-97)).bind fun v12=>
      (ixO r1 0).bind fun v13=>
      (zBl v13 3).bind fun v14=>
      (rng ((IntKind.wrap .i64 v14)-97)).bind fun v15=>
      cond (!r9.2) (
       dS (x0,dV)) (
       cond (decide (v12<0)) (
        dS (x0,dV)) (
        cond (decide (v12≥(x0.zA.length:Int))) (
         dS (x0,dV)) (
         (zBi x0).bind fun r16=>
         (ixO r1 0).bind fun v17=>
         (zGz v17 3 (v17.size:Int)).bind fun v18=>
         (ixO x0.zA v12).bind fun v19=>
         (sA v19).bind fun r20=>
         cond (zDG v18 r20) (
          (ixO r16.zN v12).bind fun _=>
          dS ((SPr.mk r16.zA (r16.zN.set v12.toNat r9.1) r16.zC),dU)) (
          cond (decide (v15<0)) (
           dS (x0,dV)) (
           cond (decide (v15≥v12)) (
            dS (x0,dV)) (
            (ixO r16.zC v15).bind fun v22=>
            (rng (v12-v15)).bind fun v23=>
            (rng (v23-1)).bind fun v24=>
            (ixO v22 v24).bind fun _=>
            dS ((SPr.mk r16.zA r16.zN (r16.zC.set v15.toNat (v22.set v24.toNat r9.1))),dU))))))))))))
noncomputable def tK (x0:List Int):Option ByteArray:=
 cond ((x0.length:Int)==0) (
  dS (ByteArray.mk #[49])) (
  (yY (zUF x0) 400 ([],0)).bind fun r12=>
  dS (b2s r12))
noncomputable def uM (x0:Int):Option ByteArray:=
 (rng (x0+1)).bind fun v1=>
 (tK [v1]).bind fun r2=>
 dS r2
noncomputable def kT (x0:List Int) (s5:(List Int)×Int):Option (((List Int)×Int)⊕(List Int)):=
 cond (decide (s5.2<(x0.length:Int))) (
  (yY (zUG x0 s5) 400 (s5.1,0)).bind fun r5=>
  (rng (s5.2+1)).bind fun v6=>
  dS (.inl (r5,v6))) (
  dS (.inr s5.1))
noncomputable def sZ (x0:List Int):Option (List Int):=
 (yY (kT x0) 400 ([],0)).bind fun r7=>
 dS r7
noncomputable def kU (x0:SPr) (s1:ByteArray×Int):Option ((ByteArray×Int)⊕ByteArray):=
 cond (decide (s1.2<(x0.zA.length:Int))) (
  cond (decide (s1.2> 0)) (
   (vK s1.1 (ByteArray.mk #[32])).bind fun v1=>
   (ixO x0.zA s1.2).bind fun v2=>
   (sA v2).bind fun r3=>
   (vK v1 r3).bind fun v4=>
   (rng (s1.2+1)).bind fun v5=>
   dS (.inl (v4,v5))) (
   (ixO x0.zA s1.2).bind fun v6=>
   (sA v6).bind fun r7=>
   (vK s1.1 r7).bind fun v8=>
   (rng (s1.2+1)).bind fun v9=>
   dS (.inl (v8,v9)))) (
  dS (.inr s1.1))
noncomputable def kV (x0:SPr) (s3:ByteArray×Int):Option ((ByteArray×Int)⊕ByteArray):=
 cond (decide (s3.2<(x0.zA.length:Int))) (
  (ixO x0.zN s3.2).bind fun v11=>
  (zA2 v11).bind fun r12=>
  cond (!r12) (
   (vK s3.1 (ByteArray.mk #[59,32])).bind fun v13=>
   (uM s3.2).bind fun r14=>
   (vK v13 r14).bind fun v15=>
   (vK v15 (ByteArray.mk #[94])).bind fun v16=>
   (ixO x0.zA s3.2).bind fun v17=>
   (sA v17).bind fun r18=>
   (vK v16 r18).bind fun v19=>
   (vK v19 (ByteArray.mk #[61])).bind fun v20=>
   (ixO x0.zN s3.2).bind fun v21=>
   (sZ v21).bind fun r22=>
   (tK r22).bind fun r23=>
   (vK v20 r23).bind fun v24=>
   (rng (s3.2+1)).bind fun v25=>
   dS (.inl (v24,v25))) (
   (rng (s3.2+1)).bind fun v26=>
   dS (.inl (s3.1,v26)))) (
  dS (.inr s3.1))
noncomputable def kW (x0:SPr) (s9:ByteArray×Int) (s10:ByteArray×Int):Option ((ByteArray×Int)⊕ByteArray):=
 cond (decide (s10.2<(x0.zA.length:Int))) (
  (ixO x0.zC s9.2).bind fun v29=>
  (rng (s10.2-s9.2)).bind fun v30=>
  (rng (v30-1)).bind fun v31=>
  (ixO v29 v31).bind fun v32=>
  (zIv (x0.zA.length:Int) s10.2).bind fun r33=>
  (zA1 v32 r33).bind fun r34=>
  cond (!r34) (
   (vK s10.1 (ByteArray.mk #[59,32])).bind fun v35=>
   (uM s10.2).bind fun r36=>
   (vK v35 r36).bind fun v37=>
   (vK v37 (ByteArray.mk #[94])).bind fun v38=>
   (uM s9.2).bind fun r39=>
   (vK v38 r39).bind fun v40=>
   (vK v40 (ByteArray.mk #[61])).bind fun v41=>
   (ixO x0.zC s9.2).bind fun v42=>
   (rng (s10.2-s9.2)).bind fun v43=>
   (rng (v43-1)).bind fun v44=>
   (ixO v42 v44).bind fun v45=>
   (sZ v45).bind fun r46=>
   (tK r46).bind fun r47=>
   (vK v41 r47).bind fun v48=>
   (rng (s10.2+1)).bind fun v49=>
   dS (.inl (v48,v49))) (
   (rng (s10.2+1)).bind fun v50=>
   dS (.inl (s10.1,v50)))) (
  dS (.inr s10.1))
noncomputable def kX (x0:SPr) (s9:ByteArray×Int):Option ((ByteArray×Int)⊕ByteArray):=
 cond (decide (s9.2<(x0.zA.length:Int))) (
  (rng (s9.2+1)).bind fun v28=>
  (yY (kW x0 s9) 400 (s9.1,v28)).bind fun r51=>
  (rng (s9.2+1)).bind fun v52=>
  dS (.inl (r51,v52))) (
  dS (.inr s9.1))
noncomputable def zA4 (x0:SPr):Option ByteArray:=
 cond ((x0.zA.length:Int)==0) (
  dS (ByteArray.mk #[49])) (
  (yY (kU x0) 400 ((ByteArray.mk #[]),0)).bind fun r10=>
  (yY (kV x0) 400 (r10,0)).bind fun r27=>
  (yY (kX x0) 400 (r27,0)).bind fun r53=>
  dS r53)
noncomputable def vW (r1:(List ByteArray)) (s1:(List Int)×(List (List Int))×(List (List (List Int)))×Int):Option (((List Int)×(List (List Int))×(List (List (List Int)))×Int)⊕(((List Int)×(List (List Int))×(List (List (List Int))))⊕(SPr×Int))):=
 cond (decide (s1.2.2.2<(r1.length:Int))) (
  (ixO r1 s1.2.2.2).bind fun v5=>
  (sS (SPr.mk s1.1 s1.2.1 s1.2.2.1) v5).bind fun r6=>
  cond (!r6.2) (
   dS (.inr (.inr ((SPr.mk [] [] []),6)))) (
   (rng (s1.2.2.2+1)).bind fun v7=>
   dS (.inl (r6.1.zA,r6.1.zN,r6.1.zC,v7)))) (
  dS (.inr (.inl (s1.1,s1.2.1,s1.2.2.1))))
noncomputable def uE (x0:ByteArray):Option (SPr×Int):=
 (tB x0 59).bind fun r1=>
 (ixO r1 0).bind fun v2=>
 (qY v2).bind fun r3=>
 cond (!r3.2) (
  dS ((SPr.mk [] [] []),6)) (
  (wE r3.1).bind fun r4=>
  (yY (vW r1) 400 (r4.zA,r4.zN,r4.zC,1)).bind fun r8=>
  match r8 with
  |(.inl r8)=>
   (tF (SPr.mk r8.1 r8.2.1 r8.2.2)).bind fun r9=>
   cond (!r9) (
    dS ((SPr.mk [] [] []),6)) (
    (zA4 (SPr.mk r8.1 r8.2.1 r8.2.2)).bind fun r10=>
    cond (!zDG r10 x0) (
     dS ((SPr.mk [] [] []),6)) (
     dS ((SPr.mk r8.1 r8.2.1 r8.2.2),0)))
  |(.inr r8)=>
   dS r8)
noncomputable def kY (x0:Int):Option SPr:=
 (yL x0 10).bind fun v1=>
 (ixO [(ByteArray.mk #[49]),(ByteArray.mk #[50]),(ByteArray.mk #[50,32,50,59,32,97,94,50,61,98]),(ByteArray.mk #[50,32,51,59,32,98,94,97,61,98,98]),(ByteArray.mk #[51,32,50,32,50,59,32,98,94,97,61,99,59,32,99,94,97,61,98,99]),(ByteArray.mk #[50,32,51,32,50,32,50,59,32,98,94,97,61,98,98,59,32,99,94,97,61,100,59,32,100,94,97,61,99,59,32,99,94,98,61,100,59,32,100,94,98,61,99,100]),(ByteArray.mk #[51,32,50,32,50,32,50,59,32,98,94,50,61,100,59,32,99,94,50,61,100,59,32,98,94,97,61,99,59,32,99,94,97,61,98,99,59,32,99,94,98,61,99,100]),(ByteArray.mk #[50,32,50,32,50,59,32,97,94,50,61,99,59,32,98,94,50,61,99,59,32,98,94,97,61,98,99]),(ByteArray.mk #[50,32,50,32,50,59,32,98,94,97,61,98,99]),(ByteArray.mk #[50,32,50,32,50,32,50,59,32,99,94,97,61,99,100,59,32,99,94,98,61,99,100])] v1).bind fun v2=>
 (uE v2).bind fun r3=>
 cond (r3.2 != 0) (
  (wE [2]).bind fun r4=>
  dS r4) (
  dS r3.1)
instance m_f_spec_l07Product(x0:List Int):LeC (tE x0) (f_S x0):=⟨by unfold tE f_S;exact leS⟩
instance m_f_spec_l07Exponents(x0:List Int)(x1:List Int)(x2:Int):LeC (uK x0 x1 x2) (zKD x0 x1 x2):=⟨by unfold uK zKD;exact leS⟩
instance m_l2_spec_IsPresentation(x0:SPr)(s7:Int)(s8:Int):LeC (uZ x0 s7 s8) (zOl x0 s7 s8):=⟨by unfold uZ zOl;exact leS⟩
instance m_l3_spec_IsPresentation(x0:SPr)(s7:Int):LeC (tA x0 s7) (zKE x0 s7):=⟨by unfold tA zKE;exact leS⟩
instance m_f_spec_IsPresentation(x0:SPr):LeC (tF x0) (f_k x0):=⟨by unfold tF f_k;exact leS⟩
instance m_f_spec_l01Same(x0:List Int)(x1:List Int):LeC (zA1 x0 x1) (zFX x0 x1):=⟨by unfold zA1 zFX;exact leS⟩
instance m_l2_spec_l02Times(x0:Int)(x1:List Int)(x2:List (List Int))(s5:(List Int)×Int):LeC (qX x0 x1 x2 s5) (zOo x0 x1 x2 s5):=⟨by unfold qX zOo;exact leS⟩
instance m_f_spec_l02Times(x0:Int)(x1:List Int)(x2:List (List Int))(x3:Int):LeC (kL x0 x1 x2 x3) (f_z x0 x1 x2 x3):=⟨by unfold kL f_z;exact leS⟩
instance m_l1_spec_l02Product(x0:Int)(x1:List (List Int))(x2:List (List Int))(x3:Int)(s1:(List (List Int))×Int):LeC (sO x0 x1 x2 x3 s1) (zOp x0 x1 x2 x3 s1):=⟨by unfold sO zOp;exact leS⟩
instance m_f_spec_l02Product(x0:Int)(x1:List (List Int))(x2:List (List Int))(x3:Int):LeC (qG x0 x1 x2 x3) (f_U x0 x1 x2 x3):=⟨by unfold qG f_U;exact leS⟩
instance m_f_spec_l01Zero(x0:List Int):LeC (zA2 x0) (f_Q x0):=⟨by unfold zA2 f_Q;exact leS⟩
instance m_f_spec_l01Own2(x0:List (List Int)):LeC (tJ x0) (f_V x0):=⟨by unfold tJ f_V;exact leS⟩
instance m_l2_spec_l07Trivial(x0:List Int)(s5:(List (List Int))×(List (List (List Int)))×Int):LeC (sP x0 s5) (zKO x0 s5):=⟨by unfold sP zKO;exact leS⟩
instance m_f_spec_l07Trivial(x0:List Int):LeC (wE x0) (f_p x0):=⟨by unfold wE f_p;exact leS⟩
instance m_l2_spec_l07Factors(s5:Int×(List Int)×Int):LeC (sQ s5) (zPR s5):=⟨by unfold sQ zPR;exact leS⟩
instance m_f_spec_l07Factors(x0:Int):LeC (wY x0) (zO7 x0):=⟨by unfold wY zO7;exact leS⟩
instance m_f_spec_CyclicPresentation(x0:Int):LeC (wN x0) (zWB x0):=⟨by unfold wN zWB;exact leS⟩
instance m_f_spec_l07Digits(x0:List Int)(x1:Int)(x2:Int):LeC (uL x0 x1 x2) (zRo x0 x1 x2):=⟨by unfold uL zRo;exact leS⟩
instance m_f_spec_l01Power(x0:Int)(x1:Int)(x2:Int):LeC (sG x0 x1 x2) (zU4 x0 x1 x2):=⟨by unfold sG zU4;exact leS⟩
instance m_l2_spec_l07Meta(v4:List Int)(s7:(List (List (List Int)))×Int×Int)(s8:(List (List (List Int)))×Int):LeC (kM v4 s7 s8) (zU5 v4 s7 s8):=⟨by unfold kM zU5;exact leS⟩
instance m_l3_spec_l07Meta(x1:Int)(r1:(List Int)×Bool)(v4:List Int)(s7:(List (List (List Int)))×Int×Int):LeC (kN x1 r1 v4 s7) (zU6 x1 r1 v4 s7):=⟨by unfold kN zU6;exact leS⟩
instance m_l4_spec_l07Meta(v4:List Int)(s15:(List (List (List Int)))×Int×Int)(s16:(List (List (List Int)))×Int):LeC (kO v4 s15 s16) (zU7 v4 s15 s16):=⟨by unfold kO zU7;exact leS⟩
instance m_l5_spec_l07Meta(x1:Int)(r1:(List Int)×Bool)(v4:List Int)(s15:(List (List (List Int)))×Int×Int):LeC (kQ x1 r1 v4 s15) (zU8 x1 r1 v4 s15):=⟨by unfold kQ zU8;exact leS⟩
instance m_f_spec_l07Meta(x0:Int)(x1:Int)(x2:Int)(x3:Int):LeC (xS x0 x1 x2 x3) (f_j x0 x1 x2 x3):=⟨by unfold xS f_j;exact leS⟩
instance m_l4_spec_l07Affine(x0:Int)(x1:List (List Int))(r1:(List Int)×Bool)(s13:(List (List (List Int)))×(List (List Int))×Int)(s16:(List (List Int))×Int):LeC (qH x0 x1 r1 s13 s16) (zWG x0 x1 r1 s13 s16):=⟨by unfold qH zWG;exact leS⟩
instance m_l5_spec_l07Affine(x0:Int)(x1:List (List Int))(r1:(List Int)×Bool)(s13:(List (List (List Int)))×(List (List Int))×Int):LeC (qI x0 x1 r1 s13) (zU9 x0 x1 r1 s13):=⟨by unfold qI zU9;exact leS⟩
instance m_f_spec_l07Affine(x0:Int)(x1:List (List Int))(x2:Int):LeC (xY x0 x1 x2) (f_o x0 x1 x2):=⟨by unfold xY f_o;exact leS⟩
instance m_f_spec_l01Split(x0:ByteArray)(x1:Int):LeC (tB x0 x1) (zRp x0 x1):=⟨by unfold tB zRp;exact leS⟩
instance m_f_spec_l01Value(x0:ByteArray):LeC (kR x0) (zWH x0):=⟨by unfold kR zWH;exact leS⟩
instance m_l1_spec_l07Orders(r1:(List ByteArray))(s1:(List Int)×Int):LeC (qJ r1 s1) (zPT r1 s1):=⟨by unfold qJ zPT;exact leS⟩
instance m_f_spec_l07Orders(x0:ByteArray):LeC (qY x0) (zWI x0):=⟨by unfold qY zWI;exact leS⟩
instance m_f_spec_l06Parse(x0:Int)(x1:ByteArray):LeC (kS x0 x1) (zWJ x0 x1):=⟨by unfold kS zWJ;exact leS⟩
instance m_f_spec_l07Vector(x0:Int)(x1:List Int):LeC (qZ x0 x1) (zWK x0 x1):=⟨by unfold qZ zWK;exact leS⟩
instance m_l1_spec_l07Own(x0:SPr)(s1:(List (List (List Int)))×Int):LeC (zA3 x0 s1) (zGu x0 s1):=⟨by unfold zA3 zGu;exact leS⟩
instance m_f_spec_l07Own(x0:SPr):LeC (zBi x0) (zNh x0):=⟨by unfold zBi zNh;exact leS⟩
instance m_f_spec_l01Dec(x0:Int):LeC (sA x0) (f_g x0):=⟨Le.fu (n:=40) (g:=fun n=>zKP n x0) fun n=>by
 induction n generalizing x0 with
 |zero=>intro r h;cases h
 |succ n ih=>
  have:=fun x0=>LeC.mk (ih x0)
  show Le (b_g (zKP n) x0) (b_g (zKP (n+1)) x0);unfold b_g;exact leS⟩
instance m_f_spec_l07Relation(x0:SPr)(x1:ByteArray):LeC (sS x0 x1) (zWL x0 x1):=⟨by unfold sS zWL;exact leS⟩
instance m_f_spec_l06Text(x0:List Int):LeC (tK x0) (zRq x0):=⟨by unfold tK zRq;exact leS⟩
instance m_f_spec_l07Letter(x0:Int):LeC (uM x0) (zRr x0):=⟨by unfold uM zRr;exact leS⟩
instance m_l2_spec_l07Word(x0:List Int)(s5:(List Int)×Int):LeC (kT x0 s5) (zPU x0 s5):=⟨by unfold kT zPU;exact leS⟩
instance m_f_spec_l07Word(x0:List Int):LeC (sZ x0) (zUH x0):=⟨by unfold sZ zUH;exact leS⟩
instance m_l1_spec_l07Text(x0:SPr)(s1:ByteArray×Int):LeC (kU x0 s1) (zWM x0 s1):=⟨by unfold kU zWM;exact leS⟩
instance m_l2_spec_l07Text(x0:SPr)(s3:ByteArray×Int):LeC (kV x0 s3) (zWN x0 s3):=⟨by unfold kV zWN;exact leS⟩
instance m_l3_spec_l07Text(x0:SPr)(s9:ByteArray×Int)(s10:ByteArray×Int):LeC (kW x0 s9 s10) (zWO x0 s9 s10):=⟨by unfold kW zWO;exact leS⟩
instance m_l4_spec_l07Text(x0:SPr)(s9:ByteArray×Int):LeC (kX x0 s9) (zWP x0 s9):=⟨by unfold kX zWP;exact leS⟩
instance m_f_spec_l07Text(x0:SPr):LeC (zA4 x0) (f_C x0):=⟨by unfold zA4 f_C;exact leS⟩
instance m_l1_spec_ParsePresentation(r1:(List ByteArray))(s1:(List Int)×(List (List Int))×(List (List (List Int)))×Int):LeC (vW r1 s1) (zPV r1 s1):=⟨by unfold vW zPV;exact leS⟩
instance m_f_spec_ParsePresentation(x0:ByteArray):LeC (uE x0) (zWQ x0):=⟨by unfold uE zWQ;exact leS⟩
instance m_f_spec_l07Table(x0:Int):LeC (kY x0) (zWR x0):=⟨by unfold kY zWR;exact leS⟩
end Go.Wk
namespace Go.Pl
open Go Go.Ab Go.Wk
def shB(p:SPr):Bool:=decide (p.zA.length≤6)&&(p.zN.length==p.zA.length)&&p.zN.all (fun v=>v.length==p.zA.length)&&(p.zC.length==p.zA.length)&&(Jn p.zA.length).all fun i=>decide ((p.zC.getD i []).length≤p.zA.length-1-i)&&(p.zC.getD i []).all fun v=>v.length==p.zA.length
def okP(o:Option SPr):Bool:=match o with|some p=>shB p|none=>dV
theorem okP.of{a b:Option SPr}[h:LeC a b](k:okP a=dU):∃p,b=dS p∧shB p=dU:=by
 cases a with
 |none=>cases k
 |some p=>exact⟨p,h.h p rfl,k⟩
theorem yBN{m:Int}(h:m∈[3,4,5,6,7,8,9,12]):okP (xS 2 m (m-1) 0)=dU:=by revert m;decide+kernel
theorem yBO{m:Int}(h:m∈[4,6,8,12]):okP (xS 2 m (m-1) (m.tdiv 2))=dU:=by revert m;decide+kernel
theorem yBP:(okP (xS 3 7 2 0)&&okP (xS 4 5 2 0)&&okP (xS 2 8 3 0)&&okP (xS 2 8 5 0)&&okP (xS 4 4 3 0)&&okP (xS 3 9 4 0))=dU:=by decide+kernel
theorem aff:(okP (xY 3 [[2,0],[0,2]] 2)&&okP (xY 3 [[0,1],[2,0]] 4)&&okP (xY 2 [[0,1,0],[0,0,1],[1,1,0]] 7)&&okP (xY 2 [[1,1,0],[0,1,1],[0,0,1]] 4)&&okP (xY 2 [[0,1,0,0],[1,0,0,0],[0,0,0,1],[0,0,1,0]] 2)&&okP (xY 5 [[0,1],[4,4]] 3))=dU:=by decide+kernel
theorem cyc{n:Int}(h:n∈[1,4,6,8,9,12,5,7,27,25,36]):okP ((wN n).map (·.1))=dU:=by revert n;decide+kernel
theorem zTj:(Jn 10).all (fun k=>okP (kY k))=dU:=by decide+kernel
end Go.Pl

namespace Go.Pl
open Go Go.Ab Go.Wk Go.Pc
def Ans{α:Type}(o:Option α)(P:α→Prop):Prop:=∃r,o=dS r∧P r
theorem Ans.rt{α:Type}{P:α→Prop}{r:α}(h:P r):Ans (dS r) P:=⟨r,rfl,h⟩
theorem Ans.bd{α β:Type}{P:α→Prop}{Q:β→Prop}{o:Option α}{f:α→Option β}(h:Ans o P)(k:∀r,P r→Ans (f r) Q):Ans (o.bind f) Q:=by obtain⟨r,h1,h2⟩:=h;rw[h1,bs];exact k r h2
theorem Ans.mp{α:Type}{P Q:α→Prop}{o:Option α}(h:Ans o P)(k:∀r,P r→Q r):Ans o Q:=by obtain⟨r,h1,h2⟩:=h;exact⟨r,h1,k r h2⟩
theorem Ans.cd{α:Type}{Q:α→Prop}{c:Bool}{a b:Option α}(h:c=dU→Ans a Q)(k:c=dV→Ans b Q):Ans (cond c a b) Q:=by
 cases c
 ·exact k rfl
 ·exact h rfl
theorem Ans.rg{β:Type}{Q:β→Prop}{n:Int}{f:Int→Option β}(h:-9223372036854775808≤n∧n≤9223372036854775807)(k:Ans (f n) Q):Ans ((rng n).bind f) Q:=by rw[zF h.1 h.2,bs];exact k
abbrev Ei{α β:Type}(P:α→Prop)(Q:β→Prop)(x:α⊕β):Prop:=match x with|.inl a=>P a|.inr b=>Q b
theorem Ans.lp{σ ρ:Type}{body:σ→Option (σ⊕ρ)}{Q:ρ→Prop}{s:σ}(I:Nat→σ→Prop)(n:Nat)(h0:I 0 s)
  (h:∀i s,i≤n→I i s→Ans (body s) (Ei (fun s'=>i<n∧I (i+1) s') Q)):Ans (zE body s) Q:=by
 refine uF I n (fun i s hi hs=>?_) (fun s hs=>?_) h0
 ·obtain⟨x,h1,h2⟩:=h i s (by omega) hs
  rcases x with s'|r
  ·exact .inl ⟨s',h1,h2.2⟩
  ·exact .inr ⟨r,h1,h2⟩
 ·obtain⟨x,h1,h2⟩:=h n s (by omega) hs
  rcases x with s'|r
  ·omega
  ·exact⟨r,h1,h2⟩
theorem Ans.jn{σ ρ:Type}{body:σ→Option (σ⊕ρ)}{Q:ρ→Prop}{s:σ}(h:Ans (body s) (Ei (fun _=>False) Q)):Ans (zE body s) Q:=by
 obtain⟨x,h1,h2⟩:=h;rcases x with s'|r
 ·exact h2.elim
 ·exact⟨r,by rw[yG,h1],h2⟩
structure Src (s:zD):Prop where
 b:∀i(h:i<s.code.length),0≤s.code[i]∧s.code[i]≤255
 l:s.code.length≤68719476736
 a:0≤s.at_∧s.at_≤s.code.length
 s:0≤s.seed∧s.seed<2147483647
theorem wr{n:Int}(h:0≤n∧n≤255):IntKind.wrap .i64 n=n:=zAT (by simp[inR];omega)
theorem zD9{m n:Int}(hn:0<n)(hm:0≤m):Ans (yL m n) fun r=>0≤r∧r<n:=by unfold yL;rw[if_neg (by omega)];exact .rt ⟨Ja0 _ hm,U8 _ hn⟩
theorem yS{s:zD}(hs:Src s){n:Int}(hn:n≤68719476736):Ans (f_e s n) fun r=>Src r.2∧0≤r.1∧(r.1<n∨n≤1∧r.1=0):=by
 have h1:=hs.s;have h2:=hs.a;have hl:=hs.l;unfold f_e;refine .cd (fun h=>.rt ⟨hs,by omega,.inr ⟨by simpa using h,rfl⟩⟩) fun h=>?_
 have hn:1<n:=by simpa using h
 refine .rg (by omega) (.rg (by omega) (.bd (zD9 (by omega) (by omega)) fun v hv=>?_));have:xC v 47=dS (v.tdiv 47):=by
  have h3:=Ja1 hv.1 (show(0:Int)≤47 by omega);have h4:v.tdiv 47≤v:=by rw[Kq hv.1];omega
  unfold xC;rw[if_neg (by omega),zF (by omega) (by omega)]
 rw[this,bs];have h3:=Ja1 hv.1 (show(0:Int)≤47 by omega);have h4:v.tdiv 47≤v:=by rw[Kq hv.1];omega
 have key:∀{x:Int}{s':zD},0≤x→Src s'→Ans ((yL x n).bind fun v=>dS (v,s')) fun r=>Src r.2∧0≤r.1∧(r.1<n∨n≤1∧r.1=0):=fun hx gM=>
  .bd (zD9 (by omega) hx) fun v hv=>.rt ⟨gM,hv.1,.inl hv.2⟩
 refine .cd (fun h=>?_) fun h=>?_
 ·have h:s.at_<s.code.length:=by simpa using h
  obtain⟨i,hi⟩:∃i:Nat,s.at_=i:=⟨s.at_.toNat,by omega⟩;have hb:=hs.b i (by omega);rw[hi,qR (by omega),bs,wr hb];refine .rg (by omega) (.rg (by omega) ?_);have hS:Src (zD.mk s.code (i+1) v):=⟨hs.b,hs.l,by simp only;omega,hv⟩;refine .cd (fun h=>.bd (zD9 (by omega) (by omega)) fun w hw=>.cd (fun h=>.rg (by omega) ?_) fun h=>key (by omega) hS) fun h=>key (by omega) hS
  rw[show((i:Int)+1-1)=i from by omega,qR (by omega),bs,wr hb];exact key hb.1 hS
 ·exact key h3 ⟨hs.b,hs.l,hs.a,hv⟩
theorem zAk{s:zD}(hs:Src s){l:List Int}(h0:0<l.length)(hl:l.length≤1000):Ans (zDL s l) fun r=>Src r.2∧r.1∈l:=by
 unfold zDL;refine .bd (yS hs (by omega)) fun r hr=>?_
 obtain⟨i,hi⟩:∃i:Nat,r.1=i:=⟨r.1.toNat,by omega⟩;rw[hi,qR (by omega),bs];exact .rt ⟨hr.1,Kj _⟩
theorem zWf{c:List Int}(hb:∀i(h:i<c.length),0≤c[i]∧c[i]≤255)(hl:c.length≤68719476736):Ans (zKN c) Src:=by
 unfold zKN;refine .bd (P:=fun r=>0≤r∧r<2147483647) (.lp (fun i s=>s.2=i∧0≤s.1∧s.1<2147483647) 64 ⟨rfl,by simp,by simp⟩ fun i s hi hs=>?_) fun r hr=>.rt ⟨hb,hl,⟨Jaz _,by simp only;omega⟩,hr⟩
 unfold zU0;refine .cd (fun h=>.cd (fun h'=>.rg (by omega) ?_) fun _=>.rt hs.2) fun _=>.rt hs.2
 simp only[decide_eq_true_eq]at h h';have:=hb i (by omega);rw[hs.1,qR (by omega),bs,wr this];refine .rg (by omega) (.bd (zD9 (by omega) (by omega)) fun v hv=>.rg (by omega) (.rt ⟨by omega,by simp only;omega,hv⟩))
end Go.Pl

namespace Go.Pl
open Go Go.Ab Go.Wk Go.Pc
theorem zYb{D k:Nat}(hk:k<D)(hD:D≤1000000):zIv (D:Int) (k:Int)=dS (uJ D k):=zA0 hk hD
def trv(os:List Int):SPr:=⟨os,gl os.length fun _=>J1 os.length 0,gl os.length fun i=>gl (os.length-1-i) fun j=>uJ os.length (i+1+j)⟩
theorem kZ{os:List Int}(h:os.length≤1000000):f_p os=dS (trv os):=by
 unfold f_p;rw[wF h,bs];have gN:∀i:Nat,i<os.length→zE (zRn os) ([],((i+1:Nat):Int))=dS (gl (os.length-1-i) fun j=>uJ os.length (i+1+j)):=fun i hi=>by
  refine zP (fun j=>(gl j fun j=>uJ os.length (i+1+j),((i+1+j:Nat):Int))) (os.length-1-i) (fun j hj=>?_) ?_
  ·unfold zRn
   simp only
   rw[yJ (by omega),zI,zYb (by omega) h,bs,zS (by rw[wC];simp;omega),bs,zF (by omega) (by omega),bs,cs,zAj];rfl
  ·unfold zRn
   simp only
   rw[show decide (((i+1+(os.length-1-i):Nat):Int)<os.length)=dV from by simp;omega,zH]
 have:=zP (body:=zKO os) (r:=((trv os).zN,(trv os).zC)) (fun i=>(gl i fun _=>J1 os.length 0,(gl i fun i=>gl (os.length-1-i) fun j=>uJ os.length (i+1+j)),(i:Int))) os.length (fun i hi=>by
  unfold zKO;simp only
  rw[yJ hi,zI,yF (by omega),bs,zS (by rw[wC];simp;omega),bs,zF (by omega) (by omega),bs,cs,gN i hi,bs,zS (by rw[wC];simp;omega),bs,bs,zAj,zAj (F:=fun i=>gl (os.length-1-i) fun j=>uJ os.length (i+1+j))]) (by
  unfold zKO;simp only
  rw[tH,zH];rfl)
 rw[show zE (zKO os) ([],[],0)=dS ((trv os).zN,(trv os).zC)from this,bs];rfl
structure ShF (p:SPr):Prop where
 n:p.zA.length≤6
 pl:p.zN.length=p.zA.length
 pr:∀v∈p.zN,v.length=p.zA.length
 cl:p.zC.length=p.zA.length
 c:∀i,i<p.zA.length→(p.zC.getD i []).length≤p.zA.length-1-i
 cr:∀i,i<p.zA.length→ ∀v∈p.zC.getD i [],v.length=p.zA.length
theorem shB.iff{p:SPr}(h:shB p=dU):ShF p:=by simp only[shB,J2,decide_eq_true_eq,beq_iff_eq,K3,Jx]at h;exact⟨h.1.1.1.1,h.1.1.1.2,h.1.1.2,h.1.2,fun i hi=>(h.2 i hi).1,fun i hi=>(h.2 i hi).2⟩
theorem okP.sh{a b:Option SPr}[h:LeC a b](k:okP a=dU):Ans b ShF:=by obtain⟨p,h1,h2⟩:=okP.of (b:=b) k;exact⟨p,h1,shB.iff h2⟩
theorem zZy{os:List Int}(h:os.length≤6):ShF (trv os):=by
 refine⟨h,wC,fun v hv=>?_,wC,fun i hi=>?_,fun i hi v hv=>?_⟩
 ·simp[trv,gl]at hv;rw[←hv.2];simp[trv]
 ·have hi:i<os.length:=hi
  simp[trv,gl,hi]
 ·have hi:i<os.length:=hi
  simp[trv,gl,hi]at hv;obtain⟨_,_,rfl⟩:=hv;exact yB _ _
structure ShC (N:Nat) (c:List (List (List Int))):Prop where
 l:c.length=N
 r:∀i,i<N→(c.getD i []).length=N-1-i
theorem ShC.set{N:Nat}{c:List (List (List Int))}(h:ShC N c){i j:Nat}(hi:i<N){v:List Int}:ShC N (c.set i ((c.getD i []).set j v)):=by
 refine⟨by rw[Kh,h.l],fun k hk=>?_⟩;have:=h.l
 by_cases e:k=i
 ·subst e;have:=h.r k hk;grind
 ·have:=h.r k hk;grind
theorem zWg{os:List Int}:ShC os.length (trv os).zC:=⟨wC,fun i hi=>by simp[trv,gl,hi]⟩
theorem zFk{a b:Nat}{v:List Int}(ha:a≤1000)(hb:b≤1000)(hv:v.length≤1000):zNg a v b=dS (J1 a 0++v++J1 b 0):=by unfold zNg;rw[yF (by omega),bs,zS (by simp;omega),bs];unfold yM;rw[if_pos (by simp;omega),bs];simp
theorem zC3{α:Type}{v:List α}{d:α}{i:Nat}(h:i<v.length):v.getD i d∈v:=by grind
theorem zWh{a b:SPr}(ha:ShF a)(hb:ShF b):Ans (f_D a b) fun p=>p.zA.length≤12:=by
 have h1:=ha.n;have h2:=hb.n;unfold f_D;rw[wF (by omega),bs,zS (by omega),bs,kZ (by rw[J7];omega),bs]
 generalize hN:(a.zA++b.zA).length=N
 have hN':N=a.zA.length+b.zA.length:=by rw[←hN,J7]
 have hC:ShC N (trv (a.zA++b.zA)).zC:=hN▸zWg;have hP:(trv (a.zA++b.zA)).zN.length=N:=hN▸wC;refine .bd (P:=fun r=>r.1.length=N∧ShC N r.2) (.lp (fun i s=>s.2.2=i∧i≤a.zA.length∧s.1.length=N∧ShC N s.2.1) a.zA.length ⟨rfl,by omega,hP,hC⟩ fun i s hi hs=>?_) fun r hr=>?_
 ·obtain⟨e,_,cZ,pj⟩:=hs
  unfold zWT;rw[e];refine .cd (fun h=>?_) fun h=>.rt ⟨cZ,pj⟩
  simp only[decide_eq_true_eq]at h;have hv:=ha.pr (a.zN.getD i []) (zC3 (by have:=ha.pl;omega));rw[zR [] (by have:=ha.pl;omega),bs,show(0:Int)=((0:Nat):Int)from rfl,zFk (by omega) (by omega) (by omega),bs,zR [] (by omega),bs];have pH:=ha.c i (by omega);refine .bd (P:=ShC N) (.lp (fun j t=>t.2=j∧ShC N t.1) (a.zC.getD i []).length ⟨rfl,pj⟩ fun j t hj ht=>?_) fun c hc=>.rg (by omega) (.rt ⟨by omega,by simp only;omega,by omega,by simp only[Kh];omega,hc⟩)
  unfold zWS;rw[e,ht.1,zR [] (by have:=ha.cl;omega),bs];refine .cd (fun h=>?_) fun h=>.rt ht.2
  simp only[decide_eq_true_eq]at h;have hv:=ha.cr i (by omega) ((a.zC.getD i []).getD j []) (zC3 (by omega));have hr:=ht.2.r i (by omega);rw[zR [] (by have:=ht.2.l;omega),bs,bs,zR [] (by omega),bs,show(0:Int)=((0:Nat):Int)from rfl,zFk (by omega) (by omega) (by omega),bs,zR [] (by omega),bs];exact .rg (by omega) (.rt ⟨by omega,by simp only;omega,ht.2.set (by omega)⟩)
 refine .bd (P:=fun r=>True) (.lp (fun i s=>s.2.2=i∧i≤b.zA.length∧s.1.length=N∧ShC N s.2.1) b.zA.length ⟨rfl,by omega,hr⟩ fun i s hi hs=>?_) fun r hr=>.rt (show(trv _).zA.length≤12 by simp only[trv];omega)
 obtain⟨e,_,cZ,pj⟩:=hs;unfold zWV;rw[e];refine .cd (fun h=>.rg (by omega) ?_) fun h=>.rt trivial
 simp only[decide_eq_true_eq]at h;have hv:=hb.pr (b.zN.getD i []) (zC3 (by have:=hb.pl;omega));rw[zR [] (by have:=hb.pl;omega),bs,show(0:Int)=((0:Nat):Int)from rfl,zFk (by omega) (by omega) (by omega),bs,show(a.zA.length:Int)+(i:Int)=((a.zA.length+i:Nat):Int)from by omega,zR [] (by omega),bs];have pH:=hb.c i (by omega);refine .bd (P:=ShC N) (.lp (fun j t=>t.2=j∧ShC N t.1) (b.zC.getD i []).length ⟨rfl,pj⟩ fun j t hj ht=>?_) fun c hc=>.rg (by omega) (.rt ⟨by omega,by simp only;omega,by omega,by simp only[Kh];omega,hc⟩)
 unfold zWU;rw[e,ht.1,zR [] (by have:=hb.cl;omega),bs];refine .cd (fun h=>.rg (by omega) ?_) fun h=>.rt ht.2
 simp only[decide_eq_true_eq]at h;have hv:=hb.cr i (by omega) ((b.zC.getD i []).getD j []) (zC3 (by omega));have hr:=ht.2.r (a.zA.length+i) (by omega);rw[show(a.zA.length:Int)+(i:Int)=((a.zA.length+i:Nat):Int)from by omega,zR [] (by have:=ht.2.l;omega),bs,bs,zR [] (by omega),bs,show(0:Int)=((0:Nat):Int)from rfl,zFk (by omega) (by omega) (by omega),bs,zR [] (by omega),bs];exact .rg (by omega) (.rt ⟨by omega,by simp only;omega,ht.2.set (by omega)⟩)
theorem zWi{s:zD}(hs:Src s){p:Int}(hp:p≤1000):Ans (zWD s p) fun r=>ShF r.1∧Src r.2:=by
 unfold zWD;rw[kZ (by simp),bs];have e:trv [p,p,p]=⟨[p,p,p],[[0,0,0],[0,0,0],[0,0,0]],[[[0,1,0],[0,0,1]],[[0,0,1]],[]]⟩:=rfl;rw[e];have key:∀{x y:List Int}{t:zD},x.length=3→y.length=3→Src t→Ans (dS ((SPr.mk [p,p,p] [x,y,[0,0,0]] [[[0,1,1],[0,0,1]],[[0,0,1]],[]]),t)) fun r=>ShF r.1∧Src r.2:=fun hx hy ht=>.rt ⟨shB.iff (by simp[shB,hx,hy,K9]),ht⟩
 rw[show ixO (SPr.mk [p,p,p] [[0,0,0],[0,0,0],[0,0,0]] [[[0,1,0],[0,0,1]],[[0,0,1]],[]]).zC 0=dS [[0,1,0],[0,0,1]]from rfl,bs,show ixO [[(0:Int),1,0],[0,0,1]] 0=dS [0,1,0]from rfl,bs];refine .bd (yS hs (by omega)) fun r hr=>.cd (fun _=>.bd (yS hr.1 (by omega)) fun r1 gC=>?_) fun _=>key rfl rfl hr.1
 rw[show ixO (SPr.mk [p,p,p] [[0,0,0],[0,0,0],[0,0,0]] [[[0,1,0],[0,0,1]],[[0,0,1]],[]]).zN 0=dS [0,0,0]from rfl,bs];refine .bd (yS gC.1 (by omega)) fun r2 gz=>?_
 rw[show ixO ((SPr.mk [p,p,p] [[0,0,0],[0,0,0],[0,0,0]] [[[0,1,0],[0,0,1]],[[0,0,1]],[]]).zN.set (0:Int).toNat [0,0,r1.1]) 1=dS [0,0,0]from rfl,bs];exact key rfl rfl gz.1
theorem zJ9{s:zD}(hs:Src s):Ans (zUJ s) fun r=>ShF r.1∧Src r.2:=by
 have pair:∀{o:Option SPr}{t:zD},Ans o ShF→Src t→Ans (o.bind fun p=>dS (p,t)) fun r=>ShF r.1∧Src r.2:=fun h ht=>.bd h fun p hp=>.rt ⟨hp,ht⟩
 unfold zUJ;refine .bd (yS hs (by omega)) fun r hr=>.cd (fun _=>.bd (yS hr.1 (by omega)) fun r2 gz=>?_) fun _=>.cd (fun _=>.bd (zAk hr.1 (by simp) (by simp)) fun r2 gz=>?_) fun _=>.cd (fun _=>.bd (zAk hr.1 (by simp) (by simp)) fun r2 gz=>?_) fun _=>
  .cd (fun _=>.bd (zAk hr.1 (by simp) (by simp)) fun r2 gz=>?_) fun _=>.cd (fun _=>.bd (yS hr.1 (by omega)) fun r2 gz=>?_) fun _=>.cd (fun _=>.bd (zAk hr.1 (by simp) (by simp)) fun r2 gz=>?_) fun _=>.cd (fun _=>.bd (yS hr.1 (by omega)) fun r2 gz=>?_) fun _=>.bd (yS hr.1 (by omega)) fun r2 gz=>?_
 ·refine .bd (P:=fun t=>Src ⟨t.1,t.2.1,t.2.2.1⟩∧t.2.2.2.length≤5) (.lp (fun i t=>t.2.2.2.2=r2.1-i∧Src ⟨t.1,t.2.1,t.2.2.1⟩∧t.2.2.2.1.length=i) r2.1.toNat ⟨by simp,gz.1,rfl⟩ fun i t hi ht=>?_) fun t ht=>pair ⟨_,kZ (by omega),zZy (by omega)⟩ ht.1
  unfold zUI;refine .cd (fun h=>.bd (zAk ht.2.1 (by simp) (by simp)) fun r3 hH=>?_) fun h=>.rt ⟨ht.2.1,by simp only;omega⟩
  simp only[decide_eq_true_eq]at h;rw[zS (by simp;omega),bs];exact .rg (by omega) (.rt ⟨by omega,by simp only;omega,hH.1,by simp[ht.2.2]⟩)
 ·refine .bd (P:=fun t=>ShF t.1) ?_ fun t ht=>.rt ⟨ht,gz.1⟩
  have h:=cyc gz.2;cases e:wN r2.1 with
  |none=>rw[e]at h;cases h
  |some x=>exact⟨x,(m_f_spec_CyclicPresentation _).h x e,shB.iff (by rw[e]at h;exact h)⟩
 ·have:r2.1≤12∧3≤r2.1:=by have:=gz.2;simp at this;omega
  exact .rg (by omega) (pair (okP.sh (yBN gz.2)) gz.1)
 ·have:r2.1≤12∧3≤r2.1:=by have:=gz.2;simp at this;omega
  have e:xC r2.1 2=dS (r2.1.tdiv 2):=by have:=Kq (show 0≤r2.1 by omega) (b:=2);unfold xC;rw[if_neg (by omega),zF (by omega) (by omega)]
  refine .rg (by omega) ?_;rw[e,bs];exact pair (okP.sh (yBO gz.2)) gz.1
 ·have h:=yBP
  simp only[J2]at h;obtain⟨⟨⟨⟨⟨h1,h2⟩,h3⟩,h4⟩,h5⟩,h6⟩:=h;exact .cd (fun _=>pair (okP.sh h1) gz.1) fun _=>.cd (fun _=>pair (okP.sh h2) gz.1) fun _=>.cd (fun _=>pair (okP.sh h3) gz.1) fun _=>.cd (fun _=>pair (okP.sh h4) gz.1) fun _=>.cd (fun _=>pair (okP.sh h5) gz.1) fun _=>pair (okP.sh h6) gz.1
 ·have:r2.1≤5:=by have:=gz.2;simp at this;omega
  exact .bd (zWi gz.1 (by omega)) fun r hr=>.rt hr
 ·have h:=aff
  simp only[J2]at h;obtain⟨⟨⟨⟨⟨h1,h2⟩,h3⟩,h4⟩,h5⟩,h6⟩:=h;exact .cd (fun _=>pair (okP.sh h1) gz.1) fun _=>.cd (fun _=>pair (okP.sh h2) gz.1) fun _=>.cd (fun _=>pair (okP.sh h3) gz.1) fun _=>.cd (fun _=>pair (okP.sh h4) gz.1) fun _=>.cd (fun _=>pair (okP.sh h5) gz.1) fun _=>pair (okP.sh h6) gz.1
 ·have h:=zTj
  rw[K3]at h;have:=h r2.1.toNat (Jx.2 (by omega));rw[show((r2.1.toNat:Nat):Int)=r2.1 from by omega]at this;exact pair (okP.sh this) gz.1
theorem zMs{s:zD}(hs:Src s){n:Int}:Ans (zUL s n) fun r=>jU r.1∧Src r.2:=by
 unfold zUL;refine .bd (P:=Ei (fun t=>Src ⟨t.1,t.2.1,t.2.2⟩) fun r=>jU r.1∧Src r.2) (.lp (fun i t=>t.2.2.2=i∧Src ⟨t.1,t.2.1,t.2.2.1⟩) 12 ⟨rfl,hs⟩ fun i t hi ht=>?_) fun x hx=>?_
 ·unfold zUK
  refine .cd (fun h=>?_) fun h=>.rt ht.2
  simp only[decide_eq_true_eq]at h;have key:∀{p:SPr}{t':zD},p.zA.length≤12→Src t'→Ans ((f_k p).bind fun r5=>
   cond r5 (
    (f_S p.zA).bind fun r6=>
    cond (decide (r6≤n)) (
     dS (.inr (.inr (p,t')))) (
     (rng (t.2.2.2+1)).bind fun v7=>
     dS (.inl (t'.code,t'.at_,t'.seed,v7)))) (
    (rng (t.2.2.2+1)).bind fun v8=>
    dS (.inl (t'.code,t'.at_,t'.seed,v8)))) (Ei (fun s':(List Int)×Int×Int×Int=>i<12∧s'.2.2.2=((i+1:Nat):Int)∧Src ⟨s'.1,s'.2.1,s'.2.2.1⟩) (Ei (fun t:(List Int)×Int×Int=>Src ⟨t.1,t.2.1,t.2.2⟩) fun r:SPr×zD=>jU r.1∧Src r.2)):=fun{p t'} hp fx=>by
   rcases wP (x:=p) (by omega)with⟨h1,h2⟩|⟨h1,h2⟩
   ·rw[h1,bs,zI,zAG h2.os,bs]
    refine .cd (fun _=>.rt ⟨h2,fx⟩) fun _=>.rg (by omega) (.rt ⟨by omega,by simp only;omega,fx⟩)
   ·rw[h1,bs,zH]
    exact .rg (by omega) (.rt ⟨by omega,by simp only;omega,fx⟩)
  refine .bd (zJ9 ht.2) fun r1 gC=>.bd (yS gC.2 (by omega)) fun r2 gz=>.cd (fun _=>.bd (zJ9 gz.1) fun r3 hH=>.bd (zWh gC.1 hH.1) fun r4 pW=>key pW hH.2) fun _=>key (p:=r1.1) (by have:=gC.1.n;omega) gz.1
 ·rcases x with t|r
  ·dsimp only
   rw[kZ (by simp),bs];refine .rt ⟨?_,hx⟩;rcases wP (x:=trv [2]) (by simp[trv])with⟨h1,h2⟩|⟨h1,h2⟩
   ·exact h2
   ·have:=(m_f_spec_IsPresentation (trv [2])).h dU (by decide+kernel)
    rw[this]at h1;cases h1
  ·exact .rt hx
end Go.Pl

namespace Go.Pl
open Go Go.Ab Go.Wk Go.Pc
theorem zYc{D:Nat}(hD:D≤1000):f_u (D:Int)=dS (idM D):=by
 unfold f_u;rw[vV (body:=zIw (D:Int)) D (fun i=>mkv D fun j=>if j=i then 1 else 0) (fun i acc hi ha=>by
  unfold zIw;simp only
  rw[yJ hi,zI,yF (by omega),bs,vC,Jp,if_pos hi,bs,J8,uW,qT,zS (by grind),bs,zF (by omega) (by omega),bs];rfl) (fun acc=>by
  unfold zIw;simp),bs]
 rfl
theorem zYd{x:SPr}{q:Int}{D:Nat}(h6:x.zA.length≤1000)(hD:D≤1000):zUr x q (D:Int)=dS ⟨q,D,gl x.zA.length fun _=>idM D⟩:=by
 unfold zUr;rw[vV (body:=zJL x (D:Int)) x.zA.length (fun _=>idM D) (fun i acc hi ha=>by
  unfold zJL;simp only
  rw[yJ hi,zI,zYc hD,bs,zS (by grind),bs,zF (by omega) (by omega),bs];rfl) (fun acc=>by
  unfold zJL;simp),bs]
theorem zDh{α:Type}{v:List α}{a b:Nat}(h:a≤b)(k:b≤v.length):zL v (a:Int) (b:Int)=dS ((v.drop a).take (b-a)):=by unfold zL;exact if_pos (by omega)
structure DrP (p:SPr):Prop where
 n:p.zA.length≤7
 o:∀o∈p.zA,-100≤o∧o≤100
structure DrM (m:zB):Prop where
 p:-100≤m.Prime∧m.Prime≤100
 d:1≤m.Dim∧m.Dim≤4
 l:m.zG.length≤100
structure DrE (m:zB):Prop where
 p:-100≤m.Prime∧m.Prime≤100
 d:1≤m.Dim∧m.Dim≤3
 l:m.zG.length≤20
 a:∀A∈m.zG,(A.getD 0 []).length≠0
theorem jU.drp{p:SPr}(h:jU p):DrP p:=⟨by have:=h.n6;omega,fun o ho=>by obtain⟨i,hi,rfl⟩:=K8.1 ho;have:=(h.os.2 i hi).pos;rw[at0,J4,J6 hi]at this;simp at this;omega⟩
section
variable {x:SPr} (h:Pres x)
 include h
theorem zEx{i:Nat}(hi:i<x.zA.length):(x.zN.getD i []).length=x.zA.length:=(h.tl i hi).1.1.1
theorem zFW{i:Nat}(hi:i<x.zA.length):(x.zC.getD i []).length+i+1=x.zA.length:=(h.tl i hi).2.1
theorem zEy{i j:Nat}(hi:i<x.zA.length)(hj:j+i+1<x.zA.length):((x.zC.getD i []).getD j []).length=x.zA.length:=((h.tl i hi).2.2 j (by have:=(h.tl i hi).2.1;omega)).1.1
theorem zTk{β:Type}{Q:β→Prop}{i j:Nat}{f:List Int→Option β}(hi:i<j)(hj:j<x.zA.length)(k:∀v,v.length=x.zA.length→Ans (f v) Q):
  Ans ((ixO x.zC (i:Int)).bind fun v1=>(rng ((j:Int)-(i:Int))).bind fun v2=>(rng (v2-1)).bind fun v3=>(ixO v1 v3).bind f) Q:=by
 have h6:=h.os.1;rw[zR [] (by have:=h.cl;omega),bs];refine .rg (by omega) (.rg (by omega) ?_);rw[show(j:Int)-(i:Int)-1=((j-i-1:Nat):Int)from by omega,zR [] (by have:=zFW h (show i<x.zA.length by omega);omega),bs];exact k _ (zEy h (by omega) (by omega))
theorem zJA{k:Nat}(hk:k≤x.zA.length):Ans (zUO x k) fun _=>True:=by
 have h6:=h.os.1;unfold zUO;refine .bd (P:=fun _=>True) (.lp (fun i s=>s=i) k rfl fun i s hi hs=>?_) fun r _=>by rcases r with _|_<;>exact .rt trivial
 unfold zUN;refine .cd (fun hl=>?_) fun _=>.rt trivial
 simp only[decide_eq_true_eq]at hl;subst hs;refine .bd (P:=fun _=>True) (.lp (fun j t=>t=((k+j:Nat):Int)) (x.zA.length-k) rfl fun j t hj ht=>?_) fun r _=>by
  rcases r with _|_
  ·exact .rg (by omega) (.rt ⟨by omega,by omega⟩)
  ·exact .rt trivial
 unfold zUM;refine .cd (fun hl=>?_) fun _=>.rt trivial
 simp only[decide_eq_true_eq]at hl;subst ht;refine zTk h (by omega) (by omega) fun v hv=>?_
 rw[show(0:Int)=((0:Nat):Int)from rfl,zDh (by omega) (by omega),bs];rcases kJ (v:=(v.drop 0).take (k-0)) (by grind)with⟨e,_⟩|⟨e,_⟩
 ·rw[e,bs,J3,zH];exact .rg (by omega) (.rt ⟨by omega,by omega⟩)
 ·rw[e,bs,Jo,zI];exact .rt trivial
theorem zWj(hx:jU x){k:Nat}(hk:k≤x.zA.length):Ans (zWW x k) fun r=>DrP r.1:=by
 have h6:=h.os.1;have emp:∀{c:Int},Ans (dS (SPr.mk [] [] [],c)) fun r=>DrP r.1:=.rt ⟨by simp,by simp⟩
 unfold zWW zZT;refine .bd (P:=fun _=>True) (.bd (P:=fun _=>True) ?_ fun r _=>.cd (fun _=>.rt trivial) fun _=>?_) fun r _=>.cd (fun _=>emp) fun _=>.bd (zJA h hk) fun r _=>.cd (fun _=>emp) fun _=>?_
 ·rcases zEp (x:=x) (by omega)with⟨e,_⟩|⟨e,_⟩<;>exact⟨_,e,trivial⟩
 ·rcases tX k 0 x.zA.length with⟨e,_⟩|⟨e,_⟩
  ·rw[e,bs];exact .rt trivial
  ·rw[e,bs];exact .rt trivial
 rw[show(0:Int)=((0:Nat):Int)from rfl,zDh (by omega) (by omega),bs,wF (by grind),bs];refine .bd (P:=fun _=>True) (.lp (fun i s=>s.2.2=i∧s.1.length=i∧s.2.1.length=i) k ⟨rfl,rfl,rfl⟩ fun i s hi hs=>?_) fun r _=>.rt ⟨by have:=hx.n6;simp only;grind,fun o ho=>hx.drp.o o (by grind)⟩
 unfold zPW;refine .cd (fun hl=>?_) fun _=>.rt trivial
 simp only[decide_eq_true_eq]at hl;have:=zEx h (show i<x.zA.length by omega);rw[hs.1,zR [] (by have:=h.pl;omega),bs,show(0:Int)=((0:Nat):Int)from rfl,zDh (by omega) (by omega),bs,wF (by grind),bs,zS (by simp;omega),bs];refine .bd (P:=fun _=>True) (.lp (fun j t=>t.2=j∧t.1.length=j) (k-1-i) ⟨rfl,rfl⟩ fun j t hj ht=>?_) fun r _=>?_
 ·unfold zUP
  rw[hs.1,ht.1];refine .rg (by omega) (.rg (by omega) (.cd (fun hl=>?_) fun _=>.rt trivial));simp only[decide_eq_true_eq]at hl;have hc:=zFW h (show i<x.zA.length by omega);have hr:=zEy h (show i<x.zA.length by omega) (show j+i+1<x.zA.length by omega);rw[zR [] (by have:=h.cl;omega),bs,zR [] (by omega),bs,show(0:Int)=((0:Nat):Int)from rfl,zDh (by omega) (by omega),bs,wF (by grind),bs,zS (by simp;omega),bs];exact .rg (by omega) (.rt ⟨by omega,by simp only;omega,by simp[ht.2]⟩)
 ·rw[zS (by simp;omega),bs]
  exact .rg (by omega) (.rt ⟨by omega,by simp only;omega,by simp[hs.2.1],by simp[hs.2.2]⟩)
theorem zZz{i:Nat}(hi:i<x.zA.length):Ans (zE (zUQ x i) ([],0)) fun r=>r.length≤20∧ ∀A∈r,(A.getD 0 []).length≠0:=by
 have h6:=h.os.1;refine .mp (.lp (Q:=fun r=>r.length≤i∧ ∀A∈r,(A.getD 0 []).length≠0) (fun q s=>s.2=q∧s.1.length=q∧q≤i∧ ∀A∈s.1,(A.getD 0 []).length≠0) i ⟨rfl,rfl,by omega,by simp⟩ fun q s hq hs=>?_) fun r hr=>⟨by omega,hr.2⟩
 unfold zUQ;refine .cd (fun hl=>?_) fun _=>.rt ⟨by omega,hs.2.2.2⟩
 simp only[decide_eq_true_eq]at hl;refine .bd (P:=fun A=>(A.getD 0 []).length≠0) (.lp (fun j t=>t.2=((i+j:Nat):Int)∧t.1.length=j∧ ∀v∈t.1,v.length≠0) (x.zA.length-i) ⟨rfl,rfl,by simp⟩ fun j t hj ht=>?_) fun A hA=>?_
 ·unfold zZV
  rw[ht.1,hs.1];refine .cd (fun hl=>?_) fun hl=>.rt ?_
  ·simp only[decide_eq_true_eq]at hl
   refine zTk h (by omega) (by omega) fun v hv=>?_
   rw[zDh (by omega) (by omega),bs,wF (by grind),bs,zS (by simp;omega),bs];exact .rg (by omega) (.rt ⟨by omega,by simp only;omega,by simp[ht.2.1],by grind⟩)
  ·simp only[decide_eq_false_iff_not]at hl
   exact ht.2.2 _ (zC3 (by omega))
 ·rw[zS (by simp;omega),bs]
  exact .rg (by omega) (.rt ⟨by omega,by simp only;omega,by simp[hs.2.1],by omega,by grind⟩)
end
end Go.Pl
