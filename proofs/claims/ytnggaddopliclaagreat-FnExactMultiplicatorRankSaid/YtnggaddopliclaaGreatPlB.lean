/- The program's MultiplicatorRank returns what the reference's returns,for all arguments;no conditions. -/
import Derived.Test.YtnggaddopliclaaGreatPlA
open List renaming replicate→J1,getD_eq_getElem?_getD→J2,getElem?_eq_getElem→J3,length_append→J5,length_cons→J6,getElem?_append_right→J8,append_nil→J9,append_assoc→Ja,length_map→Jc,mem_cons→Jd,length_replicate→Jh,nil_append→Ji,mem_append→Jj,range→Jl,getElem?_append_left→Jm,take_left'→Jn,replicate_succ→Jo,cons_append→Jq,take_of_length_le→Jr,eq_of_mem_replicate→Js,mem_map→Jt,map_cons→Ju,replicate_append_replicate→Jv,length_nil→Jw,getElem?_eq_none→Jz,getElem?_map→K0,length_drop→K1,drop_left'→K3,take_zero→K6,take_succ_eq_append_getElem→K8,take_succ_cons→K9,length_take→Ka,eq_nil_of_length_eq_zero→Kb,getElem_mem→Kj,reverse_reverse→Km,drop_append_of_le_length→Kn,getElem?_drop→Ko,mem_range→Kq,getElem?_replicate→Kr,map_append→Ks,length_range→Kt,ext_getElem?→La,flatten_cons→Lp,range_succ→Lq,getD_cons_zero→Lu,mem_append_right→Lv,map_nil→Lw,flatMap_append→Lx,reverse_cons→H0,getElem?_take→H3,replicate_succ'→H4,drop_replicate→H6,take_append_of_le_length→Hd,replicate_zero→He,take_length→Hg,flatten_nil→Hw,mem_iff_getElem→G3,drop_zero→G4,length_singleton→G7,drop_eq_getElem_cons→G8,set_append_right→Ge,mem_append_left→Gk,head?_cons→Gv,foldl_cons→Gw,mem_of_mem_take→Gz,getD_cons_succ→Ub,foldl_append→Ud,getElem?_take_of_lt→Uj,getElem?_range→Ut,range_zero→Q5,map_congr_left→Qm,flatten_append→Qo,mem_reverse→Qs,ext_getElem→Qu,getElem?_replicate_of_lt→Qv,getElem?_set_ne→Jad,foldl_nil→Jae,flatMap_nil→Jaf,range_succ_eq_map→Jb1,not_mem_nil→Jb2,drop_of_length_le→Jb5,mem_of_mem_head?→Jbg,take→Jbn,mem_of_mem_drop→Jbo,map_map→Jbp,length→Jbq,cons→Jc1,getElem_map→Jd7
open Int renaming toNat_natCast→Je,mul_emod→Jx,emod_emod→Kc,emod_eq_of_lt→Ke,add_emod→Kl,emod_lt_of_pos→Kv,natCast_mul→L5,mul_zero→Ld,emod_nonneg→Le,zero_add→Lo,add_mul_emod_self_left→Lz,add_zero→Ha,mul_assoc→Hf,mul_one→Ho,toNat_zero→Hs,natCast_add→U0,zero_mul→U9,mul_comm→Ua,add_emod_right→Un,add_mul→Qf,sub_mul→Ja4,one_mul→Ja5,add_emod_emod→Jbu,toNat_of_nonneg→Jd8
open Nat renaming zero_add→Jf,lt_or_ge→Jk,le_refl→Jp,succ_mul→Jy,mul_le_mul→K4,mul_le_mul_right→Kg,zero_le→Kk,sub_self→Ku,add_assoc→Ls,add_sub_cancel_left→Hb,sub_zero→U7,add_zero→U8,eq_zero_or_pos→Uc,min_eq_left→Qi,mul_succ→Jai,le_mul_of_pos_right→Jbd,lt_of_not_le→Jbv,lt_irrefl→Jc2,add_comm→Jcn
open Bool renaming not_false→Kw,not_true→Ky
open Option renaming some→Lb,map_some→Hj
namespace Go.Pl
open Go Go.Ab Go.Wk Go.Pc
theorem zNa{p:Int}{n:Nat}{R out:Mx}{cf:Nat→Int}(ho:∀i,i<out.length→Sp p n R (out.getD i [])){u:List Int}(hu:∀j,j<n→at0 u j%p=(S out.length fun k=>cf k*ent out k j)%p):Sp p n R u:=
 kK ho ⟨cf,fun j hj=>(hu j hj).symm⟩
theorem Red.len_le{p:Int}{n:Nat}{R:Mx}{pv:Nat→Nat}(h:Red p n R pv):R.length≤n:=by
 have key:∀i,i<R.length→i≤pv i:=by
  intro i
  induction i with
  |zero=>intro _;omega
  |succ i ih=>
   intro hi;have h1:=ih (by omega);have h2:=h.mono i (i+1) (by omega) hi;omega
 rcases Uc R.length with g|g
 ·omega
 ·have h1:=key (R.length-1) (by omega)
  have h2:=h.lt (R.length-1) (by omega);omega
theorem zCX{xs:Mx}{v:List Int}{i:Nat}(h:i<xs.length):(xs++[v]).getD i []=xs.getD i []:=by simp only[J2,Jm h]
theorem zCY{xs:Mx}{v:List Int}:(xs++[v]).getD xs.length []=v:=by simp[J2]
section
variable {p:Int} (hp:Prime p) {n:Nat} (hn:n≤100000)
 include hp hn
theorem zNb{w:List Int}(hw:Row p n w){r:Int}(h0:0≤r)(h1:r≤p-1):zUC p r w=some (mkv n fun j=>(at0 w j*r)%p):=by
 have h7:=hp.pos;unfold zUC;rw[hw.1,xR (by omega),bs,tM hp (zH3 (by omega)) hw ⟨by omega,by omega⟩ (by omega),bs]
 congr 1
 refine zX fun j hj=>?_
 rw[show at0 (z0 n) j=0 from by simp[z0,at0,J2,hj],Lo,Ua]
variable {rows:Mx} (hm:rows.length≤600000) (hr:∀i,i<rows.length→Row p n (rows.getD i []))
 include hm hr
theorem zE9:∃R pv,f_p p rows=some R∧(Red p n R pv∧R.length≤rows.length)∧jC p n R rows:=by
 have h7:=hp.pos;unfold f_p;have main:=tC (body:=zPR p rows) (s:=([],0)) (Q:=fun R=> ∃pv,(Red p n R pv∧R.length≤rows.length)∧jC p n R rows)
  (fun i s=> ∃(out:Mx)(pv:Nat→Nat),s=(out,(i:Int))∧Red p n out pv∧jC p n out (rows.take i)∧out.length≤i∧i≤rows.length) rows.length (fun i s hi hI=>?_) (fun s hI=>?_) ⟨[],fun _=>0,rfl,Red.empty,by rw[K6];exact jC.refl,Kk _,Kk _⟩
 ·obtain⟨R,h1,pv,h2,h3⟩:=main
  rw[h1,bs];exact⟨R,pv,rfl,h2,h3⟩
 ·obtain⟨out,pv,rfl,h,hs,hl,_⟩:=hI
  have hon:out.length≤n:=h.len_le;left;have hv:=hr i hi;have hw:=zJI hp hn h hv out.length;have hcl:=zH4 hp hn h hv (by omega);have hpz:=zWD hp hn h hv out.length (Jp _);obtain⟨cf,hcf⟩:=zUc hp hn h hv out.length (Jp _);obtain⟨k,k1,k2,k3,k4⟩:=zIT hw.1 (by omega);have htk:rows.take (i+1)=rows.take i++[rows.getD i []]:=by rw[K8 hi,J2,J3 hi];rfl
  have hti:(rows.take i).length=i:=by rw[Ka];omega
  have hup:∀u,Sp p n (rows.take i) u→Sp p n (rows.take (i+1)) u:=fun u hu=>kK (fun a ha=>by have:=qC (p:=p) (n:=n) (R:=rows.take (i+1)) (i:=a) (by rw[htk,J5];omega);rw[htk,zCX ha,←htk]at this;exact this) hu
  have hvs:Sp p n (rows.take (i+1)) (rows.getD i []):=by
   have:=qC (p:=p) (n:=n) (R:=rows.take (i+1)) (i:=i) (by rw[htk,J5,hti];simp);rw[htk]at this;have e:(rows.take i++[rows.getD i []]).getD i []=rows.getD i []:=by have:=zCY (xs:=rows.take i) (v:=rows.getD i []);rw[hti]at this;exact this
   rw[e,←htk]at this;exact this
  by_cases hkn:k=n
  ·
   refine⟨(out,((i+1:Nat):Int)),?_,out,pv,rfl,h,⟨fun a ha=>hup _ (hs.1 a ha),fun a ha=>?_⟩,by omega,by omega⟩
   ·unfold zPR
    simp only
    rw[xK hi,zN,xD [] hi];simp only[bs,hcl,k2];rw[hw.1,zL0 (by omega),zN,zC (by omega) (by omega),bs,cs]
   ·rw[htk,J5,hti,G7]at ha
    rw[htk];rcases Jk a i with g|g
    ·rw[zCX (by omega)];exact hs.2 a (by omega)
    ·have:a=i:=by omega
     subst this;have e:(rows.take a++[rows.getD a []]).getD a []=rows.getD a []:=by have:=zCY (xs:=rows.take a) (v:=rows.getD a []);rw[hti]at this;exact this
     rw[e];refine zNa (out:=out) (cf:=fun q=> -1*cf q) (fun a ha=>qC ha) fun j hj=>?_
     have h1:=hcf j hj;rw[k3 j (by omega)]at h1;rw[xG (g:=fun q=> -1*(cf q*ent out q j)) (fun q _=>by rw[Hf]),zC6];have h2:(at0 (rows.getD a []) j+S out.length fun q=>cf q*ent out q j)%p=0:=by rw[←h1];rfl
     rw[show at0 (rows.getD a []) j=(at0 (rows.getD a []) j+S out.length fun q=>cf q*ent out q j)+ -1*(S out.length fun q=>cf q*ent out q j)from by omega,Kl,h2,Lo,Kc]
  ·have hk:k<n:=by omega
   have hwk:=hw.2 k hk;have hne:=k4 hk;obtain⟨r,r1,r2,r3,r4⟩:=zR5 hp (x:=at0 (cl p n out pv (rows.getD i []) out.length) k) (by omega) (by omega);have hsc:=zNb hp hn hw r2 r3;have hu:Row p n (mkv n fun j=>(at0 (cl p n out pv (rows.getD i []) out.length) j*r)%p):=⟨yC _ _,fun j hj=>by have e1:=Le (at0 (cl p n out pv (rows.getD i []) out.length) j*r) (show p≠0 by omega);have e2:=Kv (at0 (cl p n out pv (rows.getD i []) out.length) j*r) (show 0<p by omega);rw[yG hj];omega⟩
   have ua:∀j,j<n→at0 (mkv n fun j=>(at0 (cl p n out pv (rows.getD i []) out.length) j*r)%p) j=(at0 (cl p n out pv (rows.getD i []) out.length) j*r)%p:=fun j hj=>yG hj
   generalize mkv n (fun j=>(at0 (cl p n out pv (rows.getD i []) out.length) j*r)%p)=u at hsc hu ua
   have u1:at0 u k=1:=by rw[ua k hk];exact r4
   have ul:∀j,j<k→at0 u j=0:=fun j hj=>by rw[ua j (by omega),k3 j hj];simp
   have up:∀a,a<out.length→at0 u (pv a)=0:=fun a ha=>by rw[ua _ (h.lt a ha),hpz a ha];simp
   obtain⟨q,⟨hq,hq2⟩,hmin⟩:=zBd (p:=fun q=>q≤out.length∧(q<out.length→k<pv q)) ⟨out.length,Jp _,fun g=>by omega⟩;have q1:∀a,a<q→pv a<k:=fun a ha=>by
    have h1:¬(k<pv a):=fun g=>hmin a ha ⟨by omega,fun _=>g⟩
    have h2:pv a≠k:=fun e=>by have:=up a (by omega);rw[e,u1]at this;cases this
    omega
   have q2:∀a,q≤a→a<out.length→k<pv a:=fun a ha ha2=>by
    have h1:=hq2 (by omega);rcases Jk q a with g|g
    ·have:=h.mono q a g ha2;omega
    ·rw[show a=q from by omega];exact h1
   have hins:=zL3 hp h hu hk u1 ul up hq q1 q2 hn (by omega) (x:=(i:Int));have hred:=zMZ hp h hu hk u1 ul up hq q1 q2;obtain⟨s1,s2,s3⟩:=zPx hp h hu hk u1 ul up hq q1 q2;refine⟨(mkR (out.length+1) (sK p n out u k q),((i+1:Nat):Int)),?_,_,_,rfl,hred,⟨fun a ha=>?_,fun a ha=>?_⟩,by rw[sF];omega,by omega⟩
   ·unfold zPR
    simp only
    rw[xK hi,zN,xD [] hi];simp only[bs,hcl,k2];rw[hw.1,zL1 (by omega),zL,yT (by rw[hw.1];exact hk)];simp only[bs,r1,hsc];cases hlo:zI (zIp p (out,(i:Int)) (k:Int) u) ([],false,0)with
    |none=>rw[hlo]at hins;cases hins
    |some r32=>
     rw[hlo,bs]at hins;simp only[bs];obtain⟨a1,a2⟩:=r32;cases a2 with
     |true=>
      simp only[Ky,zL]at hins ⊢
      rw[zC (by omega) (by omega),bs,cs,Lb.inj hins]
     |false=>
      simp only[Kw,zN]at hins ⊢
      cases hap:xU a1 [u]with
      |none=>rw[hap]at hins;cases hins
      |some v33=>
       rw[hap,bs]at hins;simp only[bs];rw[zC (by omega) (by omega),bs,cs,Lb.inj hins]
   ·rw[sF]at ha
    rw[kB ha];refine kK (fun b hb=>?_) (s1 a ha);rw[J5,G7]at hb;rcases Jk b out.length with g|g
    ·rw[zCX g];exact hup _ (hs.1 b g)
    ·rw[show b=out.length from by omega,zCY]
     have hwS:Sp p n (rows.take (i+1)) (cl p n out pv (rows.getD i []) out.length):=by
      have hcS:Sp p n (rows.take (i+1)) (mkv n fun j=>S out.length fun k=>cf k*ent out k j):=zNa (out:=out) (cf:=cf) (fun b hb=>hup _ (hs.1 b hb)) fun j hj=>by rw[yG hj]
      refine zAP (k:=1) hvs hcS fun j hj=>?_
      rw[hcf j hj,yG hj,Ja5]
     refine zAP (k:=r) (zE5 (u:=[]) fun j _=>by simp[at0]) hwS fun j hj=>?_
     rw[ua j hj,Kc,show at0 ([]:List Int) j=0 from by simp[at0],Lo,Ua]
   ·rw[htk,J5,hti,G7]at ha
    rw[htk];rcases Jk a i with g|g
    ·rw[zCX (by omega)]
     exact kK s2 (hs.2 a (by omega))
    ·have hai:a=i:=by omega
     subst hai;have e:(rows.take a++[rows.getD a []]).getD a []=rows.getD a []:=by have:=zCY (xs:=rows.take a) (v:=rows.getD a []);rw[hti]at this;exact this
     rw[e];have hwS:Sp p n (mkR (out.length+1) (sK p n out u k q)) (cl p n out pv (rows.getD a []) out.length):=by
      refine zAP (k:=at0 (cl p n out pv (rows.getD a []) out.length) k) (zE5 (u:=[]) fun j _=>by simp[at0]) s3 fun j hj=>?_
      rw[ua j hj,show at0 ([]:List Int) j=0 from by simp[at0],Lo];rw[Jx,Kc,←Jx,←Hf,Ua (at0 (cl p n out pv (rows.getD a []) out.length) k),Hf,Jx,r4,Ho,Kc]
     have hcS:Sp p n (mkR (out.length+1) (sK p n out u k q)) (mkv n fun j=>S out.length fun k=>cf k*ent out k j):=zNa (out:=out) (cf:=cf) s2 fun j hj=>by rw[yG hj]
     refine zAP (k:=-1) hwS hcS fun j hj=>?_
     rw[yG hj,Kl,hcf j hj,←Kl]
     congr 1;omega
 ·obtain⟨out,pv,rfl,h,hs,hl,_⟩:=hI
  refine⟨out,?_,pv,⟨h,hl⟩,by rw[Hg]at hs;exact hs⟩;unfold zPR;simp only
  rw[xX,zL]
theorem zL4:∃R pv,f_p p rows=some R∧Red p n R pv∧jC p n R rows:=by obtain⟨R,pv,h1,h2,h3⟩:=zE9 hp hn hm hr;exact⟨R,pv,h1,h2.1,h3⟩
theorem zH5{R:Mx}{pv:Nat→Nat}(h:Red p n R pv)(hs:jC p n R rows):R.length≤rows.length:=by have h7:=hp.pos;obtain⟨R',pv',_,h2,h3⟩:=zE9 hp hn hm hr;rw[h.unique (by omega) h2.1 (hs.trans h3.symm)];exact h2.2
theorem kL:∃R pv,f_p p rows=some R∧f_j p rows=some R∧Red p n R pv∧jC p n R rows:=by have h7:=hp.pos;obtain⟨R,pv,h1,h2,h3⟩:=zL4 hp hn hm hr;obtain⟨R',pv',g1,g2,g3⟩:=zL2 hp hn hm hr;have e:=h2.unique (by omega) g2 (h3.trans g3.symm);exact⟨R,pv,h1,by rw[e];exact g1,h2,h3⟩
end
end Go.Pl

namespace Go.Pl
open Go Go.Ab Go.Wk Go.Pc
theorem uQ{β:Type}{body:List β×Int→Option ((List β×Int)⊕List β)}(n:Nat)(F:Nat→β)(h:∀i acc,i<n→acc.length=i→body (acc,(i:Int))=some (.inl (acc++[F i],((i+1:Nat):Int))))(he:∀acc,body (acc,(n:Int))=some (.inr acc)):
  zI body ([],0)=some ((Jl n).map F):=by
 have:=zZ (body:=body) (r:=(Jl n).map F) (fun i=>((Jl i).map F,(i:Int))) n (fun i hi=>by rw[h i _ hi (by simp),Lq,Ks];rfl) (he _)
 exact this
theorem zPy{xs:Mx}(hx:xs.length≤100000)(hf:xs.flatten.length≤1000000):zUN xs=some xs.flatten:=by
 unfold zUN;have:=zZ (body:=zMm xs) (r:=xs.flatten) (fun i=>((xs.take i).flatten,(i:Int))) xs.length (fun i hi=>by
  have h1:=zF1 hi;have h2:=zJD (xs:=xs) (i+1);have h3:=congrArg Jbq h1;rw[J5]at h3;unfold zMm;simp only
  rw[xK hi,zN,xD [] hi,bs,yO (by omega),bs,zC (by omega) (by omega),bs,cs,h1]) (by
  unfold zMm;simp only
  rw[xX,zL,Hg])
 rw[show((0:Nat):Int)=0 from rfl,K6]at this;simp only[Hw]at this;rw[this,bs]
theorem zO0{p:Int}{L:Nat}{v:List Int}:Row p L v↔v.length=L∧ ∀a∈v,0≤a∧a≤p-1:=by
 constructor
 ·rintro⟨h1,h2⟩
  refine⟨h1,fun a ha=>?_⟩;obtain⟨i,hi,rfl⟩:=G3.1 ha;have:=h2 i (by omega);simpa[at0,J2,J3 hi]using this
 ·rintro⟨h1,h2⟩
  refine⟨h1,fun i hi=>?_⟩;have:=h2 v[i] (Kj (by omega));simpa[at0,J2,J3 (show i<v.length by omega)]using this
def kM(D k:Nat):List Int:=mkv D fun j=>if j=k then 1 else 0
theorem zPz{p:Int}{D k:Nat}(hp:2≤p):Row p D (kM D k):=⟨yC _ _,fun i hi=>by rw[kM,yG hi];split<;>omega⟩
theorem zGf{D k:Nat}(hk:k<D)(hD:D≤1000000):zLX (D:Int) (k:Int)=some (kM D k):=by
 unfold zLX;rw[xR (by omega),bs,yT (by simp;exact hk),bs,Je]
 congr 1
 rw[tT,jB,kM]
end Go.Pl

namespace Go.Pl
open Go Go.Ab Go.Wk Go.Pc
abbrev gl{β:Type}(m:Nat)(F:Nat→β):List β:=(Jl m).map F
theorem wD{β:Type}{m:Nat}{F:Nat→β}:(gl m F).length=m:=by simp[gl]
theorem zEA{β:Type}{m:Nat}{F:Nat→β}{i:Nat}(h:i<m):ixO (gl m F) (i:Int)=some (F i):=by rw[zAB (by rw[wD];exact h)];simp[gl]
theorem zBq{β:Type}{m:Nat}{F G:Nat→β}(h:∀i,i<m→F i=G i):gl m F=gl m G:=Qm fun i hi=>h i (Kq.1 hi)
theorem zJJ{β:Type}{m:Nat}{F:Nat→β}{i:Nat}{a:β}:(gl m F).set i a=gl m (fun k=>if k=i then a else F k):=by
 apply La;intro k
 by_cases hk:k<m
 ·by_cases h:i=k
  ·subst h;simp[gl,hk]
  ·rw[Jad h];simp[gl,hk,Ne.symm h]
 ·rw[Jz (by simp[gl];omega),Jz (by simp[gl];omega)]
theorem zEB{β:Type}{m:Nat}{F:Nat→β}:gl m F++[F m]=gl (m+1) F:=by simp[gl,Lq]
def base(n i:Nat):Nat:=n+i*n-i*(i+1)/2
theorem zBF:∀n,n<7→ ∀i,i<n→base n i+(n-1-i)≤base n n:=by decide
theorem vO:∀n,n<7→n≤base n n∧base n n≤21∧base n 0=n:=by decide
theorem zNc:∀n:Nat,n<7→ ∀j:Nat,j<n→ ∀i:Nat,i<j→zXw (n:Int) (i:Int) (j:Int)=some ((base n i+(j-i-1):Nat):Int):=by decide+kernel
def exP(n D:Nat)(x:SPr)(T:Mx)(i:Nat):List Int:=if i<n then x.zU.getD i []++T.getD i []else J1 (n+D) 0
def exF(n:Nat)(x:SPr)(m:zG)(T:Mx)(i j:Nat):List Int:=if j<n-1-i then(x.zF.getD i []).getD j []++T.getD (base n i+j) []else J1 n 0++(m.zQ.getD i []).getD (j-(n-1-i)) []
def unC(N i:Nat):Mx:=gl (N-1-i) fun j=>kM N (i+1+j)
def exC(n D:Nat)(x:SPr)(m:zG)(T:Mx)(i:Nat):Mx:=if i<n then gl (n+D-1-i) (exF n x m T i)else unC (n+D) i
def ext(n D:Nat)(x:SPr)(m:zG)(T:Mx):SPr:=⟨x.zA++J1 D m.Prime,gl (n+D) (exP n D x T),gl (n+D) (exC n D x m T)⟩
end Go.Pl

namespace Go.Pl
open Go Go.Ab Go.Wk Go.Pc
end Go.Pl

namespace Go.Pl
open Go Go.Ab Go.Wk Go.Pc
theorem zH6{x:SPr}{n:Nat}(ho:x.zA.length=n)(hn:n≤6):zUE x=some ((base n n:Nat):Int):=by
 unfold zUE;rw[ho];have key:∀n:Nat,n<7→((rng ((n:Int)-1)).bind fun v1=>(rng ((n:Int)*v1)).bind fun v2=>(uZ v2 2).bind fun v3=>(rng ((n:Int)+v3)).bind fun v4=>some v4)=some ((base n n:Nat):Int):=by decide+kernel
 exact key n (by omega)
theorem zNd{x:SPr}{n:Nat}(ho:x.zA.length=n)(hn:n≤6):zUF x=some ((base n n:Nat):Int):=by
 unfold zUF;rw[ho];have key:∀n:Nat,n<7→((rng ((n:Int)+1)).bind fun v1=>(rng ((n:Int)*v1)).bind fun v2=>(uZ v2 2).bind fun v3=>some v3)=some ((base n n:Nat):Int):=by decide+kernel
 exact key n (by omega)
end Go.Pl

namespace Go.Pl
open Go Go.Ab Go.Wk Go.Pc
end Go.Pl

namespace Go.Pl
open Go Go.Ab Go.Wk Go.Pc
end Go.Pl

namespace Go.Pl
open Go Go.Ab Go.Wk Go.Pc
end Go.Pl

namespace Go.Pl
open Go Go.Ab Go.Wk Go.Pc
theorem zNe{v:List Int}{k:Nat}(hl:v.length≤1000000)(hk:k<v.length)(h0:∀j,j<k→at0 v j=0)(h1:at0 v k≠0):zUK v=some (k:Int):=by
 unfold zUK;have:=zZ (body:=zIY v) (r:=.inr (k:Int)) (fun i=>(i:Int)) k (fun i hi=>by
  unfold zIY zUJ;rw[xK (by omega),zN,yT (by omega),bs,bs,h0 i hi,bne_self_eq_false,zL,zC (by omega) (by omega),bs,cs]) (by
  unfold zIY zUJ;rw[xK hk,zN,yT hk,bs,bs,zBU h1,zN])
 have e:zI (zIY v) 0=some (.inr (k:Int)):=this;rw[e,bs]
section
variable {p:Int} (hp:Prime p) {n:Nat} (hn:n≤100000) {R:Mx}{pv:Nat→Nat} (h:Red p n R pv) {v:List Int} (hv:Row p n v)
 include hp hn h
theorem zL5(hm:R.length≤100000):zUL R=some (gl R.length fun i=>(pv i:Int)):=by
 have h7:=hp.pos;unfold zUL;rw[uQ (body:=zMl R) R.length (fun i=>(pv i:Int)) (fun i acc hi ha=>by
  have hr:=h.row i hi;have h1:=h.one i hi;unfold zMl;simp only
  rw[xK hi,zN,xD [] hi,bs,zNe (k:=pv i) (by rw[hr.1];omega) (by rw[hr.1];exact h.lt i hi) (fun j hj=>h.low i hi j hj) (by simp only[ent]at h1;omega),bs,yO (by simp;omega),bs,zC (by omega) (by omega),bs,cs]) (fun acc=>by
  unfold zMl;simp only
  rw[xX,zL]),bs]
 include hv
theorem zWE{i:Nat}(hi:i<R.length):tI p n (cl p n R pv v i) (0-at0 (cl p n R pv v i) (pv i)) (R.getD i [])=cl p n R pv v (i+1):=by
 have _:=hp;have _:=hn;have _:=h;have _:=hv;have _:=hi;rw[cl];refine zX fun j _=>?_
 generalize at0 (cl p n R pv v i) (pv i)=a
 generalize at0 (R.getD i []) j=b
 rw[Ja4,Ja4,U9];have e:at0 (cl p n R pv v i) j+(p*b-a*b)=at0 (cl p n R pv v i) j+(0-a*b)+p*b:=by omega
 rw[e,Lz]
theorem zH7{c:Int}(hm:R.length≤100000):zUM (zS.mk p c R) v=some (cl p n R pv v R.length):=by
 have h7:=hp.pos;have:=zZ (body:=zIZ (zS.mk p c R) (gl R.length fun i=>(pv i:Int))) (r:=cl p n R pv v R.length) (fun i=>(cl p n R pv v i,(i:Int))) R.length (fun i hi=>by
  have hr:=zJI hp hn h hv i;have ha:=hr.2 (pv i) (h.lt i hi);unfold zIZ;simp only
  rw[wD,xK hi,zN,zEA hi,bs,xD [] hi,bs,yT (by rw[hr.1];exact h.lt i hi),bs,zC (by omega) (by omega),bs,zBo hp hr (h.row i hi) (by omega) (by omega),bs,zC (by omega) (by omega),bs,cs,zWE hp hn h hv hi]) (by
  unfold zIZ;simp only
  rw[wD,xX,zL])
 unfold zUM;rw[zDQ (by rw[hv.1];omega),bs];simp only
 rw[zL5 hp hn h hm,bs];have e:zI (zIZ (zS.mk p c R) (gl R.length fun i=>(pv i:Int))) (v,0)=some (cl p n R pv v R.length):=this;rw[e,bs]
end
end Go.Pl

namespace Go.Pl
open Go Go.Ab Go.Wk Go.Pc
section
variable {p:Int} (hp:1<p) {n:Nat}{R R':Mx}{pv pv':Nat→Nat} (h:Red p n R pv) (h':Red p n R' pv') (hs:∀i,i<R.length→Sp p n R' (R.getD i []))
 include hp h h' hs
theorem Red.lt_of{i i2 k k2:Nat}(hii:i<i2)(hi2:i2<R.length)(hk:k<R'.length)(e:pv' k=pv i)(e2:pv' k2=pv i2):k<k2:=by
 have _:=hp;have _:=hs;have h1:=h.mono i i2 hii hi2;refine Classical.byContradiction fun hn=>?_
 rcases Jk k2 k with g|g
 ·have:=h'.mono k2 k g hk;omega
 ·have:k=k2:=by omega
  subst this;omega
theorem Red.low_in:∀i,i<R.length→ ∃k,k<R'.length∧pv' k=pv i∧i≤k:=by
 intro i
 induction i with
 |zero=>intro hi;obtain⟨k,hk,e⟩:=h.piv_in hp h' hs hi;exact⟨k,hk,e,by omega⟩
 |succ i ih=>
  intro hi;obtain⟨k,hk,e,hik⟩:=ih (by omega);obtain⟨k2,hk2,e2⟩:=h.piv_in hp h' hs hi;have:=h.lt_of hp h' hs (show i<i+1 by omega) hi hk e e2;exact⟨k2,hk2,e2,by omega⟩
theorem Red.le_of:R.length≤R'.length:=by
 rcases Uc R.length with g|g
 ·omega
 ·obtain⟨k,hk,_,hik⟩:=h.low_in hp h' hs (R.length-1) (by omega)
  omega
end
end Go.Pl

namespace Go.Pl
open Go Go.Ab Go.Wk Go.Pc
end Go.Pl

namespace Go.Pl
open Go Go.Ab Go.Wk Go.Pc
theorem zCZ{u v:List Int}{j:Nat}:at0 (u++v) j=if j<u.length then at0 u j else at0 v (j-u.length):=by
 simp only[at0,J2];split
 ·next h=>rw[Jm h]
 ·next h=>rw[J8 (by omega)]
theorem zBr{v:List Int}{c j:Nat}:at0 (v.drop c) j=at0 v (c+j):=by simp only[at0,J2,Ko]
theorem zH8{v:List Int}{c j:Nat}(h:j<c):at0 (v.take c) j=at0 v j:=by simp only[at0,J2,H3,if_pos h]
theorem zGr{f:Nat→Int}(t:Nat):∀d:Nat,S (t+d) f=S t f+S d (fun i=>f (t+i))
 |0=>by simp[S]
 |d+1=>by rw[←Ls];simp only[S];rw[zGr t d];omega
theorem zWF{f:Nat→Int}{t n:Nat}(ht:t≤n)(h:∀i,i<t→f i=0):S n f=S (n-t) (fun i=>f (t+i)):=by
 have e:n=t+(n-t):=by omega
 conv=>lhs;rw[e,zGr,xG (g:=fun _=>0) h,qB]
 omega
theorem xV{F:Nat→List Int}{m i:Nat}(h:i<m):(gl m F).getD i []=F i:=by simp[gl,J2,h]
def ur(N i:Nat):List Int:=mkv N fun j=>if j=i then 1 else 0
def wd(N:Nat)(A:Mx):Mx:=gl N fun i=>A.getD i []++ur N i
def Gr(p:Int)(c N:Nat)(A:Mx)(u:List Int):Prop:=∀j,j<c→at0 u j%p=(S N fun k=>at0 u (c+k)*ent A k j)%p
section
variable {p:Int} (hp:1<p) {c N:Nat}{A:Mx} (hA:∀i,i<N→Row p c (A.getD i []))
 include hA
theorem zC9:(wd N A).length=N:=by have _:=hA;exact wD
theorem zJK{i j:Nat}(hi:i<N)(hj:j<c):ent (wd N A) i j=ent A i j:=by rw[ent,wd,xV hi,zCZ,(hA i hi).1,if_pos hj]
theorem zBs{i l:Nat}(hi:i<N)(hl:l<N):ent (wd N A) i (c+l)=if l=i then 1 else 0:=by
 rw[ent,wd,xV hi,zCZ,(hA i hi).1,if_neg (by omega),Hb,ur,yG hl]
 include hp
theorem zR6{i:Nat}(hi:i<N):Row p (c+N) ((wd N A).getD i []):=by
 refine⟨by rw[wd,xV hi,J5,(hA i hi).1,ur,yC],fun j hj=>?_⟩;rcases Jk j c with g|g
 ·have:=(hA i hi).2 j g
  have e:=zJK hA hi g;simp only[ent]at e;rw[e];exact this
 ·have e:=zBs hA (l:=j-c) hi (by omega)
  rw[show c+(j-c)=j from by omega]at e;simp only[ent]at e;rw[e];split<;>omega
theorem zYV{u:List Int}:Sp p (c+N) (wd N A) u↔Gr p c N A u:=by
 have _:=hp;constructor
 ·rintro⟨cf,hcf⟩ j hj
  rw[zC9 hA]at hcf;rw[←hcf j (by omega)];refine kJ fun k hk=>?_
  have h1:=hcf (c+k) (by omega);rw[kW (k:=k) hk (fun i hi hne=>by rw[zBs hA hi hk,if_neg (Ne.symm hne),Ld]),zBs hA hk hk,if_pos rfl,Ho]at h1;rw[zJK hA hk hj,Jx,h1,←Jx]
 ·intro h
  refine⟨fun k=>at0 u (c+k),fun j hj=>?_⟩;rw[zC9 hA];rcases Jk j c with g|g
  ·rw[h j g]
   refine congrArg (· %p) (xG fun k hk=>?_);rw[zJK hA hk g]
  ·obtain⟨l,rfl⟩:∃l,j=c+l:=⟨j-c,by omega⟩
   rw[kW (k:=l) (by omega) (fun i hi hne=>by rw[zBs hA hi (by omega),if_neg (Ne.symm hne),Ld]),zBs hA (by omega) (by omega),if_pos rfl,Ho]
variable {W:Mx}{pv:Nat→Nat} (hW:Red p (c+N) W pv) (hs:jC p (c+N) W (wd N A))
 include hW
theorem zWG:∃t,t≤W.length∧(∀i,i<t→pv i<c)∧ ∀i,t≤i→i<W.length→c≤pv i:=by
 have _:=hA;have _:=hp;obtain⟨t,ht,hmin⟩:=zBd (p:=fun t=>W.length≤t∨c≤pv t) ⟨W.length,.inl (Jp _)⟩;have hlt:∀i,i<t→i<W.length∧pv i<c:=fun i hi=>by have:=hmin i hi;exact⟨Jbv fun h=>this (.inl h),Jbv fun h=>this (.inr h)⟩
 refine⟨t,Nat.le_of_not_lt fun h=>?_,fun i hi=>(hlt i hi).2,fun i hi hi2=>?_⟩
 ·have:=(hlt W.length h).1;omega
 ·rcases ht with h|h
  ·omega
  ·rcases Jk t i with g|g
   ·have:=hW.mono t i g hi2;omega
   ·rw[show i=t from by omega];exact h
def nul(c t:Nat)(W:Mx):Mx:=gl (W.length-t) fun i=>(W.getD (t+i) []).drop c
 omit hp hA hW in
theorem zEC{t i j:Nat}(hi:t+i<W.length):ent (nul c t W) i j=ent W (t+i) (c+j):=by rw[ent,nul,xV (by omega),zBr]
variable {t:Nat} (ht:t≤W.length) (h1:∀i,i<t→pv i<c) (h2:∀i,t≤i→i<W.length→c≤pv i)
 include ht h1 h2
theorem zUf:Red p N (nul c t W) (fun i=>pv (t+i)-c):=by
 have _:=hp;have _:=hA;have _:=h1;have _:=ht;have hl:(nul c t W).length=W.length-t:=wD;have hpc:∀i,i<W.length-t→c≤pv (t+i):=fun i hi=>h2 (t+i) (by omega) (by omega)
 refine⟨fun i hi=>?_,fun i hi=>?_,fun i hi=>?_,fun i hi j hj=>?_,fun i k hi hk hne=>?_,fun i j hij hj=>?_⟩
 ·rw[hl]at hi
  have hr:=hW.row (t+i) (by omega);refine⟨by rw[nul,xV hi,K1,hr.1];omega,fun j hj=>?_⟩;have:=hr.2 (c+j) (by omega);rw[nul,xV hi,zBr];exact this
 ·rw[hl]at hi
  have:=hW.lt (t+i) (by omega);have:=hpc i hi;omega
 ·rw[hl]at hi
  rw[zEC (by omega),show c+(pv (t+i)-c)=pv (t+i)from by have:=hpc i hi;omega];exact hW.one _ (by omega)
 ·rw[hl]at hi
  rw[zEC (by omega)];exact hW.low _ (by omega) _ (by omega)
 ·rw[hl]at hi hk
  rw[zEC (by omega),show c+(pv (t+i)-c)=pv (t+i)from by have:=hpc i hi;omega];exact hW.off _ _ (by omega) (by omega) (by omega)
 ·rw[hl]at hj
  have:=hW.mono (t+i) (t+j) (by omega) (by omega);have:=hpc i (by omega);omega
 include hs
theorem zYW{u:List Int}:Sp p (c+N) W u↔Gr p c N A u:=by have _:=hW;have _:=ht;have _:=h1;have _:=h2;exact hs.iff.trans (zYV hp hA)
theorem zWH{x:List Int}:Sp p N (nul c t W) x↔ ∀j,j<c→(S N fun k=>at0 x k*ent A k j)%p=0:=by
 have hl:(nul c t W).length=W.length-t:=wD;constructor
 ·rintro⟨cf,hcf⟩ j hj
  rw[hl]at hcf;have e1:(S N fun k=>at0 x k*ent A k j)%p=(S N fun k=>(S (W.length-t) fun i=>cf i*ent (nul c t W) i k)*ent A k j)%p:=kJ fun k hk=>by rw[Jx,←hcf k hk,←Jx]
  have e2:(S N fun k=>(S (W.length-t) fun i=>cf i*ent (nul c t W) i k)*ent A k j)=S (W.length-t) fun i=>cf i*S N fun k=>ent W (t+i) (c+k)*ent A k j:=by
   rw[xG (g:=fun k=>S (W.length-t) fun i=>cf i*(ent W (t+i) (c+k)*ent A k j)) (fun k hk=>by rw[←zLq];exact xG fun i hi=>by rw[zEC (by omega),Hf]),zHx]
   exact xG fun i hi=>by rw[zC6]
  have e3:(S (W.length-t) fun i=>cf i*S N fun k=>ent W (t+i) (c+k)*ent A k j)%p=(S (W.length-t) fun _=>0)%p:=kJ fun i hi=>by have h:=(zYW hp hA hW hs ht h1 h2).1 (qC (p:=p) (n:=c+N) (R:=W) (i:=t+i) (by omega)) j hj;have hz:=hW.low (t+i) (by omega) j (by have:=h2 (t+i) (by omega) (by omega);omega);simp only[ent]at hz;rw[hz]at h;rw[Jx,show(S N fun k=>ent W (t+i) (c+k)*ent A k j)%p=0 from h.symm,Ld]
  rw[e1,e2,e3,qB];rfl
 ·intro h0
  let u:List Int:=mkv (c+N) fun j=>if j<c then 0 else at0 x (j-c)
  have hu1:∀j,j<c→at0 u j=0:=fun j hj=>by rw[yG (by omega),if_pos hj]
  have hu2:∀k,k<N→at0 u (c+k)=at0 x k:=fun k hk=>by rw[yG (by omega),if_neg (by omega),Hb]
  have hg:Gr p c N A u:=fun j hj=>by rw[hu1 j hj,xG (g:=fun k=>at0 x k*ent A k j) (fun k hk=>by rw[hu2 k hk]),h0 j hj];rfl
  have hx:=hW.expand ((zYW hp hA hW hs ht h1 h2).2 hg);refine⟨fun i=>at0 u (pv (t+i)),fun j hj=>?_⟩;have h3:=hx (c+j) (by omega);rw[hu2 j hj,zWF ht (fun i hi=>by rw[hu1 _ (h1 i hi),U9])]at h3;rw[hl,h3];exact congrArg (· %p) (xG fun i hi=>by rw[zEC (by omega)])
end
end Go.Pl

namespace Go.Pl
open Go Go.Ab Go.Wk Go.Pc
theorem zJL{v:List Int}(hl:v.length≤1000000):IsB (f_S v) (∀i,i<v.length→at0 v i=0):=by
 refine zDL v.length (fun i=>at0 v i=0) rfl (fun i hi _=>?_) ?_
 ·refine zB9 (o:=some (at0 v i==0)) (IsB.of_bool (by simp)) (by omega) ?_
  unfold zPN;rw[xK hi,zN,yT hi,bs,bs];rfl
 ·unfold zPN
  rw[xX,zL]
end Go.Pl

namespace Go.Pl
open Go Go.Ab Go.Wk Go.Pc
end Go.Pl

namespace Go.Pl
open Go Go.Ab Go.Wk Go.Pc
end Go.Pl

namespace Go.Pl
open Go Go.Ab Go.Wk Go.Pc
structure Nul (p:Int) (c N:Nat) (A W:Mx) (pv:Nat→Nat) (t:Nat):Prop where
 row:∀i,i<N→Row p c (A.getD i [])
 len:A.length=N
 red:Red p (c+N) W pv
 sp:jC p (c+N) W (wd N A)
 le:t≤W.length
 lo:∀i,i<t→pv i<c
 hi:∀i,t≤i→i<W.length→c≤pv i
section
variable {p:Int} (hp:Prime p) {c N:Nat} (hcN:c+N≤100000) {A W:Mx}{pv:Nat→Nat}{t:Nat}
 include hp hcN
theorem Nul.get(hr:∀i,i<N→Row p c (A.getD i []))(hl:A.length=N):∃W pv t,Nul p c N A W pv t∧f_p p (wd N A)=some W∧f_j p (wd N A)=some W:=by have h7:=hp.pos;obtain⟨W,pv,r1,r2,r3,r4⟩:=kL hp (n:=c+N) hcN (rows:=wd N A) (by rw[zC9 hr];omega) (fun i hi=>zR6 (by omega) hr (by rwa [zC9 hr]at hi));obtain⟨t,t1,t2,t3⟩:=zWG (by omega) hr r3;exact⟨W,pv,t,⟨hr,hl,r3,r4,t1,t2,t3⟩,r1,r2⟩
variable (h:Nul p c N A W pv t)
 include h
theorem Nul.nred:Red p N (nul c t W) (fun i=>pv (t+i)-c):=by have _:=hcN;have h7:=hp.pos;exact zUf (by omega) h.row h.red h.le h.lo h.hi
theorem Nul.nsp{x:List Int}:Sp p N (nul c t W) x↔ ∀j,j<c→(S N fun k=>at0 x k*ent A k j)%p=0:=by have _:=hcN;have h7:=hp.pos;exact zWH (by omega) h.row h.red h.sp h.le h.lo h.hi
theorem Nul.full:W.length=N:=by
 have h7:=hp.pos;have g1:W.length≤(wd N A).length:=zH5 hp (n:=c+N) hcN (by rw[zC9 h.row];omega) (fun i hi=>zR6 (by omega) h.row (by rwa [zC9 h.row]at hi)) h.red h.sp;rw[zC9 h.row]at g1;have hl:(gl W.length fun i=>(W.getD i []).drop c).length=W.length:=wD;have hR:∀i,i<W.length→Row p N ((gl W.length fun i=>(W.getD i []).drop c).getD i []):=fun i hi=>by have hr:=h.red.row i hi;rw[xV hi];refine⟨by rw[K1,hr.1];omega,fun j hj=>?_⟩;rw[zBr];exact hr.2 (c+j) (by omega)
 obtain⟨R3,pv3,_,_,g3,g4⟩:=kL hp (n:=N) (by omega) (rows:=gl W.length fun i=>(W.getD i []).drop c) (by omega) (by rw[hl];exact hR);have g5:=zH5 hp (n:=N) (by omega) (by omega) (by rw[hl];exact hR) g3 g4;have hul:(gl N (ur N)).length=N:=wD;have hent:∀i j,i<N→j<N→ent (gl N (ur N)) i j=if j=i then 1 else 0:=fun i j hi hj=>by rw[ent,xV hi,ur,yG hj]
 have hid:Red p N (gl N (ur N)) (fun i=>i):=by
  refine⟨fun i hi=>?_,fun i hi=>by omega,fun i hi=>?_,fun i hi j hj=>?_,fun i k hi hk hne=>?_,fun i j hij hj=>hij⟩
  ·rw[hul]at hi
   rw[xV hi];refine⟨yC _ _,fun j hj=>?_⟩;rw[ur,yG hj];split<;>omega
  ·rw[hul]at hi
   rw[hent i i hi hi,if_pos rfl]
  ·rw[hul]at hi
   rw[hent i j hi (by omega),if_neg (by omega)]
  ·rw[hul]at hi hk
   rw[hent k i hk hi,if_neg (Ne.symm hne)]
 have g6:=hid.le_of (by omega) g3 (fun i hi=>by rw[hul]at hi;refine g4.iff.2 ?_;obtain⟨cf,hcf⟩:=h.sp.2 i (by rw[zC9 h.row];exact hi);refine⟨cf,fun j hj=>?_⟩;have h1:=hcf (c+j) (by omega);have h2:=zBs h.row hi hj;simp only[ent]at h2;rw[h2]at h1;have h3:=hent i j hi hj;simp only[ent]at h3;rw[h3,hl,←h1];exact congrArg (· %p) (xG fun k hk=>by rw[ent,xV hk,zBr]))
 omega
 omit h in
theorem zNf{N:Nat}(hN:N≤100000):f_H (N:Int)=some (gl N (ur N)):=by
  have _:=hp;have _:=hcN;unfold f_H;rw[uQ (body:=zLV (N:Int)) N (ur N) (fun i acc hi ha=>by
    unfold zLV;simp only
    rw[xK hi,zN,xR (by omega),bs,uF,Kr,if_pos hi,bs,Je,tT,jB,yO (by simp;omega),bs,zC (by omega) (by omega),bs,cs];rfl) (fun acc=>by
    unfold zLV;simp only
    rw[xX,zL]),bs]
 omit h in
theorem zP0(hr:∀i,i<N→Row p c (A.getD i []))(hl:A.length=N):zUD p A=f_p p (wd N A):=by
  unfold zUD;rw[hl,zNf hp hcN (by omega),bs,uQ (body:=zMf A (gl N (ur N))) N (fun i=>A.getD i []++ur N i) (fun i acc hi ha=>by
    unfold zMf;simp only
    rw[hl,xK hi,zN,xD [] (by omega),bs,qJ (by rw[(hr i hi).1];omega),bs,zEA hi,bs,yO (by rw[(hr i hi).1,ur,yC];omega),bs,yO (by simp;omega),bs,zC (by omega) (by omega),bs,cs]) (fun acc=>by
    unfold zMf;simp only
    rw[hl,xX,zL]),bs]
  show(f_p p (wd N A)).bind _=_;cases f_p p (wd N A)<;>rfl
theorem zP1:zI (zPS (c:Int) W) ([],0)=some (nul c t W):=by
 have hf:=h.full hp hcN;have hle:=h.le;have:=zZ (body:=zPS (c:Int) W) (r:=nul c t W) (fun i=>(gl (i-t) (fun k=>(W.getD (t+k) []).drop c),(i:Int))) W.length (fun i hi=>by
  have hr:=h.red.row i hi;have h1:=h.red.one i hi;have hlt:=h.red.lt i hi;have hlead:=zJH (n:=c+N) hr.1 (by omega) hlt (h.red.low i hi) (by simp only[ent]at h1;omega);unfold zPS;simp only
  rw[xK hi,zN,xD [] hi,bs,hlead,bs];rcases Jk i t with g|g
  ·have:=h.lo i g
   rw[decide_eq_false (by omega),zL,zC (by omega) (by omega),bs,cs,show i-t=0 from by omega,show i+1-t=0 from by omega]
  ·have:=h.hi i g hi
   have e:yB (W.getD i []) (c:Int) ((W.getD i []).length:Int)=some ((W.getD i []).drop c):=by unfold yB;rw[if_pos ⟨by omega,by rw[hr.1];omega,by omega⟩,Je,Je,Jr (by rw[K1];omega)]
   rw[decide_eq_true (by omega),zN,bs,e,bs,qJ (by rw[K1,hr.1];omega),bs,yO (by rw[wD];simp;omega),bs,zC (by omega) (by omega),bs,cs,show i+1-t=(i-t)+1 from by omega,←zEB,show t+(i-t)=i from by omega]) (by
  unfold zPS;simp only
  rw[xX,zL];rfl)
 rw[show 0-t=0 from by omega]at this;exact this
end
end Go.Pl

namespace Go.Pl
open Go Go.Ab Go.Wk Go.Pc
theorem zO1{β:Type}{n:Nat}{F:Nat→β}:gl (n+1) F=gl n F++[F n]:=zEB.symm
theorem zO2{β:Type}{L:Nat}{F:Nat→List β}:∀{n:Nat},(∀i,i<n→(F i).length=L)→(gl n F).flatten.length=n*L
 |0,_=>by simp[gl]
 |n+1,h=>by rw[zO1,Qo,J5,zO2 fun i hi=>h i (by omega),Jy];simp[h n (by omega)]
theorem zR7{β:Type}{body:List β×Int→Option ((List β×Int)⊕List β)}(n L:Nat)(F:Nat→List β)(a0:List β)(hF:∀i,i<n→(F i).length=L)
  (h:∀i acc,i<n→acc.length=a0.length+i*L→body (acc,(i:Int))=some (.inl (acc++F i,((i+1:Nat):Int))))(he:∀acc,body (acc,(n:Int))=some (.inr acc)):
  zI body (a0,0)=some (a0++(gl n F).flatten):=by
 have:=zZ (body:=body) (r:=a0++(gl n F).flatten) (fun i=>(a0++(gl i F).flatten,(i:Int))) n (fun i hi=>by rw[h i _ hi (by rw[J5,zO2 fun j hj=>hF j (by omega)]),zO1,Qo,Ja];simp) (he _)
 simpa[gl]using this
end Go.Pl

namespace Go.Pl
open Go Go.Ab Go.Wk Go.Pc
end Go.Pl

namespace Go.Pl
open Go Go.Ab Go.Wk Go.Pc
theorem zH9{α:Type}{f:α→α}{a:α}(h:f a=a):∀k,iter k f a=a
 |0=>rfl
 |k+1=>by show iter k f (f a)=a;rw[h];exact zH9 h k
theorem zR8{p:Int}{D:Nat}{A:List Mx}:∀(v:Vec)(o:Nat)(B:Mx),o+v.length≤A.length→wM p D A (nw o v) B=img (PM p D) (A.drop o) v B
 | [],o,B,_=>by simp[nw,wM,img]
 |a::v,o,B,h=>by
  simp only[J6]at h;have e:A.drop o=A.getD o []::A.drop (o+1):=by rw[G8 (by omega),J2,J3 (by omega)];rfl
  rw[e];simp only[nw,img];rw[zFz,zMT,zR8 v (o+1) _ (by omega)]
theorem zCA:∀(k o:Nat),nw o (zeros k)=[]
 |0,_=>rfl
 |k+1,o=>by rw[show zeros (k+1)=0::zeros k from rfl];simp only[nw];rw[zCA k];rfl
section
variable {x:SPr}{m:zG}{D:Nat} (h:Pres x) (hm:zR0 x.zA.length m D) (hr:zF0 x m D)
 include hm
 include h hr
theorem zO3:∀(d k:Nat),k+d=x.zA.length→Rel (PM m.Prime D) (idM D) (suf x k) (m.zQ.drop k)
 |0,k,hk=>by rw[vP (by omega),Jb5 (by rw[hm.len];omega)];exact rfl
 |d+1,k,hkd=>by
  have h6:=h.os.1;have hk:k<x.zA.length:=by omega
  have hlen:=hm.len;have e:m.zQ.drop k=m.zQ.getD k []::m.zQ.drop (k+1):=by rw[G8 (by omega),J2,J3 (by omega)];rfl
  obtain⟨t1,t2,t3⟩:=h.tl k hk;obtain⟨r1,r2⟩:=hr k hk;have hword:∀v,Exp x.zA v k→wM m.Prime D m.zQ (nw 0 v) (idM D)=img (PM m.Prime D) (m.zQ.drop (k+1)) (v.drop (k+1)) (idM D):=fun v hv=>by
   have hl:=hv.1.1
   conv=>lhs;rw[zAj hv hk]
   rw[zCW,zCA,Ji,yA,zR8 _ _ _ (by rw[K1];omega),Jf]
  rw[yE hk,e];refine⟨?_,fun q c dd hc hd=>?_,zO3 d (k+1) (by omega)⟩
  ·show pw (PM m.Prime D) (idM D) (m.zQ.getD k []) (lvl x k).o.toNat=img (PM m.Prime D) (m.zQ.drop (k+1)) ((x.zU.getD k []).drop (k+1)) (idM D)
   rw[←hword _ t1,←r1,zMT];rfl
  ·rw[Ko]at hc
   have hq:k+1+q<m.zQ.length:=by
    rcases Jk (k+1+q) m.zQ.length with g|g
    ·exact g
    ·rw[Jz g]at hc;simp at hc
   have hcm:c=m.zQ.getD (k+1+q) []:=by rw[J2,hc];rfl
   have hdm:dd=((x.zF.getD k []).getD q []).drop (k+1):=by
    simp only[lvl,K0]at hd;rw[J2];cases hg:(x.zF.getD k [])[q]? with
    |none=>rw[hg]at hd;simp at hd
    |some u=>rw[hg]at hd;simp only[Hj,Lb.injEq]at hd;exact hd.symm
   have:=r2 (k+1+q) (by omega) (by omega);rw[show k+1+q-(k+1)=q from by omega]at this;rw[hcm,hdm,this,hword _ (t3 q (by omega))]
end
end Go.Pl

namespace Go.Pl
open Go Go.Ab Go.Wk Go.Pc
theorem zED{p:Int}{c N:Nat}(hcN:c+N≤100000){A:Mx}(hr:∀i,i<N→Row p c (A.getD i []))(hl:A.length=N):zU9 A=some (wd N A):=by
 unfold zU9;rw[uQ (body:=zMb A) N (fun i=>A.getD i []++ur N i) (fun i acc hi ha=>by
  have h1:=(hr i hi).1;have e:xQ (J1 (c+N) (0:Int)) 0 ((A.getD i []).take (((J1 (c+N) (0:Int)).length)-0))=A.getD i []++J1 N 0:=by
   unfold xQ;rw[Jh,Jr (l:=A.getD i []) (by omega),K6,Ji,h1,H6]
   congr 2;omega
  have e2:ixO (A.getD i []++J1 N (0:Int)) ((c+i:Nat):Int)=some 0:=by rw[uF,J8 (by omega),h1,Kr,if_pos (by omega)]
  unfold zMb;simp only
  rw[hl,xK hi,zN,xD [] (by omega),bs,h1,←U0,zC (by omega) (by omega),bs,xR (by omega),bs,←U0,zC (by omega) (by omega),bs,e,e2,bs,Je,Ge _ _ (by omega),h1,Hb,tT,jB,yO (by simp;omega),bs,zC (by omega) (by omega),bs,cs];rfl) (fun acc=>by
  unfold zMb;simp only
  rw[hl,xX,zL]),bs]
 rfl
end Go.Pl

namespace Go.Pl
open Go Go.Ab Go.Wk Go.Pc
theorem zL6{p:Int}(hp:Prime p){n:Nat}(hn:n≤100000){R:Mx}{pv:Nat→Nat}(h:Red p n R pv):f_p p R=some R∧f_j p R=some R:=by have h7:=hp.pos;have hl:R.length≤n:=h.len_le;obtain⟨R2,pv2,r1,r2,r3,r4⟩:=kL hp hn (rows:=R) (by omega) h.row;have e:=r3.unique (by omega) h r4;rw[e]at r1 r2;exact⟨r1,r2⟩
section
variable {p:Int} (hp:Prime p) {c N:Nat} (hcN:c+N≤100000) {A W:Mx}{pv:Nat→Nat}{t:Nat}
 include hp hcN
theorem zL7(h:Nul p c N A W pv t):zI (zPZ (c:Int) W) ([],0)=some (nul c t W):=by
 have h7:=hp.pos;have hf:=h.full hp hcN;have hle:=h.le;have:=zZ (body:=zPZ (c:Int) W) (r:=nul c t W) (fun i=>(gl (i-t) (fun k=>(W.getD (t+k) []).drop c),(i:Int))) W.length (fun i hi=>by
  have hr:=h.red.row i hi;have h1:=h.red.one i hi;have e0:yB (W.getD i []) 0 (c:Int)=some ((W.getD i []).take c):=by unfold yB;rw[if_pos ⟨by omega,by omega,by rw[hr.1];omega⟩,Je,show(0:Int).toNat=0 from rfl,G4,U7]
  have htl:((W.getD i []).take c).length=c:=by rw[Ka,hr.1];omega
  have hz:=zJL (v:=(W.getD i []).take c) (by omega);unfold zPZ;simp only
  rw[xK hi,zN,xD [] hi,bs,e0,bs];rcases Jk i t with g|g
  ·have hlo:=h.lo i g
   rcases hz with⟨_,z⟩|⟨z,_⟩
   ·have:=z (pv i) (by omega)
    rw[zH8 hlo]at this;simp only[ent]at h1;omega
   ·rw[z,bs,zL,zC (by omega) (by omega),bs,cs,show i-t=0 from by omega,show i+1-t=0 from by omega]
  ·have hhi:=h.hi i g hi
   have e:yB (W.getD i []) (c:Int) ((W.getD i []).length:Int)=some ((W.getD i []).drop c):=by unfold yB;rw[if_pos ⟨by omega,by rw[hr.1];omega,by omega⟩,Je,Je,Jr (by rw[K1];omega)]
   rcases hz with⟨z,_⟩|⟨_,z⟩
   ·rw[z,bs,zN,e,bs,yO (by rw[wD];simp;omega),bs,zC (by omega) (by omega),bs,cs,show i+1-t=(i-t)+1 from by omega,←zEB,show t+(i-t)=i from by omega]
   ·refine absurd (fun j hj=>?_) z
    rw[htl]at hj;rw[zH8 hj];have:=h.red.low i hi j (by omega);simpa only[ent]using this) (by
  unfold zPZ;simp only
  rw[xX,zL];rfl)
 rw[show 0-t=0 from by omega]at this;exact this
theorem zF2(hr:∀i,i<N→Row p c (A.getD i []))(hl:A.length=N):∃K pk,f_U p A (c:Int)=some K∧f_D p A (c:Int)=some K∧Red p N K pk∧ ∀x,Sp p N K x↔ ∀j,j<c→(S N fun k=>at0 x k*ent A k j)%p=0:=by
 obtain⟨W,pv,t,h1,h2,h3⟩:=Nul.get hp hcN hr hl;refine⟨nul c t W,_,?_,?_,h1.nred hp hcN,fun x=>h1.nsp hp hcN⟩
 ·unfold f_U
  rw[zP0 hp hcN hr hl,h2,bs,zP1 hp hcN h1,bs]
 ·unfold f_D
  rw[zED hcN hr hl,bs,h3,bs,zL7 hp hcN h1,bs,(zL6 hp (by omega) (h1.nred hp hcN)).2,bs]
end
end Go.Pl

namespace Go.Pl
open Go Go.Ab Go.Wk Go.Pc
section
variable {x:SPr} (h:Pres x)
 include h
theorem zR9:∀k,k≤x.zA.length→2*((Jl k).flatMap (R2 x)).length+k*k+k=2*(x.zA.length*k)
 |0,_=>by simp
 |k+1,hk=>by
  have ih:=zR9 k (by omega);have t2:=(h.tl k (by omega)).2.1;have e:((Jl (k+1)).flatMap (R2 x)).length=((Jl k).flatMap (R2 x)).length+(x.zF.getD k []).length:=by rw[Lq,Lx,J5];simp[R2]
  have e3:(k+1)*(k+1)=k*k+2*k+1:=by rw[Jai (k+1) k,Jy k k];omega
  have e4:x.zA.length*(k+1)=x.zA.length*k+x.zA.length:=Jai _ _;rw[e,e3,e4];omega
theorem zP2:2*(uP x).length=x.zA.length*(x.zA.length+1):=by have:=zR9 h x.zA.length (Jp _);simp only[uP,J5,Jc,Kt];rw[Jai];omega
end
theorem zF3{α:Type}{F:α→List Int}{D:Nat}:∀(L:List α),(∀q∈L,(F q).length=D)→((L.map F).flatten).length=L.length*D
 | [],_=>by simp
 |y::L,h=>by
  have:=zF3 L fun q hq=>h q (by simp[hq])
  have:=h y (by simp);simp only[Ju,Lp,J5,J6,Jy];omega
def zL8{α:Type}(N:Nat)(F:Nat→α→List Int)(L:List α):Mx:=gl N fun k=>(L.map (F k)).flatten
section
variable {α:Type}{p:Int}{N D:Nat}{F:Nat→α→List Int} (hF:∀k,k<N→ ∀q,Row p D (F k q))
 include hF
theorem zP3(L:List α):∀k,k<N→Row p (L.length*D) ((zL8 N F L).getD k []):=by intro k hk;rw[zL8,xV hk];refine zO0.2 ⟨zF3 L fun q _=>(hF k hk q).1,fun v hv=>?_⟩;obtain⟨r,h1,h2⟩:=List.mem_flatten.1 hv;obtain⟨q,_,rfl⟩:=Jt.1 h1;exact(zO0.1 (hF k hk q)).2 v h2
end
def zEE(n D:Nat)(v:List Int):Mx:=gl n fun i=>mkv D fun j=>at0 v (i*D+j)
theorem zRA{v:List Int}{D a:Nat}(h:a+D≤v.length):(v.drop a).take D=mkv D fun j=>at0 v (a+j):=by
 have hl:((v.drop a).take D).length=D:=by rw[Ka,K1];omega
 rw[vR hl];exact zX fun j hj=>by rw[zH8 hj,zBr]
theorem zF4{v:List Int}{D a:Nat}(h:a+D≤v.length):yB v (a:Int) ((a+D:Nat):Int)=some (mkv D fun j=>at0 v (a+j)):=by unfold yB;rw[if_pos ⟨by omega,by omega,by omega⟩,Je,Je,Hb,zRA h]
theorem zWI{p:Int}{n D:Nat}{v:List Int}(hv:Row p (n*D) v):VOk n p D (zEE n D v):=by
 refine⟨wD,fun i hi=>?_⟩;rw[zEE,xV hi];refine⟨yC _ _,fun j hj=>?_⟩;rw[yG hj];have:i*D+D≤n*D:=by have:=Kg D (show i+1≤n by omega);rw[Jy]at this;exact this
 exact hv.2 _ (by omega)
end Go.Pl

namespace Go.Pl
open Go Go.Ab Go.Wk Go.Pc
end Go.Pl

namespace Go.Pl
open Go Go.Ab Go.Wk Go.Pc
theorem zO4{n D i:Nat}(hi:i<n):i*D+D≤n*D:=by have:=Kg D (show i+1≤n by omega);rw[Jy]at this;exact this
theorem zHA{n D:Nat}(hD:1≤D){v:List Int}(hl:v.length=n*D)(hs:n*D≤100000):f_P v (D:Int)=some (zEE n D v):=by
 have hn:n≤n*D:=Jbd n hD;have:=zZ (body:=zPT v (D:Int)) (r:=zEE n D v) (fun i=>(gl i fun i=>mkv D fun j=>at0 v (i*D+j),((i*D:Nat):Int))) n (fun i hi=>by
  have h1:=zO4 (D:=D) hi;unfold zPT;simp only
  rw[decide_eq_true (by omega),zN,←U0,zC (by omega) (by omega),bs,zF4 (by omega),bs,zDQ (by rw[yC];omega),bs,yO (by rw[wD];simp;omega),bs,bs,zEB,←Jy]) (by
  unfold zPT;simp only
  rw[decide_eq_false (by omega),zL];rfl)
 unfold f_P;rw[show((0*D:Nat):Int)=0 from by simp]at this;have e:zI (zPT v (D:Int)) ([],0)=some (zEE n D v):=this;rw[e,bs]
theorem zRB{n D:Nat}(hD:1≤D)(hD3:D≤1000){v:List Int}(hl:v.length=n*D)(hs:n*D≤100000):f_V v (D:Int)=some (zEE n D v):=by
 have hn:n≤n*D:=Jbd n hD;have:=zZ (body:=zQa v (D:Int)) (r:=zEE n D v) (fun i=>(gl i fun i=>mkv D fun j=>at0 v (i*D+j),((i*D:Nat):Int))) n (fun i hi=>by
  have h1:=zO4 (D:=D) hi;unfold zQa;simp only
  rw[←U0,zC (by omega) (by omega),bs,decide_eq_true (by omega),zN,bs,zF4 (by omega),bs,qJ (by rw[yC];omega),bs,yO (by rw[wD];simp;omega),bs,bs,zEB,←Jy]) (by
  unfold zQa;simp only
  rw[←U0,zC (by omega) (by omega),bs,decide_eq_false (by omega),zL];rfl)
 unfold f_V;rw[show((0*D:Nat):Int)=0 from by simp]at this;have e:zI (zQa v (D:Int)) ([],0)=some (zEE n D v):=this;rw[e,bs]
section
variable {x:SPr} (h:Pres x) {m:zG}{D:Nat} (hm:MOk x.zA.length m D)
 include h hm
section
variable {vals:Mx} (hv:VOk x.zA.length m.Prime D vals)
 include hv
theorem zNg:f_q x m vals=some ((uP x).map (dfc m D vals)):=by
 have h6:=h.os.1;have h7:=hm.p.pos;have h3:=hm.d3;have hpl:=h.pl;have hcl:=h.cl;have hz:=zH3 (p:=m.Prime) (D:=D) (by omega);unfold f_q;rw[hm.d,xR (by omega),bs];have e1:=uQ (body:=zTp x m vals D) x.zA.length (fun i=>dfc m D vals (r1 x i)) (fun i acc hi ha=>by
  obtain⟨p1,p2⟩:=zAl h.os (h.tl i hi).1;have ho:=(h.os.2 i hi).pos;unfold zTp;simp only
  rw[xK hi,zN];rw[uS (S:=Row m.Prime D) (body:=zTo x m vals (acc,(i:Int))) (fun v=>v) (fun v=>stp m D vals v i) (at0 x.zA i) (by omega) (fun v _=>zBD hm h6 hv) (fun u q hu hq=>by
   unfold zTo;simp only
   rw[yT hi,bs,decide_eq_true hq,zN,zBp hm h6 hv hu hi,bs,zC (by omega) (by omega),bs,cs]) (fun u hu=>by
   unfold zTo;simp only
   rw[yT hi,bs,decide_eq_false (by omega),zL]) hz,bs,zC (by omega) (by omega),bs,xD [] (by omega),bs,zFV hm h6 hv hz p1 p2,bs,←zMV]
  have e1:f_w m.Prime (ev m D vals (z0 D) (J1 (at0 x.zA i).toNat i)) (m.Prime-1) (ev m D vals (z0 D) (nw 0 (x.zU.getD i [])))=some (dfc m D vals (r1 x i)):=by rw[tM hm.p (zDP hm h6 hv hz _) (zDP hm h6 hv hz _) (by omega) (by omega),zDO];rfl
  rw[e1,bs,yO (by simp;omega),bs,zC (by omega) (by omega),bs,cs]) (fun acc=>by
  unfold zTp;simp only
  rw[xX,zL])
 rw[e1,bs];have hfm:=zJC h;have e2:=zZ (body:=zQb x m vals D) (r:=(uP x).map (dfc m D vals)) (fun i=>(((Jl x.zA.length).map (fun i=>dfc m D vals (r1 x i)))++((Jl i).flatMap (R2 x)).map (dfc m D vals),(i:Int))) x.zA.length (fun i hi=>by
  have t2:=(h.tl i hi).2.1;have hfi:=hfm i (by omega);unfold zQb;simp only
  rw[xK hi,zN,zC (by omega) (by omega),bs,cs];have hin:=zZ (body:=zTq x m vals D (((Jl x.zA.length).map (fun i=>dfc m D vals (r1 x i)))++((Jl i).flatMap (R2 x)).map (dfc m D vals),(i:Int)))
   (r:=((Jl x.zA.length).map (fun i=>dfc m D vals (r1 x i)))++((Jl (i+1)).flatMap (R2 x)).map (dfc m D vals))
   (fun j=>(((Jl x.zA.length).map (fun i=>dfc m D vals (r1 x i)))++((Jl i).flatMap (R2 x)).map (dfc m D vals)++(Jl j).map (fun j=>dfc m D vals (r2 x i j)),((i+1+j:Nat):Int))) (x.zF.getD i []).length (fun j hj=>by
   obtain⟨c1,c2⟩:=zAl h.os ((h.tl i hi).2.2 j hj);have hjn:i+1+j<x.zA.length:=by omega
   have s1:=zBp hm h6 hv hz hjn;have s2:=zBp hm h6 hv (zBD hm h6 hv (v:=z0 D) (w:=i+1+j)) hi;have s3:=zBp hm h6 hv hz hi;have s4:=zFV hm h6 hv (zBD hm h6 hv (v:=z0 D) (w:=i)) c1 c2;unfold zTq;simp only
   rw[xK hjn,zN,s1,bs,s2,bs,s3,bs,xD [] (by omega),bs,zC (by omega) (by omega),bs,zC (by omega) (by omega),bs,show(((i+1+j:Nat):Int)-(i:Int)-1)=(j:Int)from by omega,xD [] hj,bs,s4,bs,zC (by omega) (by omega),bs];have e2:f_w m.Prime (stp m D vals (stp m D vals (z0 D) (i+1+j)) i) (m.Prime-1) (ev m D vals (stp m D vals (z0 D) i) (nw 0 ((x.zF.getD i []).getD j [])))=some (dfc m D vals (r2 x i j)):=by rw[tM hm.p (zBD hm h6 hv) (zDP hm h6 hv (zBD hm h6 hv) _) (by omega) (by omega),zDO];simp only[dfc,r2,ev,Gw,Jae];rw[show i+j+1=i+1+j from by omega]
   rw[e2,bs,yO (by simp only[J5,Jc,Kt,G7];omega),bs,zC (by omega) (by omega),bs,cs,Lq,Ks,Ja];rfl) (by
   unfold zTq;simp only
   rw[show i+1+(x.zF.getD i []).length=x.zA.length from by omega,xX,zL,Lq (n:=i),Lx,Ks,←Ja];simp[R2])
  simp only[Q5,Lw,J9,U8]at hin;rw[hin,bs,bs]) (by
  unfold zQb;simp only
  rw[xX,zL];simp only[uP,Ks,Jbp];rfl)
 simp only[Q5,Jaf,Lw,J9]at e2;have e3:zI (zQb x m vals D) ((Jl x.zA.length).map (fun i=>dfc m D vals (r1 x i)),0)=some ((uP x).map (dfc m D vals)):=e2;rw[e3,bs]
end
def uv(n D k:Nat):Mx:=zEE n D (kM (n*D) k)
theorem zO5{k:Nat}:VOk x.zA.length m.Prime D (uv x.zA.length D k):=by have _:=h;have h7:=hm.p.pos;exact zWI (zPz h7.1)
theorem zWJ:∀k,k<x.zA.length*D→ ∀q,Row m.Prime D (dfc m D (uv x.zA.length D k) q):=fun k _ q=>by have _:=h;exact zAw hm.p
theorem zRC{k:Nat}:f_P (kM (x.zA.length*D) k) (D:Int)=some (uv x.zA.length D k):=by have h6:=h.os.1;have h3:=hm.d3;have hnd:x.zA.length*D≤9*3:=K4 h6 h3;exact zHA hm.d1 (yC _ _) (by omega)
theorem zWK{k:Nat}:f_V (kM (x.zA.length*D) k) (D:Int)=some (uv x.zA.length D k):=by have h6:=h.os.1;have h3:=hm.d3;have hnd:x.zA.length*D≤9*3:=K4 h6 h3;exact zRB hm.d1 (by omega) (yC _ _) (by omega)
theorem zHB{vals:Mx}{L:List Rl}:((L.map (dfc m D vals)).flatten).length=L.length*D:=by have _:=h;have _:=hm;exact zF3 L fun q _=>zR1
theorem zGg:zTs x m=some (zL8 (x.zA.length*D) (fun k=>dfc m D (uv x.zA.length D k)) (uP x)):=by
 have h6:=h.os.1;have h3:=hm.d3;have hnd:x.zA.length*D≤9*3:=K4 h6 h3;have hrl:=zJE h hm (zO5 h hm (k:=0));have hrD:(uP x).length*D≤100*3:=K4 hrl h3;unfold zTs;rw[hm.d,←L5,zC (by omega) (by omega),bs];rw[uQ (body:=zMo x m ((x.zA.length*D:Nat):Int)) (x.zA.length*D) (fun k=>((uP x).map (dfc m D (uv x.zA.length D k))).flatten) (fun k acc hk ha=>by
  unfold zMo;simp only
  rw[xK hk,zN,zGf hk (by omega),bs,hm.d,zRC h hm,bs,zJF h hm (zO5 h hm (k:=k)),bs,zAD (by simp;omega) (by rw[zHB h hm];omega),bs,yO (by simp;omega),bs,zC (by omega) (by omega),bs,cs]) (fun acc=>by
  unfold zMo;simp only
  rw[xX,zL]),bs]
 rfl
theorem zP4{k N:Nat}:(J1 N (0:Int)).set k 1=kM N k:=by have _:=h;have _:=hm;rw[tT,jB,kM]
theorem zL9:zUO x m=some (zL8 (x.zA.length*D) (fun k=>dfc m D (uv x.zA.length D k)) (uP x)):=by
 have h6:=h.os.1;have h3:=hm.d3;have hnd:x.zA.length*D≤9*3:=K4 h6 h3;have hrl:=zJE h hm (zO5 h hm (k:=0));have hrD:(uP x).length*D≤100*3:=K4 hrl h3;unfold zUO;rw[hm.d,←L5,zC (by omega) (by omega),bs];rw[uQ (body:=zMn x m ((x.zA.length*D:Nat):Int)) (x.zA.length*D) (fun k=>((uP x).map (dfc m D (uv x.zA.length D k))).flatten) (fun k acc hk ha=>by
  unfold zMn;simp only
  rw[xK hk,zN,xR (by omega),bs,uF,Kr,if_pos hk,bs,Je,zP4 h hm,hm.d,zWK h hm,bs,zNg h hm (zO5 h hm (k:=k)),bs,zPy (by simp;omega) (by rw[zHB h hm];omega),bs,yO (by simp;omega),bs,zC (by omega) (by omega),bs,cs]) (fun acc=>by
  unfold zMn;simp only
  rw[xX,zL]),bs]
 rfl
end
end Go.Pl

namespace Go.Pl
open Go Go.Ab Go.Wk Go.Pc
end Go.Pl

namespace Go.Pl
open Go Go.Ab Go.Wk Go.Pc
end Go.Pl

namespace Go.Pl
open Go Go.Ab Go.Wk Go.Pc
theorem zHC{N c:Nat}{f:Nat→Int}:(mkv N f).drop c=mkv (N-c) fun i=>f (c+i):=by
 have hl:((mkv N f).drop c).length=N-c:=by rw[K1,yC]
 rw[vR hl];exact zX fun j hj=>by rw[zBr,yG (by omega)]
theorem kN{n j:Nat}:xJ n j=mkv n fun i=>if i=j then 1 else 0:=by rw[xJ,show zeros n=J1 n (0:Int)from rfl,tT,jB]
theorem tX{n i:Nat}:at0 (zeros n) i=0:=by
 rcases Jk i n with g|g
 ·simp[zeros,at0,J2,g]
 ·simp[zeros,at0,J2,g]
structure ExB (n D:Nat) (x:SPr) (m:zG) (T:Mx):Prop where
 hn:n≤6
 o:x.zA.length=n
 p:x.zU.length=n
 c:x.zF.length=n
 cl:∀i,i<n→(x.zF.getD i []).length=n-1-i
 t:T.length=base n n
 m:zR0 n m D
section
variable {D:Nat}{x:SPr}{m:zG}{T:Mx} (h:Pres x) (hE:ExB x.zA.length D x m T) (hT:∀i,i<T.length→Row m.Prime D (T.getD i []))
 include h hE hT
abbrev exx(D:Nat)(x:SPr)(m:zG)(T:Mx):SPr:=ext x.zA.length D x m T
theorem wJ:(exx D x m T).zA.length=x.zA.length+D:=by have _:=h;have _:=hE;have _:=hT;simp[exx,ext]
theorem uY{i:Nat}(hi:i<x.zA.length):at0 (exx D x m T).zA i=at0 x.zA i:=by have _:=h;have _:=hE;have _:=hT;show at0 (x.zA++J1 D m.Prime) i=_;rw[zCZ,if_pos hi]
theorem zBG{i:Nat}(hi:x.zA.length≤i)(h2:i<x.zA.length+D):at0 (exx D x m T).zA i=m.Prime:=by have _:=h;have _:=hE;have _:=hT;show at0 (x.zA++J1 D m.Prime) i=_;rw[zCZ,if_neg (by omega)];simp[at0,J2,show i-x.zA.length<D by omega]
theorem zNh{v t:List Int}{i:Nat}(hv:v.length=x.zA.length)(hr:∀j,j<x.zA.length→0≤at0 v j∧at0 v j≤at0 x.zA j-1)(hz:∀j,j≤i→j<x.zA.length→at0 v j=0)(ht:Row m.Prime D t)(hi:i<x.zA.length):Exp (exx D x m T).zA (v++t) i:=by
 have hl:=wJ h hE hT;refine⟨⟨by rw[J5,hv,ht.1,hl],fun j hj=>?_⟩,fun j hj=>?_⟩
 ·rw[J5,hv,ht.1]at hj
  rw[zCZ,hv];split
  ·next g=>rw[uY h hE hT g];exact hr j g
  ·next g=>rw[zBG h hE hT (by omega) hj];exact ht.2 _ (by omega)
 ·rw[zCZ,if_pos (by omega)];exact hz j hj (by omega)
theorem zLA(i:Nat)(hi:i<base x.zA.length x.zA.length):Row m.Prime D (T.getD i []):=by have _:=h;exact hT i (by rw[hE.t];exact hi)
theorem zGs:zFT (exx D x m T):=by
 have hn:=hE.hn;have h3:=hE.m.d3;have h7:=hE.m.p.pos;have hl:=wJ h hE hT;have hb:=vO x.zA.length (by omega);refine⟨⟨trivial,fun i hi=>?_⟩,by rw[hl];exact wD,by rw[hl];exact wD,fun i hi=>?_⟩
 ·rw[hl]at hi
  rcases Jk i x.zA.length with g|g
  ·rw[uY h hE hT g];exact h.os.2 i g
  ·rw[zBG h hE hT g hi];exact hE.m.p
 ·rw[hl]at hi
  have hP:(exx D x m T).zU.getD i []=exP x.zA.length D x T i:=xV hi;have hC:(exx D x m T).zF.getD i []=exC x.zA.length D x m T i:=by show(gl (x.zA.length+D) (exC x.zA.length D x m T)).getD i []=_;simp[gl,J2,hi]
  refine⟨?_,?_,?_⟩
  ·rw[hP,exP]
   rcases Jk i x.zA.length with g|g
   ·rw[if_pos g]
    obtain⟨t1,_,_⟩:=h.tl i g;exact zNh h hE hT t1.1.1 (fun j hj=>t1.1.2 j (by rw[t1.1.1];exact hj)) (fun j hj _=>t1.2 j hj) (zLA h hE hT i (by omega)) g
   ·rw[if_neg (by omega)]
    have hz:∀j,at0 (J1 (x.zA.length+D) (0:Int)) j=0:=fun j=>tX
    refine⟨⟨by rw[hl,Jh],fun j hj=>?_⟩,fun j _=>hz j⟩;rw[Jh]at hj;rw[hz];rcases Jk j x.zA.length with g2|g2
    ·rw[uY h hE hT g2];have:=(h.os.2 j g2).pos;omega
    ·rw[zBG h hE hT g2 hj];omega
  ·rw[hC,exC,hl]
   split
   ·rw[wD];omega
   ·rw[unC,wD];omega
  ·rw[hC,exC]
   split
   ·next g=>
    intro j hj;rw[wD]at hj;rw[xV hj,exF];split
    ·next g2=>
     have hcl:=hE.cl i g;have hbl:=zBF x.zA.length (by omega) i g;obtain⟨_,_,t3⟩:=h.tl i g;have t:=t3 j (by omega);exact zNh h hE hT t.1.1 (fun q hq=>t.1.2 q (by rw[t.1.1];exact hq)) (fun q hq _=>t.2 q hq) (zLA h hE hT _ (by omega)) g
    ·next g2=>
     have hz:∀j,at0 (J1 x.zA.length (0:Int)) j=0:=fun j=>tX
     refine zNh h hE hT (by simp) (fun q hq=>?_) (fun q _ _=>hz q) ((hE.m.mat i g).2 _ (by omega)) g;rw[hz];have:=(h.os.2 q hq).pos;omega
   ·next g=>
    intro j hj;rw[unC,wD]at hj;rw[unC,xV hj];refine⟨⟨by rw[hl];exact yC _ _,fun q hq=>?_⟩,fun q hq=>?_⟩
    ·rw[kM,yC]at hq
     rw[kM,yG hq];rcases Jk q x.zA.length with g2|g2
     ·rw[uY h hE hT g2];have:=(h.os.2 q g2).pos;split<;>omega
     ·rw[zBG h hE hT g2 hq];split<;>omega
    ·rw[kM,yG (by omega),if_neg (by omega)]
theorem zBt{k:Nat}(hk:k<x.zA.length):(lvl (exx D x m T) k).o=at0 x.zA k:=uY h hE hT hk
theorem zHD{k:Nat}(hk:k<x.zA.length):(lvl (exx D x m T) k).w=(lvl x k).w++T.getD k []:=by have t1:=(h.tl k hk).1.1.1;have _:=hE;have _:=hT;show((exx D x m T).zU.getD k []).drop (k+1)=_;have hP:(exx D x m T).zU.getD k []=exP x.zA.length D x T k:=xV (by omega);rw[hP,exP,if_pos hk,Kn (by omega)];rfl
def eC1(x:SPr)(T:Mx)(k:Nat):List Vec:=gl (x.zA.length-1-k) fun j=>(lvl x k).cs.getD j []++T.getD (base x.zA.length k+j) []
def eC2(x:SPr)(m:zG)(D k:Nat):List Vec:=((gl D fun j=>(m.zQ.getD k []).getD j []).map fun r=>zeros (x.zA.length-1-k)++r)
theorem zBH{k:Nat}(hk:k<x.zA.length):(lvl (exx D x m T) k).cs=eC1 x T k++eC2 x m D k:=by
 have hcl:=hE.cl k hk;have _:=hT;show((exx D x m T).zF.getD k []).map (·.drop (k+1))=_;have hC:(exx D x m T).zF.getD k []=exC x.zA.length D x m T k:=by show(gl (x.zA.length+D) (exC x.zA.length D x m T)).getD k []=_;simp[gl,J2,show k<x.zA.length+D by omega]
 rw[hC,exC,if_pos hk];apply La;intro j
 by_cases hj:j<x.zA.length+D-1-k
 ·have e1:((gl (x.zA.length+D-1-k) (exF x.zA.length x m T k)).map (·.drop (k+1)))[j]? =some ((exF x.zA.length x m T k j).drop (k+1)):=by simp[gl,hj]
  rw[e1,exF]
  by_cases g:j<x.zA.length-1-k
  ·rw[if_pos g,Jm (by rw[eC1,wD];exact g)]
   have t:=(h.tl k hk).2.2 j (by omega);rw[Kn (by have:=t.1.1;omega)];have e2:(eC1 x T k)[j]? =some ((lvl x k).cs.getD j []++T.getD (base x.zA.length k+j) []):=by simp[eC1,gl,g]
   rw[e2]
   congr 2
   simp only[lvl,J2,K0];rw[J3 (l:=x.zF[k]?.getD []) (by rw[J2]at hcl;omega)];rfl
  ·rw[if_neg g,J8 (by rw[eC1,wD];omega),eC1,wD]
   have e2:(eC2 x m D k)[j-(x.zA.length-1-k)]? =some (zeros (x.zA.length-1-k)++(m.zQ.getD k []).getD (j-(x.zA.length-1-k)) []):=by simp[eC2,gl,show j-(x.zA.length-1-k)<D by omega]
   rw[e2,Kn (by simp;omega),H6,show x.zA.length-(k+1)=x.zA.length-1-k from by omega];rfl
 ·rw[Jz (by simp[gl];omega),Jz (by simp[eC1,eC2,gl];omega)]
end
def tlv(p:Int):Nat→Pcp
 |0=>[]
 |d+1=>⟨p,zeros d,wL d⟩::tlv p d
theorem zGt{p:Int}:∀d,(tlv p d).length=d
 |0=>rfl
 |d+1=>by simp[tlv,zGt d]
theorem zDz{p:Int}:∀(d:Nat)(v:Vec),V (tlv p d) v↔Row p d v
 |0,v=>by
  constructor
  ·intro h
   obtain rfl:v=[]:=h;exact⟨rfl,fun i hi=>by omega⟩
  ·intro h
   have:=Kb h.1;subst this;exact rfl
 |d+1,v=>by
  cases v with
  |nil=>exact⟨fun h=>h.elim,fun h=>by have:=h.1;simp at this⟩
  |cons a v=>
   show((0≤a∧a<p)∧V (tlv p d) v)↔_;rw[zDz d v];constructor
   ·rintro⟨⟨h0,h1⟩,h2⟩
    refine⟨by simp[h2.1],fun i hi=>?_⟩;cases i with
    |zero=>simp only[at0,Lu];omega
    |succ i=>have:=h2.2 i (by omega);simpa[at0]using this
   ·intro h
    have h0:=h.2 0 (by omega);simp only[at0,Lu]at h0;refine⟨⟨h0.1,by omega⟩,by have:=h.1;simpa using this,fun i hi=>?_⟩;have:=h.2 (i+1) (by omega);simpa[at0]using this
abbrev adv(p:Int)(D:Nat)(u v:List Int):List Int:=mkv D fun j=>(at0 u j+at0 v j)%p
theorem sW{p:Int}{D:Nat}{u v:List Int}(hp:0<p):Row p D (adv p D u v):=by refine⟨yC _ _,fun j hj=>?_⟩;rw[yG hj];have e1:=Le (at0 u j+at0 v j) (show p≠0 by omega);have e2:=Kv (at0 u j+at0 v j) hp;omega
theorem zHE{p:Int}{D:Nat}{c:List Int}(hp:0<p):∀(k:Nat)(acc:List Int),Row p D acc→iter k (fun w=>adv p D w c) acc=mkv D fun j=>(at0 acc j+(k:Int)*at0 c j)%p
 |0,acc,ha=>by
  show acc=_
  conv=>lhs;rw[vR ha.1]
  refine zX fun j hj=>?_
  have:=ha.2 j hj;rw[Int.natCast_zero,U9,Ha,Ke this.1 (by omega)]
 |k+1,acc,ha=>by
  show iter k (fun w=>adv p D w c) (adv p D acc c)=_;rw[zHE hp k _ (sW hp)];refine zX fun j hj=>?_
  rw[yG hj,Kl,Kc,←Kl,←cs,Qf]
  congr 1;omega
theorem zWL{f:Nat→Int}{n:Nat}:S (n+1) f=f 0+S n fun i=>f (i+1):=by
 rw[Jcn,zGr 1 n];simp only[S];rw[Lo]
 congr 1
 exact xG fun i _=>by rw[Jcn]
theorem zGu{p:Int}{D:Nat}(hp:0<p):∀(cs:List Vec)(v acc:Vec),v.length=cs.length→(∀i,i<v.length→0≤at0 v i)→Row p D acc→img (adv p D) cs v acc=mkv D fun j=>(at0 acc j+S cs.length fun k=>at0 v k*ent cs k j)%p
 | [],v,acc,hl,_,ha=>by
  show acc=_
  conv=>lhs;rw[vR ha.1]
  refine zX fun j hj=>?_
  have:=ha.2 j hj;simp only[Jw,S];rw[Ha,Ke this.1 (by omega)]
 |c::cs,[],acc,hl,_,_=>by simp at hl
 |c::cs,a::v,acc,hl,hv,ha=>by
  have h0:=hv 0 (by simp);simp only[at0,Lu]at h0;have hrow:Row p D (iter a.toNat (fun w=>adv p D w c) acc):=vK (S:=Row p D) (fun _ _=>sW hp) _ ha;show img (adv p D) cs v (iter a.toNat (fun w=>adv p D w c) acc)=_;rw[zGu hp cs v _ (by simpa using hl) (fun i hi=>by have:=hv (i+1) (by simpa using hi);simpa[at0]using this) hrow,zHE hp _ _ ha];refine zX fun j hj=>?_
  rw[yG hj,J6,zWL,Kl,Kc,←Kl,Jd8 h0,Int.add_assoc];rfl
theorem zDa{α:Type}{S:α→Prop}{m m':α→α→α}(hm:∀a b,S a→S b→m a b=m' a b)(hc:∀a b,S a→S b→S (m' a b)):∀(cs:List α)(v:Vec)(acc:α),(∀c∈cs,S c)→S acc→img m cs v acc=img m' cs v acc
 | [],_,_,_,_=>by simp[img]
 |c::cs,[],_,_,_=>by simp[img]
 |c::cs,a::v,acc,h1,h2=>by
  have hcS:=h1 c (by simp);have e:∀k acc,S acc→iter k (fun w=>m w c) acc=iter k (fun w=>m' w c) acc∧S (iter k (fun w=>m' w c) acc):=by
   intro k
   induction k with
   |zero=>intro acc ha;exact⟨rfl,ha⟩
   |succ k ih=>
    intro acc ha;show iter k (fun w=>m w c) (m acc c)=iter k (fun w=>m' w c) (m' acc c)∧_;rw[hm acc c ha hcS];exact ih _ (hc _ _ ha hcS)
  show img m cs v (iter a.toNat (fun w=>m w c) acc)=img m' cs v (iter a.toNat (fun w=>m' w c) acc);rw[(e _ _ h2).1];exact zDa hm hc cs v _ (fun c hc=>h1 c (by simp[hc])) (e _ _ h2).2
theorem zDb{d k j:Nat}(hk:k<d)(hj:j<d):ent (wL d) k j=if j=k then 1 else 0:=by
 have e:(wL d).getD k []=xJ d k:=by simp[wL,J2,hk]
 rw[ent,e,kN,yG hj]
theorem xL{p:Int}{D:Nat}(hp:0<p):Row p D (zeros D):=zH3 hp
theorem qN{p:Int}(hp:2≤p):∀(d:Nat)(u v:Vec),Row p d u→Row p d v→mul (tlv p d) u v=adv p d u v
 |0,u,v,hu,_=>by have:=Kb hu.1;subst this;rfl
 |d+1,u,v,hu,hv=>by
  have ih:=qN hp d;have hu':=(zDz (d+1) u).2 hu;have hv':=(zDz (d+1) v).2 hv;cases u with
  |nil=>exact hu'.elim
  |cons a u=>
   cases v with
   |nil=>exact hv'.elim
   |cons b v=>
    obtain⟨⟨a0,a1⟩,hu2⟩:=hu';obtain⟨⟨b0,b1⟩,hv2⟩:=hv';have hu3:=(zDz d u).1 hu2;have hv3:=(zDz d v).1 hv2;change a<p at a1;change b<p at b1;have hsig:∀w,Row p d w→sig (tlv p d) ⟨p,zeros d,wL d⟩ w=w:=fun w hw=>by
     have hur:∀c∈wL d,Row p d c:=fun c hc=>by obtain⟨k,hk,rfl⟩:=Jt.1 hc;rw[kN];exact⟨yC _ _,fun j hj=>by rw[yG hj];split<;>omega⟩
     unfold sig;rw[zGt,zDa (S:=Row p d) (m':=adv p d) (fun a b ha hb=>ih a b ha hb) (fun _ _ _ _=>sW (by omega)) (wL d) w _ hur (xL (by omega)),zGu (by omega) (wL d) w _ (by rw[hw.1];simp[wL]) (fun i hi=>(hw.2 i (by rw[←hw.1];exact hi)).1) (xL (by omega))]
     conv=>rhs;rw[vR hw.1]
     refine zX fun j hj=>?_
     have hul:(wL d).length=d:=by simp[wL]
     have:=hw.2 j hj;rw[hul,tX,Lo,kW (k:=j) hj (fun k hk hne=>by rw[zDb hk hj,if_neg (Ne.symm hne),Ld]),zDb hj hj,if_pos rfl,Ho,Ke this.1 (by omega)]
    have hit:∀k,iter k (sig (tlv p d) ⟨p,zeros d,wL d⟩) u=u:=fun k=>zH9 (hsig u hu3) k
    show mul (⟨p,zeros d,wL d⟩::tlv p d) (a::u) (b::v)=_;rw[yW,hit,ih u v hu3 hv3];have hz:adv p d (zeros d) (adv p d u v)=adv p d u v:=by
     refine zX fun j hj=>?_
     rw[yG hj,tX,Lo,Kc]
    rw[ih _ _ (xL (by omega)) (sW (by omega)),hz];have hcons:adv p (d+1) (a::u) (b::v)=(a+b)%p::adv p d u v:=by
     simp only[adv,mkv,Jb1,Ju,Jbp]
     congr 1
    rw[hcons];split
    ·next g=>
     have g:a+b≥p:=g;have e:(a+b)%p=a+b-p:=by rw[show a+b=(a+b-p)+p from by omega,Un,Ke (by omega) (by omega)];omega
     exact congrArg (· ::_) e.symm
    ·next g=>
     have g:¬a+b≥p:=g
     congr 1
     exact(Ke (by omega) (by omega)).symm
end Go.Pl

namespace Go.Pl
open Go Go.Ab Go.Wk Go.Pc
theorem zO6{α:Type}{m:α→α→α}:∀(c1:List α)(y:Vec)(c2:List α)(u:Vec)(acc:α),c1.length=y.length→img m (c1++c2) (y++u) acc=img m c2 u (img m c1 y acc)
 | [],[],_,_,_,_=>by cases ‹List α›<;>rfl
 | [],_::_,_,_,_,h=>by simp at h
 |_::_,[],_,_,_,h=>by simp at h
 |c::c1,a::y,c2,u,acc,h=>zO6 c1 y c2 u _ (by simpa using h)
theorem zEF{α β:Type}{S:α→Prop}{m:α→α→α}{n:β→β→β}(φ:α→β)(hS:∀a b,S a→S b→S (m a b))(hm:∀a b,S a→S b→φ (m a b)=n (φ a) (φ b)):∀(cs:List α)(v:Vec)(a:α),(∀c∈cs,S c)→S a→φ (img m cs v a)=img n (cs.map φ) v (φ a)
 | [],v,a,_,_=>by cases v<;>rfl
 |_::_,[],_,_,_=>rfl
 |c::cs,t::v,a,hc,ha=>by
  have hcS:=hc c (by simp);have e:∀k a,S a→φ (iter k (fun w=>m w c) a)=iter k (fun w=>n w (φ c)) (φ a)∧S (iter k (fun w=>m w c) a):=by
   intro k
   induction k with
   |zero=>intro a ha;exact⟨rfl,ha⟩
   |succ k ih=>
    intro a ha;have:=ih (m a c) (hS _ _ ha hcS);rw[hm a c ha hcS]at this;exact this
  show φ (img m cs v (iter t.toNat (fun w=>m w c) a))=img n (cs.map φ) v (iter t.toNat (fun w=>n w (φ c)) (φ a));rw[←(e _ a ha).1];exact zEF φ hS hm cs v _ (fun c h=>hc c (by simp[h])) (e _ a ha).2
theorem jD{p:Int}{D:Nat}{r:List Int}(hr:Row p D r):wC p D r (idM D)=r:=by
 conv=>rhs;rw[vR hr.1]
 refine zX fun j hj=>?_
 have:=hr.2 j hj;have e:∀l,l<D→ent (idM D) l j=if j=l then 1 else 0:=fun l hl=>by rw[ent,zCV hl,yG hj]
 rw[kW (k:=j) hj (fun k hk hne=>by rw[e k hk,if_neg (Ne.symm hne),Ld]),e j hj,if_pos rfl,Ho,sU this]
theorem zEG{p:Int}{D:Nat}{r:List Int}{A B:Mx}(hA:A.length=D):wC p D (wC p D r A) B=wC p D r (PM p D A B):=by
 refine zX fun j hj=>?_
 have e1:S D (fun l=>at0 (wC p D r A) l*ent B l j)%p=S D (fun l=>S D (fun i=>at0 r i*ent A i l)*ent B l j)%p:=kJ fun l hl=>by rw[wC,yG hl,Jx,Kc,←Jx]
 have e2:S D (fun l=>at0 r l*ent (PM p D A B) l j)%p=S D (fun i=>at0 r i*S D (fun l=>ent A i l*ent B l j))%p:=kJ fun l hl=>by rw[zMR hA hl hj,Jx,Kc,←Jx]
 rw[e1,e2]
 congr 1
 have e3:S D (fun l=>S D (fun i=>at0 r i*ent A i l)*ent B l j)=S D (fun l=>S D (fun i=>at0 r i*ent A i l*ent B l j)):=xG fun l _=>(zLq _ _).symm
 rw[e3,zHx];refine xG fun i _=>?_
 rw[←zC6];exact xG fun l _=>by rw[Hf]
theorem vS{p:Int}{D:Nat}{v:List Int}(hv:Row p D v):adv p D (zeros D) v=v:=by
 conv=>rhs;rw[vR hv.1]
 refine zX fun j hj=>?_
 rw[tX,Lo,sU (hv.2 j hj)]
theorem zAx{p:Int}{D:Nat}{v:List Int}(hv:Row p D v):adv p D v (zeros D)=v:=by
 conv=>rhs;rw[vR hv.1]
 refine zX fun j hj=>?_
 rw[tX,Ha,sU (hv.2 j hj)]
theorem zRD{p:Int}{D:Nat}{acc v:List Int}{A:Mx}(hl:A.length=D):(mkv D fun j=>(at0 acc j+S A.length fun k=>at0 v k*ent A k j)%p)=adv p D acc (wC p D v A):=by
 refine zX fun j hj=>?_
 rw[wC,yG hj,hl,Jbu]
theorem tF{p:Int}{D:Nat}{u v:List Int}:adv p D u v=adv p D v u:=zX fun j _=>by rw[Int.add_comm]
theorem zUg{p:Int}{D:Nat}{u v w:List Int}(hv:Row p D v)(hw:Row p D w):adv p D u v=adv p D u w↔v=w:=by
 constructor
 ·intro h
  rw[vR hv.1,vR hw.1];refine zX fun j hj=>?_
  have e:at0 (adv p D u v) j=at0 (adv p D u w) j:=by rw[h]
  rw[adv,adv,yG hj,yG hj]at e;have h1:=hv.2 j hj;have h2:=hw.2 j hj;have h3:=Int.emod_emod_of_dvd (at0 u j+at0 v j) (Int.dvd_refl p);have e4:(at0 u j+at0 v j-at0 u j)%p=(at0 u j+at0 w j-at0 u j)%p:=by rw[Int.sub_emod,e,←Int.sub_emod]
  rw[show at0 u j+at0 v j-at0 u j=at0 v j from by omega,show at0 u j+at0 w j-at0 u j=at0 w j from by omega,sU h1,sU h2]at e4;exact e4
 ·intro h;rw[h]
section
variable {D:Nat}{x:SPr}{m:zG}{T:Mx} (h:Pres x) (hE:ExB x.zA.length D x m T) (hT:∀i,i<T.length→Row m.Prime D (T.getD i []))
 include h hE hT
theorem zAg:∀(d k:Nat),x.zA.length≤k→k+d=x.zA.length+D→suf (exx D x m T) k=tlv m.Prime d
 |0,k,hk,hd=>by rw[vP (by rw[wJ h hE hT];omega)];rfl
 |d+1,k,hk,hd=>by
  have hl:=wJ h hE hT;rw[yE (by omega),zAg d (k+1) (by omega) (by omega),tlv]
  congr 1
  have hP:(exx D x m T).zU.getD k []=exP x.zA.length D x T k:=xV (by omega);have hC:(exx D x m T).zF.getD k []=exC x.zA.length D x m T k:=by show(gl (x.zA.length+D) (exC x.zA.length D x m T)).getD k []=_;simp[gl,J2,show k<x.zA.length+D by omega]
  unfold lvl;rw[hP,hC,exP,exC,if_neg (by omega),if_neg (by omega),zBG h hE hT hk (by omega),H6,show x.zA.length+D-(k+1)=d from by omega]
  congr 1
  rw[unC,wL,gl,Jbp,show x.zA.length+D-1-k=d from by omega];refine Qm fun j hj=>?_
  have hj:=Kq.1 hj;show(kM (x.zA.length+D) (k+1+j)).drop (k+1)=xJ d j;rw[kM,zHC,kN,show x.zA.length+D-(k+1)=d from by omega];refine zX fun i _=>?_
  by_cases g:i=j
  ·rw[if_pos g,if_pos (by omega)]
  ·rw[if_neg g,if_neg (by omega)]
theorem sG:∀(d k:Nat),k+d=x.zA.length→ ∀v,V (suf (exx D x m T) k) v↔ ∃y u,v=y++u∧V (suf x k) y∧Row m.Prime D u
 |0,k,hk,v=>by
  rw[zAg h hE hT D k (by omega) (by omega),zDz,vP (x:=x) (k:=k) (by omega)];constructor
  ·intro g;exact⟨[],v,rfl,rfl,g⟩
  ·rintro⟨y,u,rfl,hy,hu⟩
   obtain rfl:y=[]:=hy;exact hu
 |d+1,k,hk,v=>by
  have hl:=wJ h hE hT;have ih:=sG d (k+1) (by omega);rw[yE (x:=exx D x m T) (by omega),yE (x:=x) (by omega)];cases v with
  |nil=>
   refine⟨fun g=>g.elim,?_⟩
   rintro⟨y,u,e,hy,hu⟩
   cases y with
   |nil=>exact hy.elim
   |cons a y=>simp at e
  |cons a v=>
   show((0≤a∧a<(lvl (exx D x m T) k).o)∧V (suf (exx D x m T) (k+1)) v)↔_;rw[zBt h hE hT (by omega),ih v];constructor
   ·rintro⟨g,y,u,rfl,hy,hu⟩
    exact⟨a::y,u,rfl,⟨g,hy⟩,hu⟩
   ·rintro⟨y,u,e,hy,hu⟩
    cases y with
    |nil=>exact hy.elim
    |cons b y=>
     simp only[Jq,Jc1.injEq]at e;obtain⟨rfl,rfl⟩:=e;exact⟨hy.1,y,u,rfl,hy.2,hu⟩
theorem zEH:∀(d k:Nat),k+d=x.zA.length→ ∀y u r,V (suf x k) y→Row m.Prime D u→Row m.Prime D r→mul (suf (exx D x m T) k) (y++u) (zeros d++r)=y++adv m.Prime D u r
 |0,k,hk,y,u,r,hy,hu,hr=>by have hp:=hE.m.p.pos;rw[vP (x:=x) (k:=k) (by omega)]at hy;obtain rfl:y=[]:=hy;rw[zAg h hE hT D k (by omega) (by omega)];exact qN (by omega) D u r hu hr
 |d+1,k,hk,y,u,r,hy,hu,hr=>by
  have hl:=wJ h hE hT;rw[yE (x:=x) (by omega)]at hy;cases y with
  |nil=>exact hy.elim
  |cons a y=>
   obtain⟨⟨a0,a1⟩,hy⟩:=hy;change a<at0 x.zA k at a1;rw[yE (x:=exx D x m T) (by omega)];show mul _ (a::(y++u)) (0::(zeros d++r))=_;rw[yW,zBt h hE hT (by omega),if_neg (by omega)];show(a+0)::mul _ (y++u) (zeros d++r)=_;rw[zEH d (k+1) (by omega) y u r hy hu hr,Ha];rfl
theorem vZ{k:Nat}(hk:k≤x.zA.length+D):Pc.Ok (suf (exx D x m T) k):=(zGs h hE hT).okAt (by rw[wJ h hE hT];exact hk)
theorem zNi{d k:Nat}(hk:k+d=x.zA.length):∀(rs:List Vec)(v:Vec)(y u:Vec),(∀r∈rs,Row m.Prime D r)→V (suf x k) y→Row m.Prime D u→img (mul (suf (exx D x m T) k)) (rs.map fun r=>zeros d++r) v (y++u)=y++img (adv m.Prime D) rs v u
 | [],v,y,u,_,_,_=>by cases v<;>rfl
 |_::_,[],_,_,_,_,_=>rfl
 |c::rs,t::v,y,u,hr,hy,hu=>by
  have hp:=hE.m.p.pos;have hc:=hr c (by simp);have e:∀q u,Row m.Prime D u→iter q (fun w=>mul (suf (exx D x m T) k) w (zeros d++c)) (y++u)=y++iter q (fun w=>adv m.Prime D w c) u:=by
   intro q
   induction q with
   |zero=>intro u _;rfl
   |succ q ih=>
    intro u hu;show iter q _ (mul _ (y++u) (zeros d++c))=_;rw[zEH h hE hT d k hk y u c hy hu hc,ih _ (sW (by omega))];rfl
  show img _ (rs.map fun r=>zeros d++r) v (iter t.toNat (fun w=>mul (suf (exx D x m T) k) w (zeros d++c)) (y++u))=_;rw[e _ _ hu,zNi hk rs v y _ (fun r h=>hr r (by simp[h])) hy (vK (S:=Row m.Prime D) (fun _ _=>sW (by omega)) _ hu)];rfl
theorem zWM{k:Nat}(hk:k<x.zA.length):(gl D fun j=>(m.zQ.getD k []).getD j [])=m.zQ.getD k []:=by
 have _:=h;have _:=hT;have hl:=(hE.m.mat k hk).1;apply La;intro j;simp only[gl,K0]
 by_cases g:j<D
 ·rw[Ut g,Hj,J2 (i:=j),J3 (by omega)];rfl
 ·rw[Jz (by simp;omega),Jz (by omega)];rfl
def sgG(D:Nat)(x:SPr)(m:zG)(T:Mx)(k:Nat)(y:Vec):Vec:=img (mul (suf (exx D x m T) (k+1))) (eC1 x T k) y (zeros (suf (exx D x m T) (k+1)).length)
theorem uR{k:Nat}:(eC1 x T k).length=x.zA.length-1-k:=by have _:=h;have _:=hE;have _:=hT;rw[eC1,wD]
theorem zO7{k:Nat}(hk:k<x.zA.length):∀c∈eC1 x T k,V (suf (exx D x m T) (k+1)) c:=by intro c hc;have ok:=vZ h hE hT (k:=k) (by omega);rw[yE (by rw[wJ h hE hT];omega)]at ok;exact ok.2.2.2.1 c (by rw[zBH h hE hT hk];exact Gk _ hc)
theorem zAQ{k:Nat}(hk:k≤x.zA.length):zeros (suf (exx D x m T) k).length=zeros (x.zA.length-k)++zeros D:=by rw[yM,wJ h hE hT];simp only[zeros,Jv];congr 1;omega
theorem zHF{k:Nat}(hk:k<x.zA.length){y:Vec}:V (suf (exx D x m T) (k+1)) (sgG D x m T k y):=by have ok:=vZ h hE hT (k:=k+1) (by omega);exact jA (xE ok) _ _ (zO7 h hE hT hk) (wP ok)
theorem zBI{k:Nat}(hk:k<x.zA.length){y u:Vec}(hy:V (suf x (k+1)) y)(hu:Row m.Prime D u):
  sig (suf (exx D x m T) (k+1)) (lvl (exx D x m T) k) (y++u)=(sgG D x m T k y).take (x.zA.length-(k+1))++adv m.Prime D ((sgG D x m T k y).drop (x.zA.length-(k+1))) (wC m.Prime D u (m.zQ.getD k [])):=by
 have hp:=hE.m.p.pos;have hA:=hE.m.mat k hk;have hyl:=wY h (by omega) hy;unfold sig;rw[zBH h hE hT hk,zO6 _ _ _ _ _ (by rw[uR h hE hT];omega)];show img _ (eC2 x m D k) u (sgG D x m T k y)=_;obtain⟨y1,u1,e,hy1,hu1⟩:=(sG h hE hT (x.zA.length-(k+1)) (k+1) (by omega) _).1 (zHF h hE hT hk (y:=y));have hy1l:=wY h (by omega) hy1;rw[e,eC2,zWM h hE hT hk,show x.zA.length-1-k=x.zA.length-(k+1)from by omega,zNi h hE hT (by omega) _ _ _ _ (fun r hr=>?_) hy1 hu1,zGu (by omega) _ _ _ (by rw[hA.1,hu.1]) (fun i hi=>(hu.2 i (by rw[←hu.1];exact hi)).1) hu1,zRD hA.1,Jn hy1l,K3 hy1l];obtain⟨j,hj,rfl⟩:=G3.1 hr;have hAl:=hA.1;have:=hA.2 j (by omega)
 rwa [J2,J3 hj]at this
theorem zGv{k:Nat}(hk:k<x.zA.length){u:Vec}(hu:Row m.Prime D u):
  sig (suf (exx D x m T) (k+1)) (lvl (exx D x m T) k) (zeros (x.zA.length-(k+1))++u)=zeros (x.zA.length-(k+1))++wC m.Prime D u (m.zQ.getD k []):=by
 have hp:=hE.m.p.pos;have ok:=h.okAt (k:=k+1) (by omega);have hz:=wP ok;rw[yM]at hz;have e:sgG D x m T k (zeros (x.zA.length-(k+1)))=zeros (x.zA.length-(k+1))++zeros D:=by unfold sgG;rw[sT,zAQ h hE hT (by omega)]
 rw[zBI h hE hT hk hz hu,e,Jn (yA _),K3 (yA _),vS (wX (by omega))]
theorem zHG{k:Nat}(hk:k<x.zA.length):∀(q:Nat){u:Vec},Row m.Prime D u→
  iter q (sig (suf (exx D x m T) (k+1)) (lvl (exx D x m T) k)) (zeros (x.zA.length-(k+1))++u)=zeros (x.zA.length-(k+1))++iter q (fun u=>wC m.Prime D u (m.zQ.getD k [])) u
 |0,u,_=>rfl
 |q+1,u,hu=>by have hp:=hE.m.p.pos;show iter q _ (sig _ _ _)=_;rw[zGv h hE hT hk hu,zHG hk q (wX (by omega))];rfl
end
end Go.Pl

namespace Go.Pl
open Go Go.Ab Go.Wk Go.Pc
theorem zF5{p:Int}{D:Nat}{A:Mx}(hA:Mat p D A)(hp:2≤p){r:List Int}(hr:Row p D r):∀q,iter q (fun u=>wC p D u A) r=wC p D r (pw (PM p D) (idM D) A q)
 |0=>(jD hr).symm
 |q+1=>by
  have hm:Mat p D (pw (PM p D) (idM D) A q):=vK (S:=Mat p D) (fun _ hB=>zHy (by omega) hB.1) q (qM hp);unfold pw at*
  rw[wW,wW,zF5 hA hp hr q];exact zEG hm.1
theorem zRE{p:Int}{D:Nat}(hp:0<p){r:List Int}:iter p.toNat (fun w=>adv p D w r) (zeros D)=zeros D:=by
 rw[zHE hp _ _ (xL hp)];rw[show zeros D=mkv D fun _=>0 from tT D];refine zX fun j hj=>?_
 rw[yG hj,Jd8 (by omega),Lo,Int.mul_emod_right]
theorem zAy{p:Int}{D:Nat}{A:Mx}:wC p D (zeros D) A=zeros D:=by
 rw[show zeros D=mkv D fun _=>0 from tT D];refine zX fun j hj=>?_
 rw[xG (g:=fun _=>0) fun l hl=>by rw[yG hl,U9],qB,Int.zero_emod]
theorem zP5{p:Int}{D q:Nat}{A:Mx}(hq:q<D)(hA:Mat p D A):wC p D (xJ D q) A=A.getD q []:=by
 have hr:=hA.2 q hq
 conv=>rhs;rw[vR hr.1]
 refine zX fun j hj=>?_
 rw[kN,kW (k:=q) hq (fun i hi hne=>by rw[yG hi,if_neg hne,U9]),yG hq,if_pos rfl,Ja5,sU (hr.2 j hj)]
theorem tY{p:Int}{D q:Nat}(hp:2≤p):Row p D (xJ D q):=by rw[kN];exact⟨yC _ _,fun j hj=>by rw[yG hj];split<;>omega⟩
theorem zLB{N D q:Nat}(hq:q<D):xJ (N+D) (N+q)=zeros N++xJ D q:=by rw[zAe (by omega),zAe hq,←Ja];simp only[zeros,Jv];rw[show N+D-(N+q+1)=D-(q+1)from by omega]
def aM(m:zG)(D k:Nat)(v:Vec):Mx:=img (PM m.Prime D) (m.zQ.drop k) v (idM D)
theorem zRF{p:Int}{D:Nat}(hp:2≤p):Mon (Mat p D) (PM p D) (idM D):=
 ⟨fun ha _=>zHy (by omega) ha.1,qM (by omega),fun ha hb _=>zLr ha.1 hb.1,fun ha=>zE2 ha,fun ha=>zC7 ha⟩
section
variable {D:Nat}{x:SPr}{m:zG}{T:Mx} (h:Pres x) (hE:ExB x.zA.length D x m T) (hT:∀i,i<T.length→Row m.Prime D (T.getD i []))
 include h hE hT
theorem zRG{k:Nat}(hk:k<x.zA.length):(eC1 x T k).map (·.take (x.zA.length-(k+1)))=(lvl x k).cs:=by
 have _:=hE;have _:=hT;have hcl:=zAk h.w hk;apply La;intro j
 by_cases g:j<x.zA.length-(k+1)
 ·obtain⟨c,_,_,c3,c4⟩:=zEz h hk g
  have hl:=wY h (by omega) c3;have e1:((eC1 x T k).map (·.take (x.zA.length-(k+1))))[j]? =some (((lvl x k).cs.getD j []++T.getD (base x.zA.length k+j) []).take (x.zA.length-(k+1))):=by simp[eC1,gl,show j<x.zA.length-1-k by omega]
  rw[e1,c4,Jn hl,J3 (by omega)];rw[J2,J3 (by omega)]at c4;exact congrArg some c4.symm
 ·rw[Jz (by simp[eC1,gl];omega),Jz (by omega)]
theorem zLC{k:Nat}(hk:k<x.zA.length):m.zQ.drop k=m.zQ.getD k []::m.zQ.drop (k+1):=by have _:=h;have _:=hT;have hl:=hE.m.len;rw[G8 (by omega),J2,J3 (by omega)];rfl
theorem zUh{k:Nat}(hk:k<x.zA.length){b:Int}{y:Vec}:aM m D k (b::y)=PM m.Prime D (pw (PM m.Prime D) (idM D) (m.zQ.getD k []) b.toNat) (aM m D (k+1) y):=by
 have M:=zRF hE.m.p.pos.1 (D:=D);unfold aM;rw[zLC h hE hT hk];refine qI M (hE.m.mat k hk) fun c hc=>?_
 obtain⟨i,hi,rfl⟩:=G3.1 (Jbo hc);have:=hE.m.mat i (by rw[←hE.m.len];exact hi)
 rwa [J2,J3 hi]at this
theorem pwM{k q:Nat}(hk:k<x.zA.length):Mat m.Prime D (pw (PM m.Prime D) (idM D) (m.zQ.getD k []) q):=by have _:=h;have _:=hT;have _:=hk;have hp:=hE.m.p.pos;exact vK (S:=Mat m.Prime D) (fun _ hB=>zHy (by omega) hB.1) q (qM (by omega))
theorem zO8:∀(d k:Nat),k+d=x.zA.length→ ∀r y v,Row m.Prime D r→V (suf x k) y→Row m.Prime D v→mul (suf (exx D x m T) k) (zeros d++r) (y++v)=y++adv m.Prime D (wC m.Prime D r (aM m D k y)) v
 |0,k,hk,r,y,v,hr,hy,hv=>by
  have hp:=hE.m.p.pos;rw[vP (x:=x) (k:=k) (by omega)]at hy;obtain rfl:y=[]:=hy;rw[zAg h hE hT D k (by omega) (by omega)];have e:aM m D k []=idM D:=by unfold aM;cases m.zQ.drop k<;>rfl
  rw[e,jD hr];exact qN (by omega) D r v hr hv
 |d+1,k,hk,r,y,v,hr,hy,hv=>by
  have hl:=wJ h hE hT;have hp:=hE.m.p.pos;have hA:=hE.m.mat k (by omega);rw[yE (x:=x) (by omega)]at hy;cases y with
  |nil=>exact hy.elim
  |cons b y=>
   obtain⟨⟨b0,b1⟩,hy⟩:=hy;change b<at0 x.zA k at b1;rw[yE (x:=exx D x m T) (by omega)];show mul _ (0::(zeros d++r)) (b::(y++v))=_;have e:=zHG h hE hT (k:=k) (by omega) b.toNat hr;rw[show x.zA.length-(k+1)=d from by omega]at e;rw[yW,zBt h hE hT (by omega),if_neg (by omega),e,zF5 hA (by omega) hr,zO8 d (k+1) (by omega) _ y v (wX (by omega)) hy hv,Lo,zUh h hE hT (by omega),←zEG (pwM h hE hT (by omega)).1];rfl
theorem zLD{k:Nat}(hk:k<x.zA.length)(ih:∀a b,V (suf (exx D x m T) (k+1)) a→V (suf (exx D x m T) (k+1)) b→(mul (suf (exx D x m T) (k+1)) a b).take (x.zA.length-(k+1))=mul (suf x (k+1)) (a.take (x.zA.length-(k+1))) (b.take (x.zA.length-(k+1)))){v:Vec}(hv:V (suf (exx D x m T) (k+1)) v):
  (sig (suf (exx D x m T) (k+1)) (lvl (exx D x m T) k) v).take (x.zA.length-(k+1))=sig (suf x (k+1)) (lvl x k) (v.take (x.zA.length-(k+1))):=by
 have ok:=vZ h hE hT (k:=k+1) (by omega);obtain⟨y,u,rfl,hy,hu⟩:=(sG h hE hT (x.zA.length-(k+1)) (k+1) (by omega) _).1 hv;have hyl:=wY h (by omega) hy;obtain⟨y1,u1,e,hy1,hu1⟩:=(sG h hE hT (x.zA.length-(k+1)) (k+1) (by omega) _).1 (zHF h hE hT hk (y:=y));have hy1l:=wY h (by omega) hy1;rw[zBI h hE hT hk hy hu,Jn (by rw[e,Jn hy1l,hy1l]),Jn hyl];unfold sgG sig;rw[zEF (S:=V (suf (exx D x m T) (k+1))) (n:=mul (suf x (k+1))) (·.take (x.zA.length-(k+1))) (fun a b=>xE ok) ih _ _ _ (zO7 h hE hT hk) (wP ok),zRG h hE hT hk,zAQ h hE hT (by omega),Jn (yA _),yM]
theorem zJM:∀(d k:Nat),k+d=x.zA.length→ ∀a b,V (suf (exx D x m T) k) a→V (suf (exx D x m T) k) b→(mul (suf (exx D x m T) k) a b).take d=mul (suf x k) (a.take d) (b.take d)
 |0,k,hk,a,b,_,_=>by rw[vP (x:=x) (by omega),K6];rfl
 |d+1,k,hk,a,b,ha,hb=>by
  have hl:=wJ h hE hT;have ih:=zJM d (k+1) (by omega);have hd:d=x.zA.length-(k+1):=by omega
  have ok:=vZ h hE hT (k:=k+1) (by omega);have ok0:=vZ h hE hT (k:=k) (by omega);rw[hd]at ih;have hs:=fun v hv=>zLD h hE hT (k:=k) (by omega) ih (v:=v) hv
  rw[yE (x:=exx D x m T) (by omega)]at ha hb ok0 ⊢
  rw[yE (x:=x) (by omega)];cases a with
  |nil=>exact ha.elim
  |cons a u=>
  cases b with
  |nil=>exact hb.elim
  |cons b v=>
   have hit:∀q u,V (suf (exx D x m T) (k+1)) u→(iter q (sig (suf (exx D x m T) (k+1)) (lvl (exx D x m T) k)) u).take d=iter q (sig (suf x (k+1)) (lvl x k)) (u.take d)∧V (suf (exx D x m T) (k+1)) (iter q (sig (suf (exx D x m T) (k+1)) (lvl (exx D x m T) k)) u):=by
    intro q
    induction q with
    |zero=>intro u hu;exact⟨rfl,hu⟩
    |succ q ihq=>
     intro u hu;have:=ihq _ (zCu ok0 hu);rw[hd,hs u hu]at this;rw[hd];exact this
   obtain⟨hi1,hi2⟩:=hit b.toNat u ha.2;have hm:=xE ok hi2 hb.2;rw[yW,K9,K9,yW,zBt h hE hT (by omega),show(lvl x k).o=at0 x.zA k from rfl];have e1:=ih _ _ hi2 hb.2;rw[←hd,hi1]at e1;split
   ·rw[K9]
    have e2:=ih _ _ ok0.2.1 hm;rw[←hd,e1]at e2;rw[e2]
    congr 2
    have ht:=(h.tl k (by omega)).1;have hw:=jI ht (by omega);have hwl:(lvl x k).w.length=x.zA.length-(k+1):=wY h (by omega) hw;rw[zHD h hE hT (by omega),Jn (by omega)]
   ·rw[K9,e1]
end
end Go.Pl

namespace Go.Pl
open Go Go.Ab Go.Wk Go.Pc
theorem zP6{p:Int}{d:Nat}(hp:2≤p):∀c∈wL d,Row p d c:=fun c hc=>by obtain⟨k,_,rfl⟩:=Jt.1 hc;exact tY hp
theorem zUi{p:Int}(hp:2≤p){d:Nat}{w:Vec}(hw:Row p d w):sig (tlv p d) ⟨p,zeros d,wL d⟩ w=w:=by
 unfold sig;rw[zGt,zDa (S:=Row p d) (m':=adv p d) (fun a b ha hb=>qN hp d a b ha hb) (fun _ _ _ _=>sW (by omega)) (wL d) w _ (zP6 hp) (xL (by omega)),zGu (by omega) (wL d) w _ (by rw[hw.1];simp[wL]) (fun i hi=>(hw.2 i (by rw[←hw.1];exact hi)).1) (xL (by omega))]
 conv=>rhs;rw[vR hw.1]
 refine zX fun j hj=>?_
 have hul:(wL d).length=d:=by simp[wL]
 rw[hul,tX,Lo,kW (k:=j) hj (fun k hk hne=>by rw[zDb hk hj,if_neg (Ne.symm hne),Ld]),zDb hj hj,if_pos rfl,Ho,sU (hw.2 j hj)]
structure LCn (x e:SPr) (k:Nat):Prop where
 c1:∀j,k+1≤j→j<x.zA.length→pw (mul (suf e (k+1))) (zeros (suf e (k+1)).length) ((lvl e k).cs.getD (j-(k+1)) []) (at0 e.zA j).toNat=sig (suf e (k+1)) (lvl e k) ((e.zU.getD j []).drop (k+1))
 c2:∀i,k+1≤i→i<x.zA.length→ ∀j,i+1≤j→j<x.zA.length→
  mul (suf e (k+1)) ((lvl e k).cs.getD (j-(k+1)) []) ((lvl e k).cs.getD (i-(k+1)) [])=mul (suf e (k+1)) ((lvl e k).cs.getD (i-(k+1)) []) (sig (suf e (k+1)) (lvl e k) (((e.zF.getD i []).getD (j-(i+1)) []).drop (k+1)))
 c3:sig (suf e (k+1)) (lvl e k) (lvl e k).w=(lvl e k).w
 c4:∀j,k+1≤j→j<x.zA.length→mul (suf e (k+1)) (lvl e k).w (iter (lvl e k).o.toNat (sig (suf e (k+1)) (lvl e k)) (xJ (e.zA.length-(k+1)) (j-(k+1))))=mul (suf e (k+1)) (xJ (e.zA.length-(k+1)) (j-(k+1))) (lvl e k).w
section
variable {D:Nat}{x:SPr}{m:zG}{T:Mx} (h:Pres x) (hE:ExB x.zA.length D x m T) (hT:∀i,i<T.length→Row m.Prime D (T.getD i []))
 include h hE hT
theorem zRH{k j:Nat}(hk:k<x.zA.length)(hj:x.zA.length≤j)(h2:j<x.zA.length+D):(lvl (exx D x m T) k).cs.getD (j-(k+1)) []=zeros (x.zA.length-(k+1))++(m.zQ.getD k []).getD (j-x.zA.length) []:=by rw[zBH h hE hT hk,J2,J8 (by rw[uR h hE hT];omega),uR h hE hT,eC2];simp only[gl,K0];rw[Ut (by omega),show j-(k+1)-(x.zA.length-1-k)=j-x.zA.length from by omega,show x.zA.length-1-k=x.zA.length-(k+1)from by omega];rfl
theorem zHH{k j:Nat}(hk:k<x.zA.length)(hj:k+1≤j)(h2:j<x.zA.length):(lvl (exx D x m T) k).cs.getD (j-(k+1)) []=(lvl x k).cs.getD (j-(k+1)) []++T.getD (base x.zA.length k+(j-(k+1))) []:=by rw[zBH h hE hT hk,J2,Jm (by rw[uR h hE hT];omega),eC1];simp only[gl,K0];rw[Ut (by omega)];rfl
theorem zD0{i j:Nat}(hi:i<j)(hj:j<x.zA.length):Row m.Prime D (T.getD (base x.zA.length i+(j-(i+1))) []):=by have _:=h;have hn:=hE.hn;have hb:=zBF x.zA.length (by omega) i (by omega);exact hT _ (by rw[hE.t];omega)
theorem zBJ{i:Nat}(hi:i<x.zA.length):Row m.Prime D (T.getD i []):=by have _:=h;have hn:=hE.hn;have hb:=vO x.zA.length (by omega);exact hT _ (by rw[hE.t];omega)
theorem zDR{k j:Nat}(hj:k≤j)(h2:j<x.zA.length):((exx D x m T).zU.getD j []).drop (k+1)=(x.zU.getD j []).drop (k+1)++T.getD j []:=by have t1:=(h.tl j h2).1.1.1;have _:=hE;have _:=hT;have hP:(exx D x m T).zU.getD j []=exP x.zA.length D x T j:=xV (by omega);rw[hP,exP,if_pos h2,Kn (by omega)]
theorem zWN{k j:Nat}(hk:k<x.zA.length)(hj:x.zA.length≤j)(h2:j<x.zA.length+D):((exx D x m T).zU.getD j []).drop (k+1)=zeros (x.zA.length-(k+1))++zeros D:=by have _:=h;have _:=hE;have _:=hT;have hP:(exx D x m T).zU.getD j []=exP x.zA.length D x T j:=xV (by omega);rw[hP,exP,if_neg (by omega),H6];simp only[zeros,Jv];congr 1;omega
theorem zHI{i:Nat}(hi:i<x.zA.length+D):(exx D x m T).zF.getD i []=exC x.zA.length D x m T i:=by have _:=h;have _:=hE;have _:=hT;show(gl (x.zA.length+D) (exC x.zA.length D x m T)).getD i []=_;simp[gl,J2,hi]
theorem zF6{k i j:Nat}(hk:k≤i)(hi:i<j)(hj:j<x.zA.length):(((exx D x m T).zF.getD i []).getD (j-(i+1)) []).drop (k+1)=((x.zF.getD i []).getD (j-(i+1)) []).drop (k+1)++T.getD (base x.zA.length i+(j-(i+1))) []:=by obtain⟨_,t2,t3⟩:=h.tl i (by omega);have t:=(t3 (j-(i+1)) (by omega)).1.1;rw[zHI h hE hT (by omega),exC,if_pos (by omega),xV (by omega),exF,if_pos (by omega),Kn (by omega)]
theorem zWO{k i j:Nat}(hk:k<x.zA.length)(hi:i<x.zA.length)(hj:x.zA.length≤j)(h2:j<x.zA.length+D):(((exx D x m T).zF.getD i []).getD (j-(i+1)) []).drop (k+1)=zeros (x.zA.length-(k+1))++(m.zQ.getD i []).getD (j-x.zA.length) []:=by rw[zHI h hE hT (by omega),exC,if_pos (by omega),xV (by omega),exF,if_neg (by omega),Kn (by simp;omega),H6,show j-(i+1)-(x.zA.length-1-i)=j-x.zA.length from by omega];rfl
theorem zWP{k i j:Nat}(hk:k<x.zA.length)(hi:x.zA.length≤i)(hj:i<j)(h2:j<x.zA.length+D):(((exx D x m T).zF.getD i []).getD (j-(i+1)) []).drop (k+1)=zeros (x.zA.length-(k+1))++xJ D (j-x.zA.length):=by
 rw[zHI h hE hT (by omega),exC,if_neg (by omega),unC,xV (by omega),kM,zHC,←zLB (by omega),kN];rw[show x.zA.length+D-(k+1)=x.zA.length-(k+1)+D from by omega];refine zX fun q _=>?_
 by_cases g:q=x.zA.length-(k+1)+(j-x.zA.length)
 ·rw[if_pos g,if_pos (by omega)]
 ·rw[if_neg g,if_neg (by omega)]
theorem zUj(hr:zF0 x m D){k:Nat}(hk:k<x.zA.length):pw (PM m.Prime D) (idM D) (m.zQ.getD k []) (at0 x.zA k).toNat=aM m D (k+1) (lvl x k).w∧
  ∀i,k<i→i<x.zA.length→PM m.Prime D (m.zQ.getD i []) (m.zQ.getD k [])=PM m.Prime D (m.zQ.getD k []) (aM m D (k+1) ((lvl x k).cs.getD (i-(k+1)) [])):=by
 have R:=zO3 h hE.m hr (x.zA.length-k) k (by omega);rw[yE hk,zLC h hE hT hk]at R;obtain⟨r1,r2,_⟩:=R;refine⟨r1,fun i h1 h2=>?_⟩;have hcl:=zAk h.w hk;have hl:=hE.m.len;refine r2 (i-(k+1)) _ _ ?_ ?_
 ·rw[Ko,show k+1+(i-(k+1))=i from by omega,J2,J3 (by omega)];rfl
 ·rw[J2,J3 (by omega)];rfl
theorem zv{k:Nat}(hk:k≤x.zA.length):V (suf x k) (zeros (x.zA.length-k)):=by
 have _:=hE;have _:=hT;have:=wP (h.okAt hk)
 rwa [yM]at this
theorem zRI(hr:zF0 x m D){k:Nat}(hk:k<x.zA.length)(hc:LCn x (exx D x m T) k):LC (exx D x m T) k:=by
 have hp:=hE.m.p.pos;have hl:=wJ h hE hT;have hA:=hE.m.mat k hk;obtain⟨r1,r2⟩:=zUj h hE hT hr hk;have hz:=zv h hE hT (k:=k+1) (by omega);have hD0:Row m.Prime D (zeros D):=xL (by omega);have hw:=(zW9 h hk).2;refine⟨fun j h1 h2=>?_,fun i h1 h2 j h3 h4=>?_,hc.c3,fun j h1 h2=>?_⟩
 ·rw[hl]at h2
  rcases Jk j x.zA.length with g|g
  ·exact hc.c1 j h1 g
  ·have hq:=hA.2 (j-x.zA.length) (by omega)
   rw[zRH h hE hT hk g h2,zWN h hE hT hk g h2,zGv h hE hT hk hD0,zAy,zBG h hE hT g h2,zAQ h hE hT (by omega)];have e:=zNi h hE hT (d:=x.zA.length-(k+1)) (k:=k+1) (by omega) [(m.zQ.getD k []).getD (j-x.zA.length) []] [m.Prime] _ _ (fun r hr=>by rw[List.mem_singleton.1 hr];exact hq) hz hD0;have e2:iter m.Prime.toNat (fun w=>adv m.Prime D w ((m.zQ.getD k []).getD (j-x.zA.length) [])) (zeros D)=zeros D:=zRE (by omega);unfold pw;refine e.trans ?_;show zeros _++iter m.Prime.toNat (fun w=>adv m.Prime D w ((m.zQ.getD k []).getD (j-x.zA.length) [])) (zeros D)=_;rw[e2]
 ·rw[hl]at h4
  rcases Jk j x.zA.length with g|g
  ·exact hc.c2 i h1 (by omega) j h3 g
  ·have hq:=hA.2 (j-x.zA.length) (by omega)
   rw[zRH h hE hT hk g h4];rcases Jk i x.zA.length with gi|gi
   ·have hAi:=hE.m.mat i gi
    have hqi:=hAi.2 (j-x.zA.length) (by omega);have hcv:=(kI h hk h1 gi).2.2;have ht:=zD0 h hE hT (i:=k) (j:=i) (by omega) gi;rw[zHH h hE hT hk h1 gi,zWO h hE hT hk gi g h4,zGv h hE hT hk hqi,zO8 h hE hT _ (k+1) (by omega) _ _ _ hq hcv ht,zEH h hE hT _ (k+1) (by omega) _ _ _ hcv ht (wX (by omega)),tF]
    congr 2
    rw[←zBB (by rw[hA.1];omega),←zBB (by rw[hAi.1];omega),r2 i (by omega) gi]
   ·have hqi:=hA.2 (i-x.zA.length) (by omega)
    rw[zRH h hE hT hk gi (by omega),zWP h hE hT hk gi (by omega) h4,zGv h hE hT hk (tY (by omega)),zP5 (by omega) hA,zEH h hE hT _ (k+1) (by omega) _ _ _ hz hq hqi,zEH h hE hT _ (k+1) (by omega) _ _ _ hz hqi hq,tF]
 ·rw[hl]at h2 ⊢
  rcases Jk j x.zA.length with g|g
  ·have:=hc.c4 j h1 g
   rwa [hl]at this
  ·have ht:=zBJ h hE hT hk
   have hu:Row m.Prime D (xJ D (j-x.zA.length)):=tY (by omega);rw[show x.zA.length+D-(k+1)=x.zA.length-(k+1)+D from by omega,show j-(k+1)=x.zA.length-(k+1)+(j-x.zA.length)from by omega,zLB (by omega),zBt h hE hT hk,zHG h hE hT hk _ hu,zHD h hE hT hk,zF5 hA (by omega) hu,r1,zO8 h hE hT _ (k+1) (by omega) _ _ _ hu hw ht,zEH h hE hT _ (k+1) (by omega) _ _ _ hw ht (wX (by omega)),tF]
theorem zWQ{k:Nat}(hk:x.zA.length≤k)(h2:k<x.zA.length+D):LC (exx D x m T) k:=by
 have hp:=hE.m.p.pos;have hl:=wJ h hE hT;have hs:=zAg h hE hT (x.zA.length+D-(k+1)) (k+1) (by omega) (by omega);have hL:=zAg h hE hT (x.zA.length+D-(k+1)+1) k (by omega) (by omega);rw[yE (by omega),hs,tlv]at hL;have hlv:lvl (exx D x m T) k=⟨m.Prime,zeros (x.zA.length+D-(k+1)),wL (x.zA.length+D-(k+1))⟩:=(Jc1.inj hL).1
 generalize hd:x.zA.length+D-(k+1)=d at*
 have hsig:∀w,Row m.Prime d w→sig (tlv m.Prime d) ⟨m.Prime,zeros d,wL d⟩ w=w:=fun w hw=>zUi (by omega) hw
 have hzr:Row m.Prime d (zeros d):=xL (by omega);have hum:∀j,(wL d).getD j []=if j<d then xJ d j else[]:=fun j=>by
  by_cases g:j<d
  ·rw[if_pos g,zHs g]
  ·rw[if_neg g,J2,Jz (by simp[wL];omega)];rfl
 refine⟨fun j h1 h3=>?_,fun i h1 h3 j h4 h5=>?_,?_,fun j h1 h3=>?_⟩
 ·rw[hl]at h3
  have hP:(exx D x m T).zU.getD j []=exP x.zA.length D x T j:=xV (by omega);rw[hs,hlv,zBG h hE hT (by omega) h3,hP,exP,if_neg (by omega),H6,hd];show pw (mul (tlv m.Prime d)) (zeros (tlv m.Prime d).length) ((wL d).getD (j-(k+1)) []) m.Prime.toNat=sig (tlv m.Prime d) ⟨m.Prime,zeros d,wL d⟩ (zeros d);rw[hsig _ hzr,hum,if_pos (by omega),zGt];have e:=zDa (S:=Row m.Prime d) (m':=adv m.Prime d) (fun a b ha hb=>qN (by omega) d a b ha hb) (fun _ _ _ _=>sW (by omega)) [xJ d (j-(k+1))] [m.Prime] (zeros d) (fun c hc=>by rw[List.mem_singleton.1 hc];exact tY (by omega)) hzr;exact e.trans (zRE (by omega))
 ·rw[hl]at h3 h5
  rw[hs,hlv,zHI h hE hT h3,exC,if_neg (by omega),unC,xV (by omega),kM,zHC,hd];have e:(mkv d fun q=>if k+1+q=i+1+(j-(i+1))then(1:Int)else 0)=xJ d (j-(k+1)):=by
   rw[kN];refine zX fun q _=>?_
   by_cases g:q=j-(k+1)
   ·rw[if_pos g,if_pos (by omega)]
   ·rw[if_neg g,if_neg (by omega)]
  rw[e,hsig _ (tY (by omega))];show mul (tlv m.Prime d) ((wL d).getD (j-(k+1)) []) ((wL d).getD (i-(k+1)) [])=mul (tlv m.Prime d) ((wL d).getD (i-(k+1)) []) (xJ d (j-(k+1)));rw[hum,hum,if_pos (by omega),if_pos (by omega),qN (by omega) d _ _ (tY (by omega)) (tY (by omega)),qN (by omega) d _ _ (tY (by omega)) (tY (by omega)),tF]
 ·rw[hs,hlv,hsig _ hzr]
 ·rw[hl]at h3 ⊢
  have hu:Row m.Prime d (xJ d (j-(k+1))):=tY (by omega);rw[hs,hlv,hd,zH9 (hsig _ hu),qN (by omega) d _ _ hzr hu,qN (by omega) d _ _ hu hzr,tF]
theorem zHJ:∀(d k:Nat),x.zA.length≤k→k+d=x.zA.length+D→wQ (suf (exx D x m T) k)
 |0,k,hk,hd=>by rw[vP (by rw[wJ h hE hT];omega)];simp only[wQ]
 |d+1,k,hk,hd=>(zAv (zGs h hE hT) (by rw[wJ h hE hT];omega)).2 ⟨zHJ d (k+1) (by omega) (by omega),zWQ h hE hT hk (by omega)⟩
theorem zO9(hr:zF0 x m D):wQ (suf (exx D x m T) 0)↔ ∀k,k<x.zA.length→LCn x (exx D x m T) k:=by
 have hl:=wJ h hE hT;have key:∀(d k:Nat),k+d=x.zA.length→(wQ (suf (exx D x m T) k)↔ ∀i,k≤i→i<x.zA.length→LCn x (exx D x m T) i):=by
  intro d
  induction d with
  |zero=>intro k hk;exact⟨fun _ i h1 h2=>by omega,fun _=>zHJ h hE hT D k (by omega) (by omega)⟩
  |succ d ih=>
   intro k hk;rw[zAv (zGs h hE hT) (by omega),ih (k+1) (by omega)];constructor
   ·rintro⟨g1,g2⟩ i h1 h2
    rcases Jk k i with g|g
    ·exact g1 i (by omega) h2
    ·obtain rfl:i=k:=by omega
     exact⟨fun j a b=>g2.c1 j a (by omega),fun i a b j c d=>g2.c2 i a (by omega) j c (by omega),g2.c3,fun j a b=>g2.c4 j a (by omega)⟩
   ·exact fun g=>⟨fun i h1 h2=>g i (by omega) h2,zRI h hE hT hr (by omega) (g k (by omega) (by omega))⟩
 have:=key x.zA.length 0 (by omega);rw[this];exact⟨fun g k hk=>g k (by omega) hk,fun g k _ hk=>g k hk⟩
end
end Go.Pl

namespace Go.Pl
open Go Go.Ab Go.Wk Go.Pc
def prE(x:SPr)(k:Nat)(w:Vec):zH:=⟨fv k (w.take (x.zA.length-k)),w.drop (x.zA.length-k)⟩
theorem sX{x:SPr}{k:Nat}{y u:Vec}(hy:y.length=x.zA.length-k):prE x k (y++u)=⟨fv k y,u⟩:=by rw[prE,Jn hy,K3 hy]
theorem zBK{α α' β:Type}{body:α×α'×Int→Option ((α×α'×Int)⊕(α×α'))}{S:β→Prop}(e1:β→α)(e2:β→α')(g:β→β)(n:Int)(hn:0≤n)(hS:∀a,S a→S (g a))
  (h:∀a(i:Nat),S a→(i:Int)<n→body (e1 a,e2 a,(i:Int))=some (.inl (e1 (g a),e2 (g a),((i+1:Nat):Int))))(he:∀a,S a→body (e1 a,e2 a,n)=some (.inr (e1 a,e2 a))){a:β}(ha:S a):
  zI body (e1 a,e2 a,0)=some (e1 (iter n.toNat g a),e2 (iter n.toNat g a)):=by
 have hit:∀k,S (iter k g a):=fun k=>vK (S:=S) hS k ha
 exact zZ (body:=body) (r:=(e1 (iter n.toNat g a),e2 (iter n.toNat g a))) (fun i=>(e1 (iter i g a),e2 (iter i g a),(i:Int))) n.toNat (fun i hi=>by
  rw[h _ i (hit i) (by omega),wW]) (by
  rw[show((n.toNat:Nat):Int)=n from by omega];exact he _ (hit _))
structure Mv (D n:Nat) (m0 m:zG):Prop where
 pr:m0.Prime=m.Prime
 mv:∀k,k<n→ ∀u,Row m.Prime D u→zUH m0 u (k:Int)=some (wC m.Prime D u (m.zQ.getD k []))
section
variable {D:Nat}{x:SPr}{m0 m:zG}{T:Mx} (h:Pres x) (hE:ExB x.zA.length D x m T) (hT:∀i,i<T.length→Row m.Prime D (T.getD i []))
def zRJ(D:Nat)(x:SPr)(m0 m:zG)(T:Mx)(k:Nat)(g:zY→Int→zH→zH→Option zH):Prop:=
 ∀a b,V (suf (exx D x m T) k) a→V (suf (exx D x m T) k) b→g ⟨x,m0,T⟩ k (prE x k a) (prE x k b)=some (prE x k (mul (suf (exx D x m T) k) a b))
def zRK(D:Nat)(x:SPr)(m0 m:zG)(T:Mx)(k:Nat)(g:zY→Int→zH→Option zH):Prop:=
 ∀v,V (suf (exx D x m T) (k+1)) v→g ⟨x,m0,T⟩ k (prE x (k+1) v)=some (prE x (k+1) (sig (suf (exx D x m T) (k+1)) (lvl (exx D x m T) k) v))
 include h hE hT
theorem zOA{k i j:Nat}(hk:k≤i)(hi:i<j)(hj:j<x.zA.length):f_Q ⟨x,m0,T⟩ (i:Int) (j:Int)=some (prE x (k+1) ((((exx D x m T).zF.getD i []).getD (j-(i+1)) []).drop (k+1)))∧V (suf (exx D x m T) (k+1)) ((((exx D x m T).zF.getD i []).getD (j-(i+1)) []).drop (k+1)):=by
 have hn:=hE.hn;have hb:=zBF x.zA.length (by omega) i (by omega);have ht:=hE.t;obtain⟨_,t2,t3⟩:=h.tl i (by omega);have tt:=t3 (j-(i+1)) (by omega);obtain⟨e1,e2⟩:=zC3 (k:=k+1) tt (by omega) (by omega);have hl:=wY h (by omega) e2;have hcl:=h.cl;have hr:=zD0 h hE hT hi hj;refine⟨?_,?_⟩
 ·rw[zF6 h hE hT hk hi hj,sX hl,←e1]
  unfold f_Q;dsimp only
  rw[xD [] (by omega),bs,zC (by omega) (by omega),bs,zC (by omega) (by omega),bs,show(j:Int)-(i:Int)-1=((j-(i+1):Nat):Int)from by omega,xD [] (by omega),bs,zNc x.zA.length (by omega) j hj i hi,bs,xD [] (by omega),bs,show j-i-1=j-(i+1)from by omega]
 ·rw[zF6 h hE hT hk hi hj]
  exact(sG h hE hT (x.zA.length-(k+1)) (k+1) (by omega) _).2 ⟨_,_,rfl,e2,hr⟩
theorem zEI{k j:Nat}(hk:k<j)(hj:j<x.zA.length):f_Q ⟨x,m0,T⟩ (k:Int) (j:Int)=some (prE x (k+1) ((lvl (exx D x m T) k).cs.getD (j-(k+1)) []))∧V (suf (exx D x m T) (k+1)) ((lvl (exx D x m T) k).cs.getD (j-(k+1)) []):=by
 have e:(lvl (exx D x m T) k).cs.getD (j-(k+1)) []=(((exx D x m T).zF.getD k []).getD (j-(k+1)) []).drop (k+1):=by
  have hC:((exx D x m T).zF.getD k []).length=x.zA.length+D-1-k:=by rw[zHI h hE hT (by omega),exC,if_pos (by omega),wD]
  simp only[lvl];rw[J2,K0,J3 (by omega),J2 (l:=(exx D x m T).zF.getD k []),J3 (by omega)];rfl
 rw[e];exact zOA h hE hT (Jp k) hk hj
theorem zJN{k j:Nat}(hk:k≤j)(hj:j<x.zA.length):zN2 ⟨x,m0,T⟩ (j:Int)=some (prE x (k+1) (((exx D x m T).zU.getD j []).drop (k+1)))∧V (suf (exx D x m T) (k+1)) (((exx D x m T).zU.getD j []).drop (k+1)):=by
 have hn:=hE.hn;have hb:=vO x.zA.length (by omega);have ht:=hE.t;have hpl:=h.pl;have t1:=(h.tl j hj).1;obtain⟨e1,e2⟩:=zC3 (k:=k+1) t1 (by omega) (by omega);have hl:=wY h (by omega) e2;have hr:=zBJ h hE hT hj;refine⟨?_,?_⟩
 ·rw[zDR h hE hT hk hj,sX hl,←e1]
  unfold zN2;dsimp only
  rw[xD [] (by omega),bs,xD [] (by omega),bs]
 ·rw[zDR h hE hT hk hj]
  exact(sG h hE hT (x.zA.length-(k+1)) (k+1) (by omega) _).2 ⟨_,_,rfl,e2,hr⟩
theorem zJO{k:Nat}(hk:k≤x.zA.length)(h0:0<x.zA.length):zMj ⟨x,m0,T⟩=some (prE x k (zeros (suf (exx D x m T) k).length)):=by
 have hn:=hE.hn;have h3:=hE.m.d3;have hb:=vO x.zA.length (by omega);have ht:=hE.t;have hr:=zBJ h hE hT h0;have hrl:=hr.1;unfold zMj;dsimp only
 have e0:ixO T 0=some (T.getD 0 []):=xD (i:=0) [] (by omega);rw[decide_eq_true (by omega),zN,e0,bs,xR (by omega),bs,xR (by omega),bs,zAQ h hE hT hk,sX (yA _),hrl,fv]
 congr 2
 simp only[zeros,Jv];congr 1;omega
theorem zRL{u v:Vec}(hu:Row m.Prime D u)(hv:Row m.Prime D v):f_w m.Prime u 1 v=some (adv m.Prime D u v):=by
 have _:=h;have _:=hT;have h3:=hE.m.d3;rw[tM hE.m.p hu hv (by omega) (by omega)]
 congr 1
 exact zX fun j _=>by rw[Ja5]
theorem prV{k:Nat}(hk:k≤x.zA.length){w:Vec}(hw:V (suf (exx D x m T) k) w):∃y u,w=y++u∧V (suf x k) y∧Row m.Prime D u∧prE x k w=⟨fv k y,u⟩∧y.length=x.zA.length-k:=by obtain⟨y,u,rfl,hy,hu⟩:=(sG h hE hT (x.zA.length-k) k (by omega) _).1 hw;have hyl:=wY h hk hy;exact⟨y,u,rfl,hy,hu,sX hyl,hyl⟩
variable (hM:Mv D x.zA.length m0 m)
 include hM
theorem zLE{k:Nat}(hk:k<x.zA.length){g:zY→Int→zH→zH→Option zH}(hg:zRJ D x m0 m T (k+1) g):zRK D x m0 m T k (b_h g):=by
 intro v hv;have hn:=hE.hn;have hp:=hE.m.p.pos;have ok:=vZ h hE hT (k:=k+1) (by omega);have hA:=hE.m.mat k hk;obtain⟨y,u,rfl,hy,hu,hpr,hyl⟩:=prV h hE hT (k:=k+1) (by omega) hv;obtain⟨_,hyr⟩:=zDM h.os (x.zA.length-(k+1)) (k+1) y (by omega) hy;have hcl:=uR h hE hT (k:=k);have hcs:=zO7 h hE hT hk;have hcg:∀i,i<x.zA.length-(k+1)→(eC1 x T k).getD i []=(lvl (exx D x m T) k).cs.getD i []:=fun i hi=>by rw[zBH h hE hT hk,J2,J2,Jm (by omega)]
 obtain⟨A,hAe⟩:∃A:Nat→Vec,∀i,A i=img (mul (suf (exx D x m T) (k+1))) ((eC1 x T k).take i) (y.take i) (zeros (suf (exx D x m T) (k+1)).length):=⟨_,fun _=>rfl⟩;have hI:∀i,V (suf (exx D x m T) (k+1)) (A i):=fun i=>by rw[hAe];exact jA (xE ok) _ _ (fun c hc=>hcs c (Gz hc)) (wP ok)
 have hA0:A 0=zeros (suf (exx D x m T) (k+1)).length:=by rw[hAe];simp only[K6,img]
 have hAn:A (x.zA.length-(k+1))=sgG D x m T k y:=by rw[hAe,Jr (by omega),Jr (by omega)];rfl
 rw[hpr];unfold b_h;dsimp only
 rw[zJO h hE hT (k:=k+1) (by omega) (by omega),bs,zC (by omega) (by omega),bs,cs];have:=zZ (body:=zTl g ⟨x,m0,T⟩ k ⟨fv (k+1) y,u⟩) (r:=((prE x (k+1) (sgG D x m T k y)).x,(prE x (k+1) (sgG D x m T k y)).v))
  (fun i=>((prE x (k+1) (A i)).x,(prE x (k+1) (A i)).v,((k+1+i:Nat):Int))) (x.zA.length-(k+1)) (fun i hi=>by
  have hr:=hyr i hi;obtain⟨c1,c2⟩:=zEI h hE hT (k:=k) (j:=k+1+i) (by omega) (by omega);rw[show k+1+i-(k+1)=i from by omega]at c1 c2;unfold zTl;dsimp only
  rw[decide_eq_true (by rw[zC1 h (by omega) hy];omega),zN];rw[zBK (S:=V (suf (exx D x m T) (k+1))) (fun w=>(prE x (k+1) w).x) (fun w=>(prE x (k+1) w).v) (fun w=>mul (suf (exx D x m T) (k+1)) w ((lvl (exx D x m T) k).cs.getD i [])) (at0 y i) hr.1 (fun w hw=>xE ok hw c2) (fun w q hw hq=>by
   unfold zUI;dsimp only
   rw[fv,zLj (by omega),bs,decide_eq_true hq,zN,zC (by omega) (by omega),bs,c1,bs,cs,show(zH.mk (prE x (k+1) w).x (prE x (k+1) w).v)=prE x (k+1) w from rfl,hg w _ hw c2,bs,zC (by omega) (by omega),bs,cs]) (fun w hw=>by
   unfold zUI;dsimp only
   rw[fv,zLj (by omega),bs,decide_eq_false (by omega),zL]) (hI i),bs,zC (by omega) (by omega),bs,cs]
  rw[hAe (i+1),zBk _ _ _ _ (by omega) (by omega),hcg i hi,←hAe];rfl) (by
  unfold zTl;dsimp only
  rw[decide_eq_false (by rw[zC1 h (by omega) hy];omega),zL,hAn])
 rw[hA0,U8]at this;rw[this,bs,hM.mv k hk _ hu,bs];obtain⟨y1,u1,e,hy1,hu1,hpr1,hyl1⟩:=prV h hE hT (k:=k+1) (by omega) (zHF h hE hT hk (y:=y));rw[zBI h hE hT hk hy hu,hpr1,e,Jn hyl1,K3 hyl1,sX hyl1];dsimp only
 rw[hM.pr,zRL h hE hT hu1 (wX (by omega)),bs]
theorem zRM{k:Nat}(hk:k<x.zA.length){g:zY→Int→zH→zH→Option zH}{gi:zY→Int→zH→Option zH}(hg:zRJ D x m0 m T (k+1) g)(hi:zRK D x m0 m T k gi):zRJ D x m0 m T k (b_d gi g):=by
 have _:=hM;intro a b ha hb;have hn:=hE.hn;have hl:=wJ h hE hT;have hp:=(h.os.2 k hk).pos;have ok:=vZ h hE hT (k:=k+1) (by omega);have ok0:=vZ h hE hT (k:=k) (by omega);obtain⟨al,au,rfl,hal,hau,hpa,hall⟩:=prV h hE hT (k:=k) (by omega) ha;obtain⟨bl,bu,rfl,hbl,hbu,hpb,hbll⟩:=prV h hE hT (k:=k) (by omega) hb;rw[hpa,hpb];rw[yE (x:=x) hk]at hal hbl;rw[yE (x:=exx D x m T) (by omega)]at ok0 ⊢
 obtain⟨a0,a,rfl⟩:∃a0 a',al=a0::a':=by cases al with|nil=>exact hal.elim|cons p q=>exact⟨p,q,rfl⟩
 obtain⟨b0,b,rfl⟩:∃a0 a',bl=a0::a':=by cases bl with|nil=>exact hbl.elim|cons p q=>exact⟨p,q,rfl⟩
 obtain⟨⟨a1,a2⟩,hal⟩:=hal;obtain⟨⟨b1,b2⟩,hbl⟩:=hbl;change a0<at0 x.zA k at a2;change b0<at0 x.zA k at b2;have hal1:=wY h (by omega) hal;have hbl1:=wY h (by omega) hbl;have hA:=(sG h hE hT (x.zA.length-(k+1)) (k+1) (by omega) (a++au)).2 ⟨_,_,rfl,hal,hau⟩;have hB:=(sG h hE hT (x.zA.length-(k+1)) (k+1) (by omega) (b++bu)).2 ⟨_,_,rfl,hbl,hbu⟩;have own:∀u,V (suf x (k+1)) u→f_y (fv (k+1) u)=some (fv (k+1) u):=fun u hu=>qJ (by rw[zC1 h (by omega) hu];omega)
 have own':∀(c:Int) u,V (suf x (k+1)) u→f_y (fv k (c::u))=some (fv k (c::u)):=fun c u hu=>qJ (by have:=wY h (by omega) hu;rw[fv,J5,yA,J6];omega)
 have hsig:∀u,V (suf (exx D x m T) (k+1)) u→V (suf (exx D x m T) (k+1)) (sig (suf (exx D x m T) (k+1)) (lvl (exx D x m T) k) u):=fun u hu=>zCu ok0 hu
 have hit:V (suf (exx D x m T) (k+1)) (iter b0.toNat (sig (suf (exx D x m T) (k+1)) (lvl (exx D x m T) k)) (a++au)):=vK hsig _ hA;have ea:(⟨fv (k+1) a,au⟩:zH)=prE x (k+1) (a++au):=(sX hal1).symm;have eb:(⟨fv (k+1) b,bu⟩:zH)=prE x (k+1) (b++bu):=(sX hbl1).symm;unfold b_d;dsimp only
 rw[decide_eq_false (by omega),zL,own' _ _ hal,bs,own' _ _ hbl,bs,zCz,bs,zCz,bs,Je,zDw,zDw,zBA,zBA];have e1:zI (zPU gi ⟨x,m0,T⟩ k ⟨fv k (b0::b),bu⟩) (zeros (k+1)++a,au,0)=some ((prE x (k+1) (iter b0.toNat (sig (suf (exx D x m T) (k+1)) (lvl (exx D x m T) k)) (a++au))).x,(prE x (k+1) (iter b0.toNat (sig (suf (exx D x m T) (k+1)) (lvl (exx D x m T) k)) (a++au))).v):=by
  have:=zBK (body:=zPU gi ⟨x,m0,T⟩ k ⟨fv k (b0::b),bu⟩) (S:=V (suf (exx D x m T) (k+1))) (fun w=>(prE x (k+1) w).x) (fun w=>(prE x (k+1) w).v) (sig (suf (exx D x m T) (k+1)) (lvl (exx D x m T) k)) b0 b1 hsig (fun w q hw hq=>by
   unfold zPU;dsimp only
   rw[zCz,bs,decide_eq_true hq,zN,show(zH.mk (prE x (k+1) w).x (prE x (k+1) w).v)=prE x (k+1) w from rfl,hi w hw,bs,zC (by omega) (by omega),bs,cs]) (fun w hw=>by
   unfold zPU;dsimp only
   rw[zCz,bs,decide_eq_false (by omega),zL]) hA
  rw[←ea]at this;exact this
 rw[e1,bs,zC (by omega) (by omega),bs,cs];dsimp only
 rw[show zeros (k+1)++b=fv (k+1) b from rfl,eb,show(zH.mk (prE x (k+1) (iter b0.toNat (sig (suf (exx D x m T) (k+1)) (lvl (exx D x m T) k)) (a++au))).x (prE x (k+1) (iter b0.toNat (sig (suf (exx D x m T) (k+1)) (lvl (exx D x m T) k)) (a++au))).v)=prE x (k+1) (iter b0.toNat (sig (suf (exx D x m T) (k+1)) (lvl (exx D x m T) k)) (a++au))from rfl,hg _ _ hit hB,bs,bs,bs,zC (by omega) (by omega),bs,yT hk,bs];have hm:=xE ok hit hB;show _=some (prE x k (mul _ (a0::(a++au)) (b0::(b++bu))));rw[yW,zBt h hE hT hk]
 generalize mul (suf (exx D x m T) (k+1)) (iter b0.toNat (sig (suf (exx D x m T) (k+1)) (lvl (exx D x m T) k)) (a++au)) (b++bu)=r at hm ⊢
 have fin:∀(c:Int) w,V (suf (exx D x m T) (k+1)) w→((f_y (prE x (k+1) w).x).bind fun r22=>(ixO r22 (k:Int)).bind fun _=>some (zH.mk (r22.set k c) (prE x (k+1) w).v))=some (prE x k (c::w)):=fun c w hw=>by
  obtain⟨w1,w2,rfl,h1,h2,h3,h4⟩:=prV h hE hT (k:=k+1) (by omega) hw;have e3:prE x k (c::(w1++w2))=⟨fv k (c::w1),w2⟩:=sX (y:=c::w1) (by rw[J6];omega);rw[h3,e3];dsimp only
  rw[own _ h1,bs,fv,←zBA,zCz,bs,zDw]
 by_cases hge:a0+b0≥at0 x.zA k
 ·obtain⟨p1,p2⟩:=zJN h hE hT (k:=k) (j:=k) (Jp k) hk
  change V (suf (exx D x m T) (k+1)) (lvl (exx D x m T) k).w at p2;rw[decide_eq_true hge,zN,if_pos hge,bs,zC (by omega) (by omega),bs,bs,p1,bs];have e4:=hg _ _ p2 hm;rw[show(((exx D x m T).zU.getD k []).drop (k+1))=(lvl (exx D x m T) k).w from rfl,e4,bs];exact fin _ _ (xE ok p2 hm)
 ·rw[decide_eq_false hge,zL,if_neg hge]
  exact fin _ _ hm
theorem zDS:∀(d k:Nat),k+d=x.zA.length→(∀q,2*d+1≤q→zRJ D x m0 m T k (zN4 q))∧(1≤d→ ∀q,2*d≤q→zRK D x m0 m T k (zN3 q))
 |0,k,hk=>by
  refine⟨fun q hq a b ha hb=>?_,fun h=>by omega⟩;have hn:=hE.hn;have hp:=hE.m.p.pos;obtain⟨q,rfl⟩:∃m',q=m'+1:=⟨q-1,by omega⟩;rw[zAg h hE hT D k (by omega) (by omega)]at ha hb ⊢
  have ha':=(zDz _ _).1 ha;have hb':=(zDz _ _).1 hb;show b_d _ _ ⟨x,m0,T⟩ k _ _=_;unfold b_d;have e:∀w:Vec,prE x k w=⟨zeros k,w⟩:=fun w=>by rw[prE,show x.zA.length-k=0 from by omega,K6,G4,fv,J9]
  rw[e,e,e];dsimp only
  rw[decide_eq_true (by omega),zN,xR (by omega),bs,hM.pr,zRL h hE hT ha' hb',bs,qN (by omega) D _ _ ha' hb',show x.zA.length=k from by omega];rfl
 |d+1,k,hk=>by
  obtain⟨h1,h2⟩:=zDS d (k+1) (by omega);have hI:∀q,2*(d+1)≤q→zRK D x m0 m T k (zN3 q):=fun q hq=>by obtain⟨q,rfl⟩:∃m',q=m'+1:=⟨q-1,by omega⟩;exact zLE h hE hT hM (by omega) (h1 q (by omega))
  refine⟨fun q hq=>?_,fun _=>hI⟩;obtain⟨q,rfl⟩:∃m',q=m'+1:=⟨q-1,by omega⟩;exact zRM h hE hT hM (by omega) (h1 q (by omega)) (hI q (by omega))
theorem zHK{k:Nat}(hk:k≤x.zA.length):zRJ D x m0 m T k f_d:=fun a b ha hb=>
 zBh (2*(x.zA.length-k)+1) fun q hq=>(zDS h hE hT hM (x.zA.length-k) k (by omega)).1 q hq a b ha hb
theorem zAE{k:Nat}(hk:k<x.zA.length):zRK D x m0 m T k f_h:=fun v hv=>
 zBh (2*(x.zA.length-k)) fun q hq=>(zDS h hE hT hM (x.zA.length-k) k (by omega)).2 (by omega) q hq v hv
end
end Go.Pl

namespace Go.Pl
open Go Go.Ab Go.Wk Go.Pc
structure GR (p:Int) (D:Nat) (Z:Vec→Prop) (L:Mx) (N:Nat) (C:Prop):Prop where
 len:L.length≤N
 row:∀r∈L,Row p D r
 iff:(∀r∈L,Z r)↔C
theorem GR.nil{p:Int}{D N:Nat}{Z:Vec→Prop}:GR p D Z [] N True:=⟨by simp,by simp,by simp⟩
theorem GR.app{p:Int}{D N M:Nat}{Z:Vec→Prop}{L L':Mx}{C C':Prop}(h:GR p D Z L N C)(h':GR p D Z L' M C'):GR p D Z (L++L') (N+M) (C∧C'):=by
 refine⟨by have:=h.len;have:=h'.len;rw[J5];omega,fun r hr=>?_,?_⟩
 ·rcases Jj.1 hr with g|g
  ·exact h.row r g
  ·exact h'.row r g
 ·rw[←h.iff,←h'.iff]
  exact⟨fun g=>⟨fun r hr=>g r (Gk _ hr),fun r hr=>g r (Lv _ hr)⟩,fun g r hr=>(Jj.1 hr).elim (g.1 r) (g.2 r)⟩
theorem GR.one{p:Int}{D:Nat}{Z:Vec→Prop}{r:List Int}{C:Prop}(hr:Row p D r)(h:Z r↔C):GR p D Z [r] 1 C:=
 ⟨by simp,fun q hq=>by rw[List.mem_singleton.1 hq];exact hr,by rw[←h];exact⟨fun g=>g r (by simp),fun g q hq=>by rw[List.mem_singleton.1 hq];exact g⟩⟩
theorem GR.to{p:Int}{D N M:Nat}{Z:Vec→Prop}{L:Mx}{C C':Prop}(h:GR p D Z L N C)(hN:N≤M)(hc:C↔C'):GR p D Z L M C':=⟨by have:=h.len;omega,h.row,h.iff.trans hc⟩
def c1E(e:SPr)(k j:Nat):Prop:=pw (mul (suf e (k+1))) (zeros (suf e (k+1)).length) ((lvl e k).cs.getD (j-(k+1)) []) (at0 e.zA j).toNat=sig (suf e (k+1)) (lvl e k) ((e.zU.getD j []).drop (k+1))
def c2E(e:SPr)(k i j:Nat):Prop:=mul (suf e (k+1)) ((lvl e k).cs.getD (j-(k+1)) []) ((lvl e k).cs.getD (i-(k+1)) [])=mul (suf e (k+1)) ((lvl e k).cs.getD (i-(k+1)) []) (sig (suf e (k+1)) (lvl e k) (((e.zF.getD i []).getD (j-(i+1)) []).drop (k+1)))
def c4E(e:SPr)(k j:Nat):Prop:=mul (suf e (k+1)) (lvl e k).w (iter (lvl e k).o.toNat (sig (suf e (k+1)) (lvl e k)) (xJ (e.zA.length-(k+1)) (j-(k+1))))=mul (suf e (k+1)) (xJ (e.zA.length-(k+1)) (j-(k+1))) (lvl e k).w
def c1Q(Q:Nat→Vec→Vec→Prop)(e:SPr)(k j:Nat):Prop:=Q (k+1) (pw (mul (suf e (k+1))) (zeros (suf e (k+1)).length) ((lvl e k).cs.getD (j-(k+1)) []) (at0 e.zA j).toNat) (sig (suf e (k+1)) (lvl e k) ((e.zU.getD j []).drop (k+1)))
def c2Q(Q:Nat→Vec→Vec→Prop)(e:SPr)(k i j:Nat):Prop:=Q (k+1) (mul (suf e (k+1)) ((lvl e k).cs.getD (j-(k+1)) []) ((lvl e k).cs.getD (i-(k+1)) [])) (mul (suf e (k+1)) ((lvl e k).cs.getD (i-(k+1)) []) (sig (suf e (k+1)) (lvl e k) (((e.zF.getD i []).getD (j-(i+1)) []).drop (k+1))))
def c4Q(Q:Nat→Vec→Vec→Prop)(e:SPr)(k j:Nat):Prop:=Q (k+1) (mul (suf e (k+1)) (lvl e k).w (iter (lvl e k).o.toNat (sig (suf e (k+1)) (lvl e k)) (xJ (e.zA.length-(k+1)) (j-(k+1))))) (mul (suf e (k+1)) (xJ (e.zA.length-(k+1)) (j-(k+1))) (lvl e k).w)
structure LCQ (Q:Nat→Vec→Vec→Prop) (x e:SPr) (k:Nat):Prop where
 c1:∀j,k+1≤j→j<x.zA.length→c1Q Q e k j
 c2:∀i,k+1≤i→i<x.zA.length→ ∀j,i+1≤j→j<x.zA.length→c2Q Q e k i j
 c3:Q (k+1) (sig (suf e (k+1)) (lvl e k) (lvl e k).w) (lvl e k).w
 c4:∀j,k+1≤j→j<x.zA.length→c4Q Q e k j
section
variable {D:Nat}{x:SPr}{m0 m:zG}{T:Mx} (h:Pres x) (hE:ExB x.zA.length D x m T) (hT:∀i,i<T.length→Row m.Prime D (T.getD i []))
 include h hE hT
theorem zBL{k:Nat}(hk:k≤x.zA.length){a b:Vec}(ha:V (suf (exx D x m T) k) a)(hb:V (suf (exx D x m T) k) b):(mul (suf (exx D x m T) k) a b).take (x.zA.length-k)=mul (suf x k) (a.take (x.zA.length-k)) (b.take (x.zA.length-k)):=zJM h hE hT _ k (by omega) a b ha hb
theorem zDT{k:Nat}(hk:k<x.zA.length){v:Vec}(hv:V (suf (exx D x m T) (k+1)) v):(sig (suf (exx D x m T) (k+1)) (lvl (exx D x m T) k) v).take (x.zA.length-(k+1))=sig (suf x (k+1)) (lvl x k) (v.take (x.zA.length-(k+1))):=
 zLD h hE hT hk (zJM h hE hT _ (k+1) (by omega)) hv
theorem zF7{k:Nat}(hk:k<x.zA.length){v:Vec}(hv:V (suf (exx D x m T) (k+1)) v):V (suf (exx D x m T) (k+1)) (sig (suf (exx D x m T) (k+1)) (lvl (exx D x m T) k) v):=by have hok:=vZ h hE hT (k:=k) (by omega);rw[yE (x:=exx D x m T) (by rw[wJ h hE hT];omega)]at hok;exact zCu hok hv
theorem zJP{k:Nat}(hk:k<x.zA.length):∀(q:Nat){v:Vec},V (suf (exx D x m T) (k+1)) v→(iter q (sig (suf (exx D x m T) (k+1)) (lvl (exx D x m T) k)) v).take (x.zA.length-(k+1))=iter q (sig (suf x (k+1)) (lvl x k)) (v.take (x.zA.length-(k+1)))
 |0,_,_=>rfl
 |q+1,v,hv=>by have:=zJP hk q (zF7 h hE hT hk hv);rw[zDT h hE hT hk hv]at this;exact this
theorem zUk{k:Nat}(hk:k≤x.zA.length):(zeros (suf (exx D x m T) k).length).take (x.zA.length-k)=zeros (suf x k).length:=by rw[zAQ h hE hT hk,Jn (yA _),yM]
theorem zVy{k:Nat}(hk:k≤x.zA.length){c:Vec}(hc:V (suf (exx D x m T) k) c)(q:Nat):(pw (mul (suf (exx D x m T) k)) (zeros (suf (exx D x m T) k).length) c q).take (x.zA.length-k)=pw (mul (suf x k)) (zeros (suf x k).length) (c.take (x.zA.length-k)) q:=by have ok:=vZ h hE hT (k:=k) (by omega);have:=zEF (S:=V (suf (exx D x m T) k)) (n:=mul (suf x k)) (·.take (x.zA.length-k)) (fun a b=>xE ok) (fun a b=>zBL h hE hT hk) [c] [(q:Int)] (zeros (suf (exx D x m T) k).length) (fun a ha=>by rw[List.mem_singleton.1 ha];exact hc) (wP ok);simp only[Ju,Lw,img,Je]at this;rw[zUk h hE hT hk]at this;exact this
section
variable {k:Nat} (hk:k<x.zA.length)
 include hk
theorem zIV{j:Nat}(h1:k+1≤j)(h2:j<x.zA.length):((lvl (exx D x m T) k).cs.getD (j-(k+1)) []).take (x.zA.length-(k+1))=(lvl x k).cs.getD (j-(k+1)) []:=by rw[zHH h hE hT hk h1 h2,Jn (wY h (by omega) (kI h hk h1 h2).2.2)]
theorem zHL{j:Nat}(h1:k≤j)(h2:j<x.zA.length):(((exx D x m T).zU.getD j []).drop (k+1)).take (x.zA.length-(k+1))=(x.zU.getD j []).drop (k+1):=by have t1:=(h.tl j h2).1.1.1;rw[zDR h hE hT h1 h2,Jn (by rw[K1];omega)]
theorem zRN{i j:Nat}(h1:k+1≤i)(h2:i<j)(h3:j<x.zA.length):((((exx D x m T).zF.getD i []).getD (j-(i+1)) []).drop (k+1)).take (x.zA.length-(k+1))=((x.zF.getD i []).getD (j-(i+1)) []).drop (k+1):=by rw[zF6 h hE hT (by omega) h2 h3,Jn (wY h (by omega) (zRy h hk h1 h2 h3).2.2)]
theorem zRO{j:Nat}(h1:k+1≤j)(h2:j<x.zA.length):xJ ((exx D x m T).zA.length-(k+1)) (j-(k+1))=xJ (x.zA.length-(k+1)) (j-(k+1))++zeros D:=by rw[wJ h hE hT,zAe (by omega),zAe (by omega),Ja,Jq];simp only[zeros,Jv];rw[show x.zA.length+D-(k+1)-(j-(k+1)+1)=x.zA.length-(k+1)-(j-(k+1)+1)+D from by omega]
end
variable (hM:Mv D x.zA.length m0 m) {Z:Vec→Prop}{Q:Nat→Vec→Vec→Prop} (hZ:∀k,k≤x.zA.length→ ∀a b,V (suf (exx D x m T) k) a→V (suf (exx D x m T) k) b→a.take (x.zA.length-k)=b.take (x.zA.length-k)→(Z (tI m.Prime D (a.drop (x.zA.length-k)) (-1) (b.drop (x.zA.length-k)))↔Q k a b))
 include hM hZ
theorem zJQ{k:Nat}(hk:k≤x.zA.length){a b:Vec}(ha:V (suf (exx D x m T) k) a)(hb:V (suf (exx D x m T) k) b)(e:a.take (x.zA.length-k)=b.take (x.zA.length-k)):∃r,f_W ⟨x,m0,T⟩ (prE x k a) (prE x k b)=some r∧Row m.Prime D r∧(Z r↔Q k a b):=by
 have h7:=hE.m.p.pos;have h3:=hE.m.d3;obtain⟨y,u,rfl,hy,hu,hpr,hyl⟩:=prV h hE hT hk ha;obtain⟨z,v,rfl,hz,hv,hpr2,hzl⟩:=prV h hE hT hk hb;have hz0:=hZ k hk _ _ ha hb e;rw[K3 hyl,K3 hzl]at hz0;unfold f_W;rw[hpr,hpr2];dsimp only
 rw[hM.pr,zC (by omega) (by omega),bs,tM hE.m.p hu hv (by omega) (by omega),bs,zDO];exact⟨_,rfl,zAw hE.m.p,hz0⟩
section
variable {k:Nat} (hk:k<x.zA.length) (hc:LC x k)
 include hk
 include hc
theorem zZO{j:Nat}(h1:k+1≤j)(h2:j<x.zA.length){L0 L:Mx}{N:Nat}{C:Prop}(hL:GR m.Prime D Z L N C)(hN:N≤1000){f:Mx→Option (Mx×Int⊕Mx)}:∃L',((zMj ⟨x,m0,T⟩).bind fun r2=>
  (zI (zPV ⟨x,m0,T⟩ (k:Int) (L0,(j:Int))) (r2.x,r2.v,0)).bind fun r8=>
  (zN2 ⟨x,m0,T⟩ (j:Int)).bind fun r9=>
  (f_h ⟨x,m0,T⟩ (k:Int) r9).bind fun r10=>
  (f_W ⟨x,m0,T⟩ (zH.mk r8.1 r8.2) r10).bind fun r11=>
  (xU L [r11]).bind f)=f L'∧GR m.Prime D Z L' (N+1) (C∧c1Q Q (exx D x m T) k j):=by
 have ok:=vZ h hE hT (k:=k+1) (by omega);have hn:=hE.hn;have hp:=(h.os.2 j h2).pos;have hz:=wP ok;obtain⟨c1,c2⟩:=zEI h hE hT (k:=k) (j:=j) (by omega) h2;obtain⟨p1,p2⟩:=zJN h hE hT (k:=k) (j:=j) (by omega) h2;have hA:=zHK h hE hT hM (k:=k+1) (by omega);have hI:=zAE h hE hT hM hk;have hlp:zI (zPV ⟨x,m0,T⟩ (k:Int) (L0,(j:Int))) ((prE x (k+1) (zeros (suf (exx D x m T) (k+1)).length)).x,(prE x (k+1) (zeros (suf (exx D x m T) (k+1)).length)).v,0)=some ((prE x (k+1) (pw (mul (suf (exx D x m T) (k+1))) (zeros (suf (exx D x m T) (k+1)).length) ((lvl (exx D x m T) k).cs.getD (j-(k+1)) []) (at0 x.zA j).toNat)).x,(prE x (k+1) (pw (mul (suf (exx D x m T) (k+1))) (zeros (suf (exx D x m T) (k+1)).length) ((lvl (exx D x m T) k).cs.getD (j-(k+1)) []) (at0 x.zA j).toNat)).v):=
  zBK (S:=V (suf (exx D x m T) (k+1))) (fun w=>(prE x (k+1) w).x) (fun w=>(prE x (k+1) w).v) (fun w=>mul (suf (exx D x m T) (k+1)) w ((lvl (exx D x m T) k).cs.getD (j-(k+1)) [])) (at0 x.zA j) (by omega) (fun w hw=>xE ok hw c2) (fun w q hw hq=>by
   unfold zPV;dsimp only
   rw[yT h2,bs,decide_eq_true hq,zN,zC (by omega) (by omega),bs,c1,bs,cs,show(zH.mk (prE x (k+1) w).x (prE x (k+1) w).v)=prE x (k+1) w from rfl,hA w _ hw c2,bs,zC (by omega) (by omega),bs,cs]) (fun w hw=>by
   unfold zPV;dsimp only
   rw[yT h2,bs,decide_eq_false (by omega),zL]) hz
 have hpw:V (suf (exx D x m T) (k+1)) (pw (mul (suf (exx D x m T) (k+1))) (zeros (suf (exx D x m T) (k+1)).length) ((lvl (exx D x m T) k).cs.getD (j-(k+1)) []) (at0 x.zA j).toNat):=vK (fun w hw=>xE ok hw c2) _ hz;obtain⟨r,r1,r2,r3⟩:=zJQ h hE hT hM hZ (k:=k+1) (by omega) hpw (zF7 h hE hT hk p2) (by rw[zVy h hE hT (by omega) c2,zDT h hE hT hk p2,zIV h hE hT hk h1 h2,zHL h hE hT hk (by omega) h2];exact hc.c1 j h1 h2)
 have hll:=hL.len;refine⟨L++[r],?_,hL.app (GR.one r2 (r3.trans ?_))⟩
 ·rw[zJO h hE hT (k:=k+1) (by omega) (by omega),bs,hlp,bs,p1,bs,hI _ p2,bs]
  dsimp only
  rw[r1,bs,yO (by simp;omega),bs]
 ·unfold c1Q;rw[uY h hE hT h2]
theorem zZP{j:Nat}(h1:k+1≤j)(h2:j<x.zA.length){L0 L:Mx}{N:Nat}{C:Prop}(hL:GR m.Prime D Z L N C)(hN:N≤1000):∃L',zI (zPW ⟨x,m0,T⟩ (k:Int) (L0,(j:Int))) (L,((j+1:Nat):Int))=some L'∧GR m.Prime D Z L' (N+(x.zA.length-(j+1))) (C∧ ∀j2,j+1≤j2→j2<x.zA.length→c2Q Q (exx D x m T) k j j2):=by
 have ok:=vZ h hE hT (k:=k+1) (by omega);have hn:=hE.hn;have hA:=zHK h hE hT hM (k:=k+1) (by omega);have hI:=zAE h hE hT hM hk;refine tC (fun i(s:Mx×Int)=>s.2=((j+1+i:Nat):Int)∧GR m.Prime D Z s.1 (N+i) (C∧ ∀j2,j+1≤j2→j2<j+1+i→c2Q Q (exx D x m T) k j j2)) (x.zA.length-(j+1)) (fun i s hi ⟨hs,hg⟩=>?_) (fun s ⟨hs,hg⟩=>?_) ⟨rfl,hL.to (by omega) ⟨fun g=>⟨g,fun j2 a b=>by omega⟩,fun g=>g.1⟩⟩
 ·left
  obtain⟨L1,s2⟩:=s;dsimp only at hs hg;subst hs;have g2:j+1+i<x.zA.length:=by omega
  obtain⟨a1,a2⟩:=zEI h hE hT (k:=k) (j:=j) (by omega) h2;obtain⟨b1,b2⟩:=zEI h hE hT (k:=k) (j:=j+1+i) (by omega) g2;obtain⟨d1,d2⟩:=zOA h hE hT (k:=k) (i:=j) (j:=j+1+i) (by omega) (by omega) g2;have hs:=zF7 h hE hT hk d2;obtain⟨r,r1,r2,r3⟩:=zJQ h hE hT hM hZ (k:=k+1) (by omega) (xE ok b2 a2) (xE ok a2 hs) (by rw[zBL h hE hT (by omega) b2 a2,zBL h hE hT (by omega) a2 hs,zDT h hE hT hk d2,zIV h hE hT hk h1 h2,zIV h hE hT hk (by omega) g2,zRN h hE hT hk h1 (by omega) g2];exact hc.c2 j h1 h2 (j+1+i) (by omega) g2)
  have hll:=hg.len;refine⟨(L1++[r],((j+1+i+1:Nat):Int)),?_,rfl,(hg.app (GR.one r2 r3)).to (by omega) ?_⟩
  ·unfold zPW
   dsimp only
   rw[decide_eq_true (by omega),zN,a1,bs,b1,bs,d1,bs,hI _ d2,bs,zC (by omega) (by omega),bs,cs,hA _ _ b2 a2,bs,bs,hA _ _ a2 hs,bs,r1,bs,yO (by simp;omega),bs,zC (by omega) (by omega),bs,cs]
  ·constructor
   ·rintro⟨⟨g1,g3⟩,g4⟩
    refine⟨g1,fun j2 e1 e2=>?_⟩;rcases Jk j2 (j+1+i)with e|e
    ·exact g3 j2 e1 e
    ·obtain rfl:j2=j+1+i:=by omega
     exact g4
   ·rintro⟨g1,g3⟩
    exact⟨⟨g1,fun j2 e1 e2=>g3 j2 e1 (by omega)⟩,g3 (j+1+i) (by omega) (by omega)⟩
 ·obtain⟨L1,s2⟩:=s
  dsimp only at hs hg;subst hs;refine⟨L1,?_,hg.to (Jp _) ?_⟩
  ·unfold zPW
   dsimp only
   rw[decide_eq_false (by omega),zL]
  ·rw[show j+1+(x.zA.length-(j+1))=x.zA.length from by omega]
theorem zZQ:∃L',zI (zTm ⟨x,m0,T⟩ (k:Int)) ([],((k+1:Nat):Int))=some L'∧GR m.Prime D Z L' 100 (∀j,k+1≤j→j<x.zA.length→c1Q Q (exx D x m T) k j∧ ∀j2,j+1≤j2→j2<x.zA.length→c2Q Q (exx D x m T) k j j2):=by
 have hn:=hE.hn;refine tC (fun i(s:Mx×Int)=>s.2=((k+1+i:Nat):Int)∧GR m.Prime D Z s.1 (7*i) (∀j,k+1≤j→j<k+1+i→c1Q Q (exx D x m T) k j∧ ∀j2,j+1≤j2→j2<x.zA.length→c2Q Q (exx D x m T) k j j2)) (x.zA.length-(k+1)) (fun i s hi ⟨hs,hg⟩=>?_) (fun s ⟨hs,hg⟩=>?_) ⟨rfl,(GR.nil (N:=0)).to (by omega) ⟨fun _ j a b=>by omega,fun _=>trivial⟩⟩
 ·left
  obtain⟨L1,s2⟩:=s;dsimp only at hs hg;subst hs;have g2:k+1+i<x.zA.length:=by omega
  obtain⟨L2,e2,hg2⟩:=zZO h hE hT hM hZ hk hc (j:=k+1+i) (by omega) g2 (L0:=L1) hg (by omega) (f:=fun v12=>(rng (((k+1+i:Nat):Int)+1)).bind fun v13=>
   (zI (zPW ⟨x,m0,T⟩ (k:Int) (L1,((k+1+i:Nat):Int))) (v12,v13)).bind fun r25=>
   (rng (((k+1+i:Nat):Int)+1)).bind fun v26=>some (.inl (r25,v26)))
  obtain⟨L3,e3,hg3⟩:=zZP h hE hT hM hZ hk hc (j:=k+1+i) (by omega) g2 (L0:=L1) hg2 (by omega);refine⟨(L3,((k+1+i+1:Nat):Int)),?_,rfl,hg3.to (by omega) ?_⟩
  ·unfold zTm
   dsimp only
   rw[decide_eq_true (by omega),zN,e2,zC (by omega) (by omega),bs,cs,e3,bs,bs]
  ·constructor
   ·rintro⟨⟨g1,g3⟩,g4⟩ j e1 e2
    rcases Jk j (k+1+i)with e|e
    ·exact g1 j e1 e
    ·obtain rfl:j=k+1+i:=by omega
     exact⟨g3,g4⟩
   ·intro g
    have:=g (k+1+i) (by omega) (by omega);exact⟨⟨fun j e1 e2=>g j e1 (by omega),this.1⟩,this.2⟩
 ·obtain⟨L1,s2⟩:=s
  dsimp only at hs hg;subst hs;refine⟨L1,?_,hg.to (by omega) ?_⟩
  ·unfold zTm
   dsimp only
   rw[decide_eq_false (by omega),zL]
  ·rw[show k+1+(x.zA.length-(k+1))=x.zA.length from by omega]
theorem zRP{j:Nat}(h1:k+1≤j)(h2:j<x.zA.length):∃r,zMj ⟨x,m0,T⟩=some r∧ixO r.x (j:Int)=some 0∧r.x.set j 1=(prE x (k+1) (xJ (x.zA.length-(k+1)) (j-(k+1))++zeros D)).x∧r.v=(prE x (k+1) (xJ (x.zA.length-(k+1)) (j-(k+1))++zeros D)).v:=by
 have _:=hM;have _:=hZ;have _:=hc;have hn:=hE.hn;have hul:(xJ (x.zA.length-(k+1)) (j-(k+1))).length=x.zA.length-(k+1):=by rw[kN,yC]
 refine⟨_,zJO h hE hT (k:=k+1) (by omega) (by omega),?_,?_,?_⟩
 ·rw[zAQ h hE hT (by omega),sX (yA _)]
  dsimp only
  simp only[fv,zeros,Jv];rw[uF,Kr,if_pos (by omega)]
 ·rw[zAQ h hE hT (by omega),sX (yA _),sX hul]
  dsimp only
  have e1:fv (k+1) (zeros (x.zA.length-(k+1)))=zeros j++0::zeros (x.zA.length-(k+1)-(j-(k+1)+1)):=by
   simp only[fv,zeros];rw[←Jo,Jv,Jv]
   congr 1;omega
  rw[e1,zDw,fv,zAe (by omega),←Ja];simp only[zeros,Jv];rw[show k+1+(j-(k+1))=j from by omega]
 ·rw[zAQ h hE hT (by omega),sX (yA _),sX hul]
theorem zZR{L:Mx}{N:Nat}{C:Prop}(hL:GR m.Prime D Z L N C)(hN:N≤1000):∃L',zI (zPX ⟨x,m0,T⟩ (k:Int) (prE x (k+1) (((exx D x m T).zU.getD k []).drop (k+1)))) (L,((k+1:Nat):Int))=some L'∧GR m.Prime D Z L' (N+(x.zA.length-(k+1))) (C∧ ∀j,k+1≤j→j<x.zA.length→c4Q Q (exx D x m T) k j):=by
 have hn:=hE.hn;have hpk:=(h.os.2 k hk).pos;have h7:=hE.m.p.pos;have ok:=vZ h hE hT (k:=k+1) (by omega);have hA:=zHK h hE hT hM (k:=k+1) (by omega);have hI:=zAE h hE hT hM hk;obtain⟨p1,p2⟩:=zJN (m0:=m0) h hE hT (k:=k) (j:=k) (Jp k) hk;change V (suf (exx D x m T) (k+1)) (lvl (exx D x m T) k).w at p2;change∃L',zI (zPX ⟨x,m0,T⟩ (k:Int) (prE x (k+1) (lvl (exx D x m T) k).w)) (L,((k+1:Nat):Int))=some L'∧_;have htw:(lvl (exx D x m T) k).w.take (x.zA.length-(k+1))=(lvl x k).w:=zHL h hE hT hk (Jp k) hk;have ho:(lvl (exx D x m T) k).o=at0 x.zA k:=zBt h hE hT hk;refine tC (fun i(s:Mx×Int)=>s.2=((k+1+i:Nat):Int)∧GR m.Prime D Z s.1 (N+i) (C∧ ∀j,k+1≤j→j<k+1+i→c4Q Q (exx D x m T) k j)) (x.zA.length-(k+1)) (fun i s hi ⟨hs,hg⟩=>?_) (fun s ⟨hs,hg⟩=>?_) ⟨rfl,hL.to (by omega) ⟨fun g=>⟨g,fun j2 a b=>by omega⟩,fun g=>g.1⟩⟩
 ·left
  obtain⟨L1,s2⟩:=s;dsimp only at hs hg;subst hs;have g2:k+1+i<x.zA.length:=by omega
  obtain⟨r33,z1,z2,z3,z4⟩:=zRP h hE hT hM hZ hk hc (j:=k+1+i) (by omega) g2;have hue:=zRO h hE hT hk (j:=k+1+i) (by omega) g2;have hux:V (suf x (k+1)) (xJ (x.zA.length-(k+1)) (k+1+i-(k+1))):=by
   have:=zCt (h.okAt (k:=k+1) (by omega)) (j:=k+1+i-(k+1)) (by rw[yM];omega)
   rwa [yM]at this
  have hul:=wY h (by omega) hux;have huV:V (suf (exx D x m T) (k+1)) (xJ (x.zA.length-(k+1)) (k+1+i-(k+1))++zeros D):=(sG h hE hT (x.zA.length-(k+1)) (k+1) (by omega) _).2 ⟨_,_,rfl,hux,xL (by omega)⟩;have hit:V (suf (exx D x m T) (k+1)) (iter (at0 x.zA k).toNat (sig (suf (exx D x m T) (k+1)) (lvl (exx D x m T) k)) (xJ (x.zA.length-(k+1)) (k+1+i-(k+1))++zeros D)):=vK (fun w hw=>zF7 h hE hT hk hw) _ huV;have hlp:zI (zTn ⟨x,m0,T⟩ (k:Int)) ((prE x (k+1) (xJ (x.zA.length-(k+1)) (k+1+i-(k+1))++zeros D)).x,(prE x (k+1) (xJ (x.zA.length-(k+1)) (k+1+i-(k+1))++zeros D)).v,0)=some ((prE x (k+1) (iter (at0 x.zA k).toNat (sig (suf (exx D x m T) (k+1)) (lvl (exx D x m T) k)) (xJ (x.zA.length-(k+1)) (k+1+i-(k+1))++zeros D))).x,(prE x (k+1) (iter (at0 x.zA k).toNat (sig (suf (exx D x m T) (k+1)) (lvl (exx D x m T) k)) (xJ (x.zA.length-(k+1)) (k+1+i-(k+1))++zeros D))).v):=
   zBK (S:=V (suf (exx D x m T) (k+1))) (fun w=>(prE x (k+1) w).x) (fun w=>(prE x (k+1) w).v) (sig (suf (exx D x m T) (k+1)) (lvl (exx D x m T) k)) (at0 x.zA k) (by omega) (fun w hw=>zF7 h hE hT hk hw) (fun w q hw hq=>by
    unfold zTn;dsimp only
    rw[yT hk,bs,decide_eq_true hq,zN,show(zH.mk (prE x (k+1) w).x (prE x (k+1) w).v)=prE x (k+1) w from rfl,hI w hw,bs,zC (by omega) (by omega),bs,cs]) (fun w hw=>by
    unfold zTn;dsimp only
    rw[yT hk,bs,decide_eq_false (by omega),zL]) huV
  obtain⟨r,r1,r2,r3⟩:=zJQ h hE hT hM hZ (k:=k+1) (by omega) (xE ok p2 hit) (xE ok huV p2) (by rw[zBL h hE hT (by omega) p2 hit,zBL h hE hT (by omega) huV p2,zJP h hE hT hk _ huV,htw,Jn hul];exact hc.c4 (k+1+i) (by omega) g2)
  have hll:=hg.len;refine⟨(L1++[r],((k+1+i+1:Nat):Int)),?_,rfl,(hg.app (GR.one r2 r3)).to (by omega) ?_⟩
  ·unfold zPX
   dsimp only
   rw[decide_eq_true (by omega),zN,z1,bs,z2,bs,Je,z3,z4,hlp,bs,zC (by omega) (by omega),bs,cs];dsimp only
   have e1:=hA _ _ p2 hit;have e2:=hA _ _ huV p2;rw[show∀w,(zH.mk (prE x (k+1) w).x (prE x (k+1) w).v)=prE x (k+1) w from fun _=>rfl,show∀w,(zH.mk (prE x (k+1) w).x (prE x (k+1) w).v)=prE x (k+1) w from fun _=>rfl,e1,bs,bs,e2,bs,r1,bs,yO (by simp;omega),bs,zC (by omega) (by omega),bs,cs]
  ·have e4:c4Q Q (exx D x m T) k (k+1+i)↔Q (k+1) (mul (suf (exx D x m T) (k+1)) (lvl (exx D x m T) k).w (iter (at0 x.zA k).toNat (sig (suf (exx D x m T) (k+1)) (lvl (exx D x m T) k)) (xJ (x.zA.length-(k+1)) (k+1+i-(k+1))++zeros D))) (mul (suf (exx D x m T) (k+1)) (xJ (x.zA.length-(k+1)) (k+1+i-(k+1))++zeros D) (lvl (exx D x m T) k).w):=by
    unfold c4Q;rw[hue,ho]
   rw[←e4];constructor
   ·rintro⟨⟨g1,g3⟩,g4⟩
    refine⟨g1,fun j2 e1 e2=>?_⟩;rcases Jk j2 (k+1+i)with e|e
    ·exact g3 j2 e1 e
    ·obtain rfl:j2=k+1+i:=by omega
     exact g4
   ·rintro⟨g1,g3⟩
    exact⟨⟨g1,fun j2 e1 e2=>g3 j2 e1 (by omega)⟩,g3 (k+1+i) (by omega) (by omega)⟩
 ·obtain⟨L1,s2⟩:=s
  dsimp only at hs hg;subst hs;refine⟨L1,?_,hg.to (Jp _) ?_⟩
  ·unfold zPX
   dsimp only
   rw[decide_eq_false (by omega),zL]
  ·rw[show k+1+(x.zA.length-(k+1))=x.zA.length from by omega]
theorem zWR:∃L,f_l ⟨x,m0,T⟩ (k:Int)=some L∧GR m.Prime D Z L 120 (LCQ Q x (exx D x m T) k):=by
 have hn:=hE.hn;have hI:=zAE h hE hT hM hk;obtain⟨p1,p2⟩:=zJN h hE hT (k:=k) (j:=k) (Jp k) hk;obtain⟨L1,e1,g1⟩:=zZQ h hE hT hM hZ hk hc;have hs:=zF7 h hE hT hk p2;obtain⟨r,r1,r2,r3⟩:=zJQ h hE hT hM hZ (k:=k+1) (by omega) hs p2 (by rw[zDT h hE hT hk p2,zHL h hE hT hk (Jp k) hk];exact hc.c3)
 obtain⟨L2,e2,g2⟩:=zZR h hE hT hM hZ hk hc (g1.app (GR.one r2 r3)) (by omega);have hll:=g1.len;refine⟨L2,?_,g2.to (by omega) ?_⟩
 ·unfold f_l
  rw[zC (by omega) (by omega),bs,cs,e1,bs,p1,bs,hI _ p2,bs,r1,bs,yO (by simp;omega),bs,bs,e2,bs]
 ·constructor
  ·rintro⟨⟨a1,a2⟩,a3⟩
   exact⟨fun j b1 b2=>(a1 j b1 b2).1,fun i b1 b2 j b3 b4=>(a1 i b1 b2).2 j b3 b4,a2,a3⟩
  ·intro a
   exact⟨⟨fun j b1 b2=>⟨a.c1 j b1 b2,fun j2 b3 b4=>a.c2 j b1 b2 j2 b3 b4⟩,a.c3⟩,a.c4⟩
end
theorem zWS(hx:wQ (suf x 0)):∃L,f_J ⟨x,m0,T⟩=some L∧GR m.Prime D Z L 1000 (∀k,k<x.zA.length→LCQ Q x (exx D x m T) k):=by
 have hn:=hE.hn;have h3:=hE.m.d3;have hlc:∀k,k<x.zA.length→LC x k:=fun k hk=>((zAv h.w hk).1 (zBm hx k)).2
 obtain⟨L,e,g⟩:=tC (body:=zPY ⟨x,m0,T⟩) (Q:=fun L=>GR m.Prime D Z L 1000 (∀k,k<x.zA.length→LCQ Q x (exx D x m T) k)) (fun i(s:Mx×Int)=>s.2=(i:Int)∧GR m.Prime D Z s.1 (120*i) (∀k,k<i→LCQ Q x (exx D x m T) k)) x.zA.length (fun i s hi ⟨hs,hg⟩=>by
  left;obtain⟨L1,s2⟩:=s;dsimp only at hs hg;subst hs;obtain⟨L2,e2,g2⟩:=zWR h hE hT hM hZ hi (hlc i hi);have l1:=hg.len;have l2:=g2.len;refine⟨(L1++L2,((i+1:Nat):Int)),?_,rfl,(hg.app g2).to (by omega) ?_⟩
  ·unfold zPY
   dsimp only
   rw[xK hi,zN,e2,bs,yO (by omega),bs,zC (by omega) (by omega),bs,cs]
  ·constructor
   ·rintro⟨a1,a2⟩ k hk
    rcases Jk k i with e|e
    ·exact a1 k e
    ·obtain rfl:k=i:=by omega
     exact a2
   ·exact fun a=>⟨fun k hk=>a k (by omega),a i (by omega)⟩) (fun s ⟨hs,hg⟩=>by
  obtain⟨L1,s2⟩:=s;dsimp only at hs hg;subst hs;refine⟨L1,?_,hg.to (by omega) Iff.rfl⟩;unfold zPY;dsimp only
  rw[xX,zL]) (s:=([],0)) ⟨rfl,(GR.nil (N:=0)).to (by omega) ⟨fun _ k hk=>by omega,fun _=>trivial⟩⟩
 exact⟨L,by unfold f_J;rw[e,bs],g⟩
end
end Go.Pl

namespace Go.Pl
open Go Go.Ab Go.Wk Go.Pc
end Go.Pl

namespace Go.Pl
open Go Go.Ab Go.Wk Go.Pc
end Go.Pl

namespace Go.Pl
open Go Go.Ab Go.Wk Go.Pc
theorem zRQ{x:SPr}(h:Pres x)(h6:x.zA.length≤6):(uP x).length=base x.zA.length x.zA.length:=by
 have h1:=zP2 h;have key:∀n:Nat,n<7→2*base n n=n*(n+1):=by decide
 have h2:=key x.zA.length (by omega);omega
abbrev zOB(x:SPr)(m:zG)(D:Nat):Mx:=zL8 (x.zA.length*D) (fun k=>dfc m D (uv x.zA.length D k)) (uP x)
section
variable {x:SPr}{m:zG}{D:Nat} (hx:zCy x) (hD:MOk x.zA.length m D)
 include hx hD
theorem zNj:∃R pv,zTr x m=some R∧zTs x m=some (zOB x m D)∧f_j m.Prime (zOB x m D)=some R∧Red m.Prime (base x.zA.length x.zA.length*D) R pv∧R.length≤63∧base x.zA.length x.zA.length*D≤63:=by have h6:=hx.n6;have h3:=hD.d3;have hb:=vO x.zA.length (by omega);have hl:=zRQ hx.toPres h6;have hnd:x.zA.length*D≤6*3:=K4 h6 h3;have hrD:base x.zA.length x.zA.length*D≤21*3:=K4 hb.2.1 h3;have hpl:(zOB x m D).length=x.zA.length*D:=wD;obtain⟨R,pv,r1,r2,r3,_⟩:=kL hD.p (n:=(uP x).length*D) (by rw[hl];omega) (rows:=zOB x m D) (by omega) (by rw[hpl];exact zP3 (zWJ hx.toPres hD) (uP x));rw[hl]at r3;have hR:=r3.len_le;refine⟨R,pv,?_,zGg hx.toPres hD,r2,r3,by omega,hrD⟩;unfold zTr;rw[zL9 hx.toPres hD,bs,r1,bs]
end
end Go.Pl

namespace Go.Pl
open Go Go.Ab Go.Wk Go.Pc
end Go.Pl

namespace Go.Pl
open Go Go.Ab Go.Wk Go.Pc
end Go.Pl

namespace Go.Pl
open Go Go.Ab Go.Wk Go.Pc
end Go.Pl

namespace Go.Pl
open Go Go.Ab Go.Wk Go.Pc
abbrev zDU:=Nat×List Nat×List Nat
section
variable (x:SPr)
abbrev yH(a:Nat):Nat:=(at0 x.zA a).toNat
abbrev lcj(i j:Nat):List Int:=(x.zF.getD i []).getD (j-(i+1)) []
def swp:List Nat→Option zDU
 |a::b::s=>if b<a then some (base x.zA.length b+(a-(b+1)),s,b::(nw 0 (lcj x b a)++s))else none
 |_=>none
def pws:List Nat→Option zDU
 |a::w=>if(a::w).take (yH x a)=J1 (yH x a) a then some (a,(a::w).drop (yH x a),nw 0 (x.zU.getD a [])++(a::w).drop (yH x a))else none
 | []=>none
def hdS(w:List Nat):Option zDU:=match swp x w with
 |some r=>some r
 |none=>pws x w
def stS:List Nat→Option zDU
 | []=>none
 |a::w=>match hdS x (a::w)with
  |some r=>some r
  |none=>(stS w).map fun r=>(r.1,r.2.1,a::r.2.2)
end
section
variable {x:SPr}
theorem zUl{w s:List Nat}{r:zDU}(h:swp x w=some r):swp x (w++s)=some (r.1,r.2.1++s,r.2.2++s):=by
 match w,h with
 | [],h=>cases h
 | [_],h=>cases h
 |a::b::w,h=>
  simp only[swp]at h
  by_cases g:b<a
  ·rw[if_pos g]at h
   cases h;simp only[Jq,swp,if_pos g,Ja]
  ·rw[if_neg g]at h;cases h
theorem zBu{w:List Nat}{o a:Nat}(h:w.take o=J1 o a):o≤w.length:=by have:=congrArg Jbq h;rw[Ka,Jh]at this;omega
theorem zUm{w s:List Nat}{r:zDU}(h:pws x w=some r):pws x (w++s)=some (r.1,r.2.1++s,r.2.2++s):=by
 match w,h with
 | [],h=>cases h
 |a::w,h=>
  simp only[pws]at h
  by_cases g:(a::w).take (yH x a)=J1 (yH x a) a
  ·rw[if_pos g]at h
   cases h;have hl:=zBu g;have e1:(a::(w++s)).take (yH x a)=(a::w).take (yH x a):=by rw[←Jq,Hd hl]
   have e2:(a::(w++s)).drop (yH x a)=(a::w).drop (yH x a)++s:=by rw[←Jq,Kn hl]
   simp only[Jq,pws];rw[if_pos (by rw[e1,g]),e2,Ja]
  ·rw[if_neg g]at h;cases h
theorem zEJ{a b:Nat}{s s2:List Nat}(h:swp x (a::b::s)=none):swp x (a::b::s2)=none:=by
 simp only[swp]at h ⊢
 by_cases g:b<a
 ·rw[if_pos g]at h;cases h
 ·rw[if_neg g]
theorem zOC{w:List Nat}(h:hdS x w=none):swp x w=none∧pws x w=none:=by
 unfold hdS at h;cases e:swp x w with
 |some r=>rw[e]at h;cases h
 |none=>rw[e]at h;exact⟨rfl,h⟩
theorem zRR{w:List Nat}(h1:swp x w=none)(h2:pws x w=none):hdS x w=none:=by unfold hdS;rw[h1];exact h2
theorem zWT{w s:List Nat}(hw:∀a∈w,2≤yH x a){r:zDU}(h:hdS x w=some r):hdS x (w++s)=some (r.1,r.2.1++s,r.2.2++s):=by
 unfold hdS at h ⊢
 cases e:swp x w with
 |some q=>
  rw[e]at h;cases h;rw[zUl e]
 |none=>
  rw[e]at h;have e2:swp x (w++s)=none:=by
   match w,h with
   | [],h=>cases h
   | [a],h=>
    have h2:=hw a (by simp);simp only[pws]at h
    by_cases g:[a].take (yH x a)=J1 (yH x a) a
    ·have h4:=zBu g;simp only[J6,Jw]at h4;omega
    ·rw[if_neg g]at h;cases h
   |a::b::w,h=>exact zEJ e
  rw[e2];exact zUm h
theorem zDV{k a:Nat}(hk:k<yH x a):∀j,j≤k→ ∀{w:List Nat},(∀b,w.head? =some b→a<b)→stS x (J1 j a++w)=(stS x w).map fun r=>(r.1,r.2.1,J1 j a++r.2.2)
 |0,_,w,_=>by
  simp only[He,Ji];cases stS x w with
  |none=>rfl
  |some r=>rfl
 |j+1,hj,w,hw=>by
  have ih:=zDV hk j (by omega) hw;rw[Jo,Jq];have h1:swp x (a::(J1 j a++w))=none:=by
   cases j with
   |succ j=>simp only[Jo,Jq,swp,if_neg (Jc2 a)]
   |zero=>
    simp only[He,Ji];cases w with
    |nil=>rfl
    |cons b w=>
     have:=hw b rfl;simp only[swp,if_neg (show¬b<a by omega)]
  have h2:pws x (a::(J1 j a++w))=none:=by
   simp only[pws];refine if_neg fun g=>?_
   have hl:=zBu g;have:=congrArg (fun l=>l[j+1]?) g;rw[Uj (by omega),←Jq,←Jo,J8 (by simp),Jh,Ku,Qv (by omega)]at this;have:=hw a (by rw[List.head?_eq_getElem?];exact this);omega
  simp only[stS];rw[zRR h1 h2,ih];cases stS x w with
  |none=>rfl
  |some r=>rfl
theorem zWU{k a:Nat}(hk:k<yH x a):stS x (J1 k a)=none:=by have:=zDV hk k (Jp _) (w:=[]) (fun b h=>by cases h);simpa[stS]using this
theorem zJR:∀{u s:List Nat},(∀a∈u,2≤yH x a)→ ∀{r:zDU},stS x u=some r→stS x (u++s)=some (r.1,r.2.1++s,r.2.2++s)
 | [],_,_,_,h=>by cases h
 |a::w,s,hu,r,h=>by
  simp only[stS]at h;rw[Jq];simp only[stS];cases e:hdS x (a::w)with
  |some q=>
   rw[e]at h;cases h;have:=zWT (s:=s) hu e;rw[Jq]at this;rw[this]
  |none=>
   rw[e]at h;cases e2:stS x w with
   |none=>rw[e2]at h;cases h
   |some q=>
    rw[e2]at h;cases h;obtain⟨n1,n2⟩:=zOC e;have m1:swp x (a::(w++s))=none:=by
     cases w with
     |nil=>cases e2
     |cons b w=>exact zEJ n1
    have m2:pws x (a::(w++s))=none:=by
     simp only[pws]at n2 ⊢
     refine if_neg fun g=>?_
     by_cases hl:yH x a≤(a::w).length
     ·rw[←Jq,Hd hl]at g
      rw[if_pos g]at n2;cases n2
     ·have:a::w=J1 (a::w).length a:=by
       have g':=congrArg (Jbn (a::w).length) g;rw[List.take_take,Qi (by omega),←Jq,Jn rfl,List.take_replicate,Qi (by omega)]at g';exact g'
      have hw:w=J1 w.length a:=by rw[J6,Jo]at this;exact(Jc1.inj this).2
      rw[hw,zWU (by simp only[J6]at hl;omega)]at e2;cases e2
    rw[zRR m1 m2,zJR (s:=s) (fun b hb=>hu b (by simp[hb])) e2];rfl
theorem zFW{u s:List Nat}(hu:∀a∈u,2≤yH x a)(h:stS x (u++s)=none):stS x u=none:=by
 cases e:stS x u with
 |none=>rfl
 |some r=>rw[zJR hu e]at h;cases h
theorem zRS:∀{u:List Nat}{l i:Nat}{z:List Nat},(∀a∈u,i<a)→i<l→stS x (u++[l])=none→stS x (u++l::i::z)=some (base x.zA.length i+(l-(i+1)),z,u++i::(nw 0 (lcj x i l)++z))
 | [],l,i,z,_,hl,_=>by simp only[Ji,stS,hdS,swp,if_pos hl]
 |a::u,l,i,z,hu,hl,hn=>by
  rw[Jq]at hn ⊢
  simp only[stS]at hn ⊢
  cases e:hdS x (a::(u++[l]))with
  |some q=>rw[e]at hn;cases hn
  |none=>
   rw[e]at hn;have hn2:stS x (u++[l])=none:=by
    cases e2:stS x (u++[l])with
    |none=>rfl
    |some q=>rw[e2]at hn;cases hn
   obtain⟨n1,n2⟩:=zOC e;have m1:swp x (a::(u++l::i::z))=none:=by
    cases u with
    |nil=>exact zEJ n1
    |cons b u=>exact zEJ n1
   have m2:pws x (a::(u++l::i::z))=none:=by
    simp only[pws]at n2 ⊢
    refine if_neg fun g=>?_
    have ea:a::(u++l::i::z)=(a::(u++[l]))++i::z:=by simp
    by_cases ho:yH x a≤(a::(u++[l])).length
    ·rw[ea,Hd ho]at g
     rw[if_pos g]at n2;cases n2
    ·have g':=congrArg (fun w=>w[(a::(u++[l])).length]?) g
     rw[Uj (by omega),ea,J8 (Jp _),Ku,Qv (by omega)]at g';have:i=a:=by simpa using g'
     have:=hu a (by simp);omega
   rw[zRR m1 m2,zRS (fun b hb=>hu b (by simp[hb])) hl hn2];rfl
theorem zVz{a:Nat}(ha:2≤yH x a)(w:List Nat):stS x (J1 (yH x a) a++w)=some (a,w,nw 0 (x.zU.getD a [])++w):=by
 obtain⟨k,hk⟩:∃k,yH x a=k+2:=⟨yH x a-2,by omega⟩;have e:J1 (yH x a) a++w=a::a::(J1 k a++w):=by rw[hk,Jo,Jo];rfl
 have h1:swp x (J1 (yH x a) a++w)=none:=by rw[e];simp only[swp,if_neg (Jc2 a)]
 have h2:pws x (J1 (yH x a) a++w)=some (a,w,nw 0 (x.zU.getD a [])++w):=by
  have et:(J1 (yH x a) a++w).take (yH x a)=J1 (yH x a) a:=Jn (by simp);have ed:(J1 (yH x a) a++w).drop (yH x a)=w:=K3 (by simp);rw[e]at et ed ⊢
  simp only[pws];rw[if_pos et,ed]
 have h3:hdS x (J1 (yH x a) a++w)=some (a,w,nw 0 (x.zU.getD a [])++w):=by unfold hdS;rw[h1];exact h2
 rw[e]at h3 ⊢
 simp only[stS];rw[h3]
end
end Go.Pl

namespace Go.Pl
open Go Go.Ab Go.Wk Go.Pc
theorem zDc{p:Int}{D:Nat}{u v w:List Int}:adv p D (adv p D u v) w=adv p D u (adv p D v w):=by
 refine zX fun j hj=>?_
 rw[yG hj,yG hj,Int.emod_add_emod,Jbu,Int.add_assoc]
theorem zEK{p:Int}{D:Nat}{u v:List Int}{A:Mx}:wC p D (adv p D u v) A=adv p D (wC p D u A) (wC p D v A):=by
 refine zX fun j hj=>?_
 rw[wC,wC,yG hj,yG hj,←Kl,←zC5];refine kJ fun l hl=>?_
 rw[yG hl,←Qf,Jx,Kc,←Jx]
theorem zLF{α:Type}(m:α→α→α)(z:α):∀(cs:List α)(j n:Nat)(acc:α),j<cs.length→j<n→img m cs (xJ n j) acc=m acc (cs.getD j z)
 | [],_,_,_,h,_=>by simp at h
 |c::cs,0,n+1,acc,_,_=>by rw[zCT];show img m cs (zeros n) (iter (1:Int).toNat (fun v=>m v c) acc)=_;rw[sT];rfl
 |c::cs,j+1,n+1,acc,h,h2=>by rw[zFq];show img m cs (xJ n j) (iter (0:Int).toNat (fun v=>m v c) acc)=_;rw[show iter (0:Int).toNat (fun v=>m v c) acc=acc from rfl,zLF m z cs j n acc (by simpa using h) (by omega),Ub]
 |_::_,0,0,_,_,h=>by omega
 |_::_,_+1,0,_,_,h=>by omega
theorem zF8(n d:Nat):zeros (n+d)=zeros n++zeros d:=by simp only[zeros,Jv]
theorem zRT{n d j:Nat}(hj:j<n):xJ (n+d) j=xJ n j++zeros d:=by unfold xJ;rw[zF8,List.set_append_left _ _ (by rw[yA];exact hj)]
def fo(e:SPr)(k:Nat)(u:Vec)(w:List Nat):Vec:=w.foldl (fun u a=>mul (suf e k) u (xJ (e.zA.length-k) (a-k))) u
theorem zCB{e:SPr}{k:Nat}{u:Vec}{v w:List Nat}:fo e k u (v++w)=fo e k (fo e k u v) w:=by simp[fo,Ud]
theorem sY{e:SPr}{k:Nat}{u:Vec}{a:Nat}{w:List Nat}:fo e k u (a::w)=fo e k (mul (suf e k) u (xJ (e.zA.length-k) (a-k))) w:=rfl
theorem zWV{e:SPr}{k a:Nat}(ha:k<a)(hn:a<e.zA.length){b:Int}{y:Vec}(hb:b<at0 e.zA k):mul (suf e k) (b::y) (xJ (e.zA.length-k) (a-k))=b::mul (suf e (k+1)) y (xJ (e.zA.length-(k+1)) (a-(k+1))):=by obtain⟨t,ht⟩:∃t,a-k=t+1:=⟨a-(k+1),by omega⟩;obtain⟨s,hs⟩:∃s,e.zA.length-k=s+1:=⟨e.zA.length-(k+1),by omega⟩;rw[yE (x:=e) (by omega),ht,hs,zFq,yW,if_neg (by show¬(b+0≥at0 e.zA k);omega),show a-(k+1)=t from by omega,show e.zA.length-(k+1)=s from by omega,Ha];rfl
theorem zWW{e:SPr}{k:Nat}(hn:k<e.zA.length){b:Int}{y:Vec}:mul (suf e k) (b::y) (xJ (e.zA.length-k) (k-k))=if b+1≥at0 e.zA k then(b+1-at0 e.zA k)::mul (suf e (k+1)) (lvl e k).w (mul (suf e (k+1)) (sig (suf e (k+1)) (lvl e k) y) (zeros (e.zA.length-(k+1))))else(b+1)::mul (suf e (k+1)) (sig (suf e (k+1)) (lvl e k) y) (zeros (e.zA.length-(k+1))):=by obtain⟨s,hs⟩:∃s,e.zA.length-k=s+1:=⟨e.zA.length-(k+1),by omega⟩;rw[yE (x:=e) hn,hs,Ku,zCT,yW,show e.zA.length-(k+1)=s from by omega];rfl
section
variable {D:Nat}{x:SPr}{m:zG}{T:Mx} (h:Pres x) (hE:ExB x.zA.length D x m T) (hT:∀i,i<T.length→Row m.Prime D (T.getD i []))
 include h hE hT
theorem zWX{k:Nat}(hk:k≤x.zA.length){e:Vec}(he:V (suf (exx D x m T) k) e):mul (suf (exx D x m T) k) e (zeros ((exx D x m T).zA.length-k))=e:=by have hp:=hE.m.p.pos;obtain⟨y,u,rfl,hy,hu⟩:=(sG h hE hT (x.zA.length-k) k (by omega) _).1 he;have:=zEH h hE hT (x.zA.length-k) k (by omega) y u (zeros D) hy hu (xL (by omega));rw[zAx hu]at this;rw[wJ h hE hT,show x.zA.length+D-k=(x.zA.length-k)+D from by omega,zF8];exact this
def adK(p:Int)(D N:Nat)(e d:Vec):Vec:=e.take N++adv p D (e.drop N) d
theorem zJS{k:Nat}(hk:k≤x.zA.length){e d:Vec}(he:V (suf (exx D x m T) k) e)(hd:Row m.Prime D d):adK m.Prime D (x.zA.length-k) e d=mul (suf (exx D x m T) k) e (zeros (x.zA.length-k)++d):=by obtain⟨y,u,rfl,hy,hu⟩:=(sG h hE hT (x.zA.length-k) k (by omega) _).1 he;have hyl:=wY h (by omega) hy;rw[zEH h hE hT (x.zA.length-k) k (by omega) y u d hy hu hd,adK,Jn hyl,K3 hyl]
theorem zWY{k:Nat}(hk:k≤x.zA.length){e d:Vec}(he:V (suf (exx D x m T) k) e):V (suf (exx D x m T) k) (adK m.Prime D (x.zA.length-k) e d):=by have hp:=hE.m.p.pos;obtain⟨y,u,rfl,hy,hu⟩:=(sG h hE hT (x.zA.length-k) k (by omega) _).1 he;have hyl:=wY h (by omega) hy;rw[adK,Jn hyl,K3 hyl];exact(sG h hE hT (x.zA.length-k) k (by omega) _).2 ⟨y,_,rfl,hy,sW (by omega)⟩
theorem zV0{k:Nat}(hk:k≤x.zA.length){e d d':Vec}(he:V (suf (exx D x m T) k) e):adK m.Prime D (x.zA.length-k) (adK m.Prime D (x.zA.length-k) e d) d'=adK m.Prime D (x.zA.length-k) e (adv m.Prime D d d'):=by obtain⟨y,u,rfl,hy,hu⟩:=(sG h hE hT (x.zA.length-k) k (by omega) _).1 he;have hyl:=wY h (by omega) hy;simp only[adK,Jn hyl,K3 hyl,zDc]
theorem zAF{k:Nat}(hk:k<x.zA.length){b:Int}{e d:Vec}:adK m.Prime D (x.zA.length-k) (b::e) d=b::adK m.Prime D (x.zA.length-(k+1)) e d:=by have _:=h;have _:=hE;have _:=hT;rw[show x.zA.length-k=x.zA.length-(k+1)+1 from by omega];simp only[adK,K9,List.drop_succ_cons,Jq]
theorem zD{k:Nat}(hk:k≤x.zA.length){d:Vec}(hd:Row m.Prime D d):V (suf (exx D x m T) k) (zeros (x.zA.length-k)++d):=
 (sG h hE hT (x.zA.length-k) k (by omega) _).2 ⟨_,d,rfl,zv h hE hT hk,hd⟩
theorem zV1{k a:Nat}(hk:k≤a)(ha:a<x.zA.length):V (suf x k) (xJ (x.zA.length-k) (a-k)):=by
 have _:=hE;have _:=hT;have:=zCt (h.okAt (k:=k) (by omega)) (j:=a-k) (by rw[yM];omega)
 rwa [yM]at this
theorem zP7{k a:Nat}(hk:k≤a)(ha:a<x.zA.length):xJ ((exx D x m T).zA.length-k) (a-k)=xJ (x.zA.length-k) (a-k)++zeros D:=by rw[wJ h hE hT,show x.zA.length+D-k=x.zA.length-k+D from by omega,zRT (by omega)]
theorem zCC{k a:Nat}(hk:k≤a)(ha:a<x.zA.length):V (suf (exx D x m T) k) (xJ ((exx D x m T).zA.length-k) (a-k)):=by have hp:=hE.m.p.pos;rw[zP7 h hE hT hk ha];exact(sG h hE hT (x.zA.length-k) k (by omega) _).2 ⟨_,_,rfl,zV1 h hE hT hk ha,xL (by omega)⟩
theorem zUn{k a:Nat}(hk:k≤a)(ha:a<x.zA.length):aM m D k (xJ (x.zA.length-k) (a-k))=m.zQ.getD a []:=by have _:=h;have _:=hT;have hA:=hE.m.mat a ha;have hl:=hE.m.len;unfold aM;rw[zLF (PM m.Prime D) [] _ _ _ _ (by rw[K1];omega) (by omega),J2,Ko,show k+(a-k)=a from by omega,←J2,zE2 hA]
variable {k:Nat} (hk:k<x.zA.length) (hc:wQ (suf (exx D x m T) (k+1)))
 include hk hc
theorem zV2{a:Nat}(h1:k+1≤a)(ha:a<x.zA.length){e d:Vec}(he:V (suf (exx D x m T) (k+1)) e)(hd:Row m.Prime D d):
  mul (suf (exx D x m T) (k+1)) (adK m.Prime D (x.zA.length-(k+1)) e d) (xJ ((exx D x m T).zA.length-(k+1)) (a-(k+1)))=adK m.Prime D (x.zA.length-(k+1)) (mul (suf (exx D x m T) (k+1)) e (xJ ((exx D x m T).zA.length-(k+1)) (a-(k+1)))) (wC m.Prime D d (m.zQ.getD a [])):=by
 have hp:=hE.m.p.pos;have hok:=vZ h hE hT (k:=k+1) (by omega);have G:=(zCv _ hok hc).toMon;have hg:=zCC h hE hT h1 ha;have hgv:=zV1 h hE hT h1 ha;have hz:=zD h hE hT (k:=k+1) (by omega) hd;have hz2:=zD h hE hT (k:=k+1) (by omega) (wX (p:=m.Prime) (D:=D) (r:=d) (B:=m.zQ.getD a []) (by omega));rw[zJS h hE hT (by omega) he hd,G.assoc he hz hg,zP7 h hE hT h1 ha,zO8 h hE hT _ (k+1) (by omega) _ _ _ hd hgv (xL (by omega)),zAx (wX (by omega)),zUn h hE hT h1 ha,←zP7 h hE hT h1 ha,zJS h hE hT (by omega) (G.cl he hg) (wX (by omega)),G.assoc he hg hz2,zP7 h hE hT h1 ha,zEH h hE hT _ (k+1) (by omega) _ _ _ hgv (xL (by omega)) (wX (by omega)),vS (wX (by omega))]
 omit hc in
theorem zHM{e d:Vec}(he:V (suf (exx D x m T) (k+1)) e)(_hd:Row m.Prime D d):
    sig (suf (exx D x m T) (k+1)) (lvl (exx D x m T) k) (adK m.Prime D (x.zA.length-(k+1)) e d)=adK m.Prime D (x.zA.length-(k+1)) (sig (suf (exx D x m T) (k+1)) (lvl (exx D x m T) k) e) (wC m.Prime D d (m.zQ.getD k [])):=by
  have hp:=hE.m.p.pos;obtain⟨y,u,rfl,hy,hu⟩:=(sG h hE hT (x.zA.length-(k+1)) (k+1) (by omega) _).1 he;have hyl:=wY h (by omega) hy;obtain⟨y1,u1,e,hy1,hu1⟩:=(sG h hE hT (x.zA.length-(k+1)) (k+1) (by omega) _).1 (zHF h hE hT hk (y:=y));have hy1l:=wY h (by omega) hy1;have e0:adK m.Prime D (x.zA.length-(k+1)) (y++u) d=y++adv m.Prime D u d:=by rw[adK,Jn hyl,K3 hyl]
  rw[e0,zBI h hE hT hk hy (sW (by omega)),zBI h hE hT hk hy hu,e,Jn hy1l,K3 hy1l,adK,Jn hy1l,K3 hy1l,zEK,zDc]
theorem zLG{z d:Vec}(hz:V (suf (exx D x m T) (k+1)) z)(hd:Row m.Prime D d){w:Vec}(hw:V (suf (exx D x m T) (k+1)) w):
  mul (suf (exx D x m T) (k+1)) w (adK m.Prime D (x.zA.length-(k+1)) z d)=adK m.Prime D (x.zA.length-(k+1)) (mul (suf (exx D x m T) (k+1)) w z) d:=by
 have hok:=vZ h hE hT (k:=k+1) (by omega);have G:=(zCv _ hok hc).toMon;rw[zJS h hE hT (by omega) hz hd,zJS h hE hT (by omega) (G.cl hw hz) hd,G.assoc hw hz (zD h hE hT (by omega) hd)]
 omit hc in
theorem zP8:V (suf (exx D x m T) (k+1)) (lvl (exx D x m T) k).w:=by
  have hok:=vZ h hE hT (k:=k) (by omega);rw[yE (x:=exx D x m T) (by rw[wJ h hE hT];omega)]at hok;exact hok.2.1
 omit hc in
theorem zAz{e:Vec}(he:V (suf (exx D x m T) (k+1)) e):V (suf (exx D x m T) (k+1)) (sig (suf (exx D x m T) (k+1)) (lvl (exx D x m T) k) e):=by have hok:=vZ h hE hT (k:=k) (by omega);rw[yE (x:=exx D x m T) (by rw[wJ h hE hT];omega)]at hok;exact zCu hok he
theorem zFX{b:Int}{e:Vec}(he:V (suf (exx D x m T) (k+1)) e):mul (suf (exx D x m T) k) (b::e) (xJ ((exx D x m T).zA.length-k) (k-k))=if b+1≥at0 x.zA k then(b+1-at0 x.zA k)::mul (suf (exx D x m T) (k+1)) (lvl (exx D x m T) k).w (sig (suf (exx D x m T) (k+1)) (lvl (exx D x m T) k) e)else(b+1)::sig (suf (exx D x m T) (k+1)) (lvl (exx D x m T) k) e:=by have _:=hc;rw[zWW (by rw[wJ h hE hT];omega),zWX h hE hT (by omega) (zAz h hE hT hk he),uY h hE hT hk]
theorem zLH{a:Nat}(h1:k<a)(ha:a<x.zA.length){b:Int}(hb:b<at0 x.zA k){e:Vec}:mul (suf (exx D x m T) k) (b::e) (xJ ((exx D x m T).zA.length-k) (a-k))=b::mul (suf (exx D x m T) (k+1)) e (xJ ((exx D x m T).zA.length-(k+1)) (a-(k+1))):=by have _:=hc;exact zWV h1 (by rw[wJ h hE hT];omega) (by rw[uY h hE hT hk];exact hb)
theorem zZS{a:Nat}(h1:k≤a)(ha:a<x.zA.length){b:Int}(hb:b<at0 x.zA k){e d:Vec}(he:V (suf (exx D x m T) (k+1)) e)(hd:Row m.Prime D d):
  mul (suf (exx D x m T) k) (b::adK m.Prime D (x.zA.length-(k+1)) e d) (xJ ((exx D x m T).zA.length-k) (a-k))=adK m.Prime D (x.zA.length-k) (mul (suf (exx D x m T) k) (b::e) (xJ ((exx D x m T).zA.length-k) (a-k))) (wC m.Prime D d (m.zQ.getD a [])):=by
 have hp:=hE.m.p.pos;rcases Jk k a with g|g
 ·rw[zLH h hE hT hk hc g ha hb,zLH h hE hT hk hc g ha hb,zV2 h hE hT hk hc g ha he hd,zAF h hE hT hk]
 ·obtain rfl:a=k:=by omega
  rw[zFX h hE hT hk hc (zWY h hE hT (by omega) he),zFX h hE hT hk hc he,zHM h hE hT hk he hd];split
  ·rw[zLG h hE hT hk hc (zAz h hE hT hk he) (wX (by omega)) (zP8 h hE hT hk),zAF h hE hT hk]
  ·rw[zAF h hE hT hk]
theorem zZT{a:Nat}(h1:k≤a)(ha:a<x.zA.length){e:Vec}(he:V (suf (exx D x m T) k) e):V (suf (exx D x m T) k) (mul (suf (exx D x m T) k) e (xJ ((exx D x m T).zA.length-k) (a-k))):=by have _:=hc;have _:=hk;exact xE (vZ h hE hT (by omega)) he (zCC h hE hT h1 ha)
theorem zOD:∀{w:List Nat},(∀a∈w,k≤a∧a<x.zA.length)→ ∀{e d:Vec},V (suf (exx D x m T) k) e→Row m.Prime D d→fo (exx D x m T) k (adK m.Prime D (x.zA.length-k) e d) w=adK m.Prime D (x.zA.length-k) (fo (exx D x m T) k e w) (wC m.Prime D d (wM m.Prime D m.zQ w (idM D)))
 | [],_,e,d,_,hd=>by show adK _ _ _ e d=adK _ _ _ e (wC m.Prime D d (idM D));rw[jD hd]
 |a::w,hw,e,d,he,hd=>by
  have hp:=hE.m.p.pos;obtain⟨a1,a2⟩:=hw a (by simp);have hA:=hE.m.mat a a2;have he':=he;rw[yE (x:=exx D x m T) (by rw[wJ h hE hT];omega)]at he';cases e with
  |nil=>exact he'.elim
  |cons b e=>
   obtain⟨⟨b0,b1⟩,he1⟩:=he';have b2:b<at0 x.zA k:=by rw[←uY h hE hT hk];exact b1
   rw[sY,sY,zAF h hE hT hk,zZS h hE hT hk hc a1 a2 b2 he1 hd,zOD (fun b hb=>hw b (by simp[hb])) (zZT h hE hT hk hc a1 a2 he) (wX (by omega)),zEG hA.1]
   congr 2
   show PM _ _ _ (wM m.Prime D m.zQ w (idM D))=wM m.Prime D m.zQ w (PM m.Prime D (idM D) (m.zQ.getD a []));rw[←zJB (by omega) hA.1 w (qM (by omega)),zC7 hA,zE2 hA]
end
end Go.Pl

namespace Go.Pl
open Go Go.Ab Go.Wk Go.Pc
inductive Col (x:SPr) (k:Nat):List Nat→List (Nat×List Nat)→List Nat→Prop where
 |refl (w:List Nat):Col x k w [] w
 |step {w w1 w' s:List Nat}{r:Nat}{tr:List (Nat×List Nat)} (hw:∀a∈w,k≤a∧a<x.zA.length) (hs:stS x w=some (r,s,w1)) (h:Col x k w1 tr w'):Col x k w ((r,s)::tr) w'
theorem Col.trans{x:SPr}{k:Nat}{w w1 w2:List Nat}{t1 t2:List (Nat×List Nat)}(h:Col x k w t1 w1)(h2:Col x k w1 t2 w2):Col x k w (t1++t2) w2:=by
 induction h with
 |refl w=>exact h2
 |step hw hs _ ih=>exact .step hw hs (ih h2)
def tv(p:Int)(D:Nat)(m:zG)(T:Mx):List (Nat×List Nat)→Vec
 | []=>zeros D
 |(r,s)::t=>adv p D (wC p D (T.getD r []) (wM p D m.zQ s (idM D))) (tv p D m T t)
section
variable {p:Int}{D:Nat}{m:zG}{T:Mx} (hp:2≤p)
 include hp
theorem zJT:∀t,Row p D (tv p D m T t)
 | []=>xL (by omega)
 |(_,_)::_=>sW (by omega)
theorem zHN:∀t u,tv p D m T (t++u)=adv p D (tv p D m T t) (tv p D m T u)
 | [],u=>(vS (zJT hp u)).symm
 |(r,s)::t,u=>by show adv p D _ (tv p D m T (t++u))=adv p D (adv p D _ _) _;rw[zHN t u,zDc]
theorem zWZ{A:List Mx}{u v:List Nat}:wM p D A (u++v) (idM D)=PM p D (wM p D A u (idM D)) (wM p D A v (idM D)):=by have hu:=zH2 (D:=D) (A:=A) (show 0<p by omega) u (qM hp);rw[zFz,←zJB (by omega) hu.1 v (qM hp),zC7 hu]
theorem zEL{A:List Mx}{u v:List Nat}{r:Vec}:wC p D r (wM p D A (u++v) (idM D))=wC p D (wC p D r (wM p D A u (idM D))) (wM p D A v (idM D)):=by have hu:=zH2 (D:=D) (A:=A) (show 0<p by omega) u (qM hp);rw[zWZ hp,zEG hu.1]
theorem zRU(z:List Nat):∀t,tv p D m T (t.map fun q=>(q.1,q.2++z))=wC p D (tv p D m T t) (wM p D m.zQ z (idM D))
 | []=>zAy.symm
 |(r,s)::t=>by show adv p D (wC p D (T.getD r []) (wM p D m.zQ (s++z) (idM D))) (tv p D m T (t.map fun q=>(q.1,q.2++z)))=wC p D (adv p D _ (tv p D m T t)) _;rw[zRU z t,zEK,zEL hp]
end
section
variable {x:SPr} (h:Pres x)
 include h
theorem zJU{a:Nat}(ha:a<x.zA.length):2≤yH x a:=by have:=(h.os.2 a ha).pos;show 2≤(at0 x.zA a).toNat;omega
theorem tP{v:List Int}{i:Nat}(hv:Exp x.zA v i)(hi:i<x.zA.length):nw 0 v=nw (i+1) (v.drop (i+1))∧ ∀a∈nw 0 v,i+1≤a∧a<x.zA.length:=by
 have _:=h;have e:=zAj hv hi;have e1:nw 0 v=nw (i+1) (v.drop (i+1)):=by rw[e,zCW,zCA,yA,Ji,Jf,K3 (by rw[yA])]
 refine⟨e1,fun a ha=>?_⟩;rw[e1]at ha;refine⟨?_,zLw (n:=x.zA.length) (i+1) _ (by rw[K1,hv.1.1];omega) a ha⟩
 clear e e1 hv
 generalize v.drop (i+1)=y at ha
 generalize i+1=o at ha ⊢
 clear hi
 induction y generalizing o with
 |nil=>simp[nw]at ha
 |cons b y ih=>
  simp only[nw,Jj]at ha;rcases ha with ha|ha
  ·have:=Js ha;omega
  ·have:=ih (o+1) ha;omega
theorem vU{i j:Nat}(hi:i<j)(hj:j<x.zA.length):Exp x.zA (lcj x i j) i:=by have g:=(h.tl i (by omega)).2.1;exact(h.tl i (by omega)).2.2 (j-(i+1)) (by omega)
theorem qO{i:Nat}(hi:i<x.zA.length):Exp x.zA (x.zU.getD i []) i:=(h.tl i hi).1
theorem zRV:∀(o:Nat)(y:Vec),∀a∈nw o y,o≤a
 |_,[],a,ha=>by simp[nw]at ha
 |o,b::y,a,ha=>by
  have _:=h;simp only[nw,Jj]at ha;rcases ha with ha|ha
  ·have:=Js ha;omega
  ·have:=zRV (o+1) y a ha;omega
theorem zOE{k:Nat}{y:Vec}(hk:k≤x.zA.length)(hy:V (suf x k) y):∀a∈nw k y,k≤a∧a<x.zA.length:=fun a ha=>
 ⟨zRV h k y a ha,zLw (n:=x.zA.length) k y (by rw[wY h hk hy];omega) a ha⟩
theorem zF9:∀(d k:Nat),k+d=x.zA.length→ ∀y,V (suf x k) y→stS x (nw k y)=none
 |0,k,hk,y,hy=>by rw[vP (x:=x) (k:=k) (by omega)]at hy;obtain rfl:y=[]:=hy;rfl
 |d+1,k,hk,y,hy=>by
  rw[yE (x:=x) (by omega)]at hy;cases y with
  |nil=>exact hy.elim
  |cons b y=>
   obtain⟨⟨b0,b1⟩,hy⟩:=hy;change b<at0 x.zA k at b1;simp only[nw];have hlt:b.toNat<yH x k:=by show b.toNat<(at0 x.zA k).toNat;omega
   rw[zDV hlt b.toNat (Jp _) fun a ha=>?_,zF9 d (k+1) (by omega) y hy]
   ·rfl
   ·have:=zRV h (k+1) y a (Jbg (by rw[ha];rfl))
    omega
theorem Col.ctx{i a:Nat}(hi:i<x.zA.length)(ha:a<yH x i){s:List Nat}(hs:∀b∈s,i≤b∧b<x.zA.length){w w':List Nat}{tr:List (Nat×List Nat)}(hc:Col x (i+1) w tr w'):
  Col x i (J1 a i++(w++s)) (tr.map fun q=>(q.1,q.2++s)) (J1 a i++(w'++s)):=by
 induction hc with
 |refl w=>exact .refl _
 | @step w w1 w' s1 r tr hw hst _ ih=>
  refine .step (fun b hb=>?_) ?_ ih
  ·simp only[Jj]at hb
   rcases hb with hb|hb|hb
   ·have:=Js hb;omega
   ·have:=hw b hb;omega
   ·exact hs b hb
  ·rw[zDV ha a (Jp _) fun b hb=>?_,zJR (fun b hb=>zJU h (hw b hb).2) hst]
   ·rfl
   ·cases w with
    |nil=>cases hst
    |cons c w=>
     simp only[Jq,Gv,Lb.injEq]at hb;have:=hw c (by simp);omega
def cwd(x:SPr)(i:Nat):List Nat→List Nat
 | []=>[]
 |l::ur=>cwd x i ur++nw 0 (lcj x i l)
def mtr(x:SPr)(i:Nat):List Nat→List Nat→List (Nat×List Nat)
 | [],_=>[]
 |l::ur,z=>(base x.zA.length i+(l-(i+1)),z)::mtr x i ur (nw 0 (lcj x i l)++z)
theorem zJV{i:Nat}:∀{ur:List Nat},(∀b∈ur,i+1≤b∧b<x.zA.length)→ ∀b∈cwd x i ur,i+1≤b∧b<x.zA.length
 | [],_,b,hb=>by simp[cwd]at hb
 |l::ur,hu,b,hb=>by
  simp only[cwd,Jj]at hb;obtain⟨l1,l2⟩:=hu l (by simp);rcases hb with hb|hb
  ·exact zJV (fun b hb=>hu b (by simp[hb])) b hb
  ·exact(tP h (vU h (by omega) l2) (by omega)).2 b hb
theorem Col.move{i a:Nat}(hi:i<x.zA.length)(ha:a<yH x i):∀{ur:List Nat},(∀b∈ur,i+1≤b∧b<x.zA.length)→stS x ur.reverse=none→ ∀{z:List Nat},(∀b∈z,i≤b∧b<x.zA.length)→
  Col x i (J1 a i++(ur.reverse++i::z)) (mtr x i ur z) (J1 (a+1) i++(cwd x i ur++z))
 | [],_,_,z,_=>by
  have e:J1 a i++(([]:List Nat).reverse++i::z)=J1 (a+1) i++(cwd x i []++z):=by rw[H4];simp[cwd]
  rw[e];exact .refl _
 |l::ur,hu,hn,z,hz=>by
  obtain⟨l1,l2⟩:=hu l (by simp);have hu2:∀b∈ur,i+1≤b∧b<x.zA.length:=fun b hb=>hu b (by simp[hb])
  have hnc:=tP h (vU h (show i<l by omega) l2) hi;rw[H0]at hn ⊢
  have hn2:=zFW (fun b hb=>zJU h (hu2 b (by simpa using hb)).2) hn;have hz2:∀b∈nw 0 (lcj x i l)++z,i≤b∧b<x.zA.length:=fun b hb=>by
   simp only[Jj]at hb;rcases hb with hb|hb
   ·have:=hnc.2 b hb;omega
   ·exact hz b hb
  have ih:=Col.move hi ha hu2 hn2 hz2;rw[show cwd x i (l::ur)++z=cwd x i ur++(nw 0 (lcj x i l)++z)from by simp[cwd]];have e1:ur.reverse++[l]++i::z=ur.reverse++l::i::z:=by simp
  rw[e1];refine .step (fun b hb=>?_) ?_ ih
  ·simp only[Jj,Jd,Qs]at hb
   rcases hb with hb|hb|hb|hb|hb
   ·have:=Js hb;omega
   ·have:=hu2 b hb;omega
   ·omega
   ·omega
   ·exact hz b hb
  ·rw[zDV ha a (Jp _) fun b hb=>?_,zRS (fun b hb=>by have:=hu2 b (by simpa using hb);omega) (by omega) hn]
   ·rfl
   ·have:b∈ur.reverse++l::i::z:=Jbg (by rw[hb];rfl)
    cases e:ur.reverse with
    |nil=>rw[e]at hb;simp only[Ji,Gv,Lb.injEq]at hb;omega
    |cons c t=>
     rw[e]at hb;simp only[Jq,Gv,Lb.injEq]at hb;have:=hu2 c (by rw[←Qs,e];simp);omega
end
end Go.Pl

namespace Go.Pl
open Go Go.Ab Go.Wk Go.Pc
theorem zHO{α:Type}(m:α→α→α)(c:Nat→α)(z:α):∀(cs:List α)(v:Vec)(o:Nat)(acc:α),(∀j,j<cs.length→cs.getD j z=c (o+j))→v.length≤cs.length→img m cs v acc=(nw o v).foldl (fun acc j=>m acc (c j)) acc
 |cs,[],o,acc,_,_=>by cases cs<;>rfl
 | [],_::_,_,_,_,h=>by simp at h
 |a::cs,b::v,o,acc,hc,hl=>by
  have h0:=hc 0 (by simp);simp only[Lu,U8]at h0;have e:∀(k:Nat)(u:α),(J1 k o).foldl (fun acc j=>m acc (c j)) u=iter k (fun v=>m v a) u:=by
   intro k
   induction k with
   |zero=>intro u;rfl
   |succ k ih=>intro u;rw[Jo,Gw,ih,h0];rfl
  show img m cs v (iter b.toNat (fun v=>m v a) acc)=_;simp only[nw,Ud];rw[e,zHO m c z cs v (o+1) _ (fun j hj=>by have:=hc (j+1) (by simpa using hj);rw[Ub]at this;rw[this];congr 1;omega) (by simpa using hl)]
theorem map_drop{l:List (List Int)}{n i:Nat}:(l.map (·.drop n)).getD i []=(l.getD i []).drop n:=by rw[J2,J2,K0];cases l[i]? <;>simp
section
variable {D:Nat}{x:SPr}{m:zG}{T:Mx} (h:Pres x) (hE:ExB x.zA.length D x m T) (hT:∀i,i<T.length→Row m.Prime D (T.getD i []))
 include h hE hT
theorem zUo{k:Nat}(hk:k<x.zA.length)(hc:wQ (suf (exx D x m T) k)):wQ (suf (exx D x m T) (k+1)):=by rw[yE (x:=exx D x m T) (by rw[wJ h hE hT];omega)]at hc;exact hc.1
theorem zNk{k:Nat}(hk:k≤x.zA.length):V (suf (exx D x m T) k) (zeros ((exx D x m T).zA.length-k)):=by
 have:=wP (vZ h hE hT (k:=k) (by omega))
 rwa [yM]at this
theorem zHP{k:Nat}(hk:k≤x.zA.length):zeros ((exx D x m T).zA.length-k)=zeros (x.zA.length-k)++zeros D:=by rw[wJ h hE hT,show x.zA.length+D-k=x.zA.length-k+D from by omega,zF8]
theorem zDn{k:Nat}(hk:k≤x.zA.length){y u:Vec}(hy:V (suf x k) y)(hu:Row m.Prime D u):V (suf (exx D x m T) k) (y++u):=
 (sG h hE hT (x.zA.length-k) k (by omega) _).2 ⟨y,u,rfl,hy,hu⟩
theorem jU{k:Nat}(hk:k≤x.zA.length){y u d:Vec}(hy:V (suf x k) y):adK m.Prime D (x.zA.length-k) (y++u) d=y++adv m.Prime D u d:=by have _:=hE;have _:=hT;have hyl:=wY h hk hy;rw[adK,Jn hyl,K3 hyl]
theorem zHQ:∀(d k:Nat),k+d=x.zA.length→wQ (suf (exx D x m T) k)→ ∀y,V (suf x k) y→fo (exx D x m T) k (zeros ((exx D x m T).zA.length-k)) (nw k y)=y++zeros D
 |0,k,hk,_,y,hy=>by rw[vP (x:=x) (k:=k) (by omega)]at hy;obtain rfl:y=[]:=hy;rw[zHP h hE hT (by omega),show x.zA.length-k=0 from by omega];rfl
 |d+1,k,hk,hc,y,hy=>by
  have hc1:=zUo h hE hT (by omega) hc;have ih:=zHQ d (k+1) (by omega) hc1;rw[yE (x:=x) (by omega)]at hy;cases y with
  |nil=>exact hy.elim
  |cons b y=>
   obtain⟨⟨b0,b1⟩,hy⟩:=hy;change b<at0 x.zA k at b1;have hkn:k<x.zA.length:=by omega
   have hz:=zNk h hE hT (k:=k+1) (by omega);simp only[nw];rw[zCB];have e1:∀c:Nat,(c:Int)<at0 x.zA k→fo (exx D x m T) k (zeros ((exx D x m T).zA.length-k)) (J1 c k)=(c:Int)::zeros ((exx D x m T).zA.length-(k+1)):=by
    intro c
    induction c with
    |zero=>
     intro _;have hl:=wJ h hE hT;rw[show(exx D x m T).zA.length-k=(exx D x m T).zA.length-(k+1)+1 from by omega];rfl
    |succ c ihc=>
     intro hcl;rw[H4,zCB,ihc (by omega)];show mul _ _ _=_;rw[zFX h hE hT hkn hc1 hz,if_neg (by omega)];have:sig (suf (exx D x m T) (k+1)) (lvl (exx D x m T) k) (zeros ((exx D x m T).zA.length-(k+1)))=zeros ((exx D x m T).zA.length-(k+1)):=by unfold sig;rw[sT,yM]
     rw[this];rfl
   have e2:∀(w:List Nat)(e:Vec),(∀a∈w,k+1≤a∧a<x.zA.length)→fo (exx D x m T) k (b::e) w=b::fo (exx D x m T) (k+1) e w:=by
    intro w
    induction w with
    |nil=>intro e _;rfl
    |cons a w ihw=>
     intro e hw;rw[sY,zLH h hE hT hkn hc1 (hw a (by simp)).1 (hw a (by simp)).2 b1,ihw _ fun a ha=>hw a (by simp[ha])];rfl
   have:=e1 b.toNat (by omega);rw[this,show((b.toNat:Nat):Int)=b from by omega,e2 _ _ fun a ha=>zOE h (by omega) hy a ha,ih y hy];rfl
variable {k:Nat} (hk:k<x.zA.length) (hc:wQ (suf (exx D x m T) (k+1)))
 include hk hc
theorem zHR{b:Int}(hb:b<at0 x.zA k):∀(w:List Nat)(e:Vec),(∀a∈w,k+1≤a∧a<x.zA.length)→fo (exx D x m T) k (b::e) w=b::fo (exx D x m T) (k+1) e w
 | [],e,_=>rfl
 |a::w,e,hw=>by rw[sY,zLH h hE hT hk hc (hw a (by simp)).1 (hw a (by simp)).2 hb,zHR hb w _ fun a ha=>hw a (by simp[ha])];rfl
 omit hc in
theorem zP9:∀{w:List Nat},(∀a∈w,k+1≤a∧a<x.zA.length)→ ∀{e:Vec},V (suf (exx D x m T) (k+1)) e→V (suf (exx D x m T) (k+1)) (fo (exx D x m T) (k+1) e w)
  | [],_,_,he=>he
  |a::w,hw,e,he=>by rw[sY];exact zP9 (fun b hb=>hw b (by simp[hb])) (xE (vZ h hE hT (by omega)) he (zCC h hE hT (hw a (by simp)).1 (hw a (by simp)).2))
theorem zRW:∀{w:List Nat},(∀a∈w,k+1≤a∧a<x.zA.length)→ ∀{e d:Vec},V (suf (exx D x m T) (k+1)) e→Row m.Prime D d→fo (exx D x m T) (k+1) (adK m.Prime D (x.zA.length-(k+1)) e d) w=adK m.Prime D (x.zA.length-(k+1)) (fo (exx D x m T) (k+1) e w) (wC m.Prime D d (wM m.Prime D m.zQ w (idM D)))
 | [],_,e,d,_,hd=>by show adK _ _ _ e d=adK _ _ _ e (wC m.Prime D d (idM D));rw[jD hd]
 |a::w,hw,e,d,he,hd=>by
  have hp:=hE.m.p.pos;obtain⟨a1,a2⟩:=hw a (by simp);have hA:=hE.m.mat a a2;rw[sY,sY,zV2 h hE hT hk hc a1 a2 he hd,zRW (fun b hb=>hw b (by simp[hb])) (xE (vZ h hE hT (by omega)) he (zCC h hE hT a1 a2)) (wX (by omega)),zEG hA.1]
  congr 2
  show PM _ _ _ (wM m.Prime D m.zQ w (idM D))=wM m.Prime D m.zQ w (PM m.Prime D (idM D) (m.zQ.getD a []));rw[←zJB (by omega) hA.1 w (qM (by omega)),zC7 hA,zE2 hA]
theorem zRX:∀{w:List Nat},(∀a∈w,k+1≤a∧a<x.zA.length)→ ∀{e f:Vec},V (suf (exx D x m T) (k+1)) e→V (suf (exx D x m T) (k+1)) f→fo (exx D x m T) (k+1) (mul (suf (exx D x m T) (k+1)) e f) w=mul (suf (exx D x m T) (k+1)) e (fo (exx D x m T) (k+1) f w)
 | [],_,_,_,_,_=>rfl
 |a::w,hw,e,f,he,hf=>by have hok:=vZ h hE hT (k:=k+1) (by omega);have G:=(zCv _ hok hc).toMon;have hg:=zCC h hE hT (hw a (by simp)).1 (hw a (by simp)).2;rw[sY,sY,G.assoc he hf hg,zRX (fun b hb=>hw b (by simp[hb])) he (G.cl hf hg)]
theorem zHS{w:List Nat}(hw:∀a∈w,k+1≤a∧a<x.zA.length){e:Vec}(he:V (suf (exx D x m T) (k+1)) e):fo (exx D x m T) (k+1) e w=mul (suf (exx D x m T) (k+1)) e (fo (exx D x m T) (k+1) (zeros ((exx D x m T).zA.length-(k+1))) w):=by rw[←zRX h hE hT hk hc hw he (zNk h hE hT (by omega)),zWX h hE hT (by omega) he]
def dm(p:Int)(D:Nat)(x:SPr)(m:zG)(T:Mx)(k:Nat):List Nat→Vec
 | []=>zeros D
 |l::ur=>adv p D (wC p D (dm p D x m T k ur) (wM p D m.zQ (nw 0 (lcj x k l)) (idM D))) (T.getD (base x.zA.length k+(l-(k+1))) [])
 omit h hE hT hk hc in
theorem zNl(hp:2≤m.Prime):∀ur,Row m.Prime D (dm m.Prime D x m T k ur)
  | []=>xL (by omega)
  |_::_=>sW (by omega)
 omit h hE hT hk hc in
theorem zNm(hp:2≤m.Prime):∀(ur:List Nat)(z:List Nat),tv m.Prime D m T (mtr x k ur z)=wC m.Prime D (dm m.Prime D x m T k ur) (wM m.Prime D m.zQ z (idM D))
  | [],z=>zAy.symm
  |l::ur,z=>by show adv m.Prime D _ (tv m.Prime D m T (mtr x k ur (nw 0 (lcj x k l)++z)))=wC m.Prime D (adv m.Prime D _ _) _;rw[zNm hp ur,zEK,zEL hp,tF]
theorem zRY:∀{ur:List Nat},(∀b∈ur,k+1≤b∧b<x.zA.length)→ur.reverse.foldl (fun acc j=>mul (suf (exx D x m T) (k+1)) acc ((lvl (exx D x m T) k).cs.getD (j-(k+1)) [])) (zeros ((exx D x m T).zA.length-(k+1)))=
  adK m.Prime D (x.zA.length-(k+1)) (fo (exx D x m T) (k+1) (zeros ((exx D x m T).zA.length-(k+1))) (cwd x k ur)) (dm m.Prime D x m T k ur)
 | [],_=>by have hp:=hE.m.p.pos;show zeros _=adK _ _ _ (zeros _) (zeros D);rw[zHP h hE hT (by omega),jU h hE hT (by omega) (zv h hE hT (by omega)),vS (xL (by omega))]
 |l::ur,hu=>by
  have hp:=hE.m.p.pos;obtain⟨l1,l2⟩:=hu l (by simp);have hu2:∀b∈ur,k+1≤b∧b<x.zA.length:=fun b hb=>hu b (by simp[hb])
  have hok:=vZ h hE hT (k:=k+1) (by omega);have G:=(zCv _ hok hc).toMon;have hz:=zNk h hE hT (k:=k+1) (by omega);have hcw:=zJV h hu2;have hF:=zP9 h hE hT hk hcw hz;have hnc:=tP h (vU h (show k<l by omega) l2) hk;have hcl:V (suf x (k+1)) ((lcj x k l).drop (k+1)):=jI (vU h (by omega) l2) hk;have hlc:(lvl x k).cs.getD (l-(k+1)) []=(lcj x k l).drop (k+1):=map_drop;have ht:=zD0 h hE hT (show k<l by omega) l2;have hd:=zNl (D:=D) (x:=x) (m:=m) (T:=T) (k:=k) (by omega) ur;have hfn:=zHQ h hE hT (x.zA.length-(k+1)) (k+1) (by omega) hc _ hcl;have hcz:=zDn h hE hT (k:=k+1) (by omega) hcl (xL (p:=m.Prime) (D:=D) (by omega));rw[H0,Ud,zRY hu2];show mul _ (adK _ _ _ _ _) ((lvl (exx D x m T) k).cs.getD (l-(k+1)) [])=_;rw[zHH h hE hT hk l1 l2,hlc];have e1:(lcj x k l).drop (k+1)++T.getD (base x.zA.length k+(l-(k+1))) []=adK m.Prime D (x.zA.length-(k+1)) ((lcj x k l).drop (k+1)++zeros D) (T.getD (base x.zA.length k+(l-(k+1))) []):=by rw[jU h hE hT (by omega) hcl,vS ht]
  have hin:∀b∈nw (k+1) ((lcj x k l).drop (k+1)),k+1≤b∧b<x.zA.length:=fun b hb=>hnc.2 b (by rw[hnc.1];exact hb)
  have had:=zWY h hE hT (k:=k+1) (by omega) hF (d:=dm m.Prime D x m T k ur);rw[e1,zLG h hE hT hk hc hcz ht had,←hfn,←zHS h hE hT hk hc hin had,zRW h hE hT hk hc hin hF hd,zV0 h hE hT (by omega) (zP9 h hE hT hk hin hF),←zCB,←hnc.1];rfl
theorem zOF{y:Vec}(hy:V (suf x (k+1)) y):sig (suf (exx D x m T) (k+1)) (lvl (exx D x m T) k) (y++zeros D)=adK m.Prime D (x.zA.length-(k+1)) (fo (exx D x m T) (k+1) (zeros ((exx D x m T).zA.length-(k+1))) (cwd x k (nw (k+1) y).reverse)) (dm m.Prime D x m T k (nw (k+1) y).reverse):=by have hp:=hE.m.p.pos;have hyl:=wY h (by omega) hy;have hin:=zOE h (show k+1≤x.zA.length by omega) hy;rw[←zRY h hE hT hk hc fun b hb=>hin b (by simpa using hb),Km,zBI h hE hT hk hy (xL (by omega)),zAy];obtain⟨y1,u1,e,hy1,hu1⟩:=(sG h hE hT (x.zA.length-(k+1)) (k+1) (by omega) _).1 (zHF h hE hT hk (y:=y));have hy1l:=wY h (by omega) hy1;rw[e,Jn hy1l,K3 hy1l,zAx hu1,←e];unfold sgG;rw[yM];refine zHO _ (fun j=>(lvl (exx D x m T) k).cs.getD (j-(k+1)) []) [] _ _ _ _ (fun j hj=>?_) (by rw[uR h hE hT];omega);rw[uR h hE hT]at hj;rw[show k+1+j-(k+1)=j from by omega,zBH h hE hT hk,J2,J2,Jm (by rw[uR h hE hT];exact hj)]
end
end Go.Pl

namespace Go.Pl
open Go Go.Ab Go.Wk Go.Pc
section
variable {x:SPr} (h:Pres x)
 include h
theorem zLI{D:Nat}{m:zG}{T:Mx}(hE:ExB x.zA.length D x m T)(hT:∀i,i<T.length→Row m.Prime D (T.getD i [])){k:Nat}(hk:k≤x.zA.length)(hc:wQ (suf (exx D x m T) k)):wQ (suf (exx D x m T) (k+1)):=by have hl:=wJ h hE hT;have:=hE.m.d1;rw[yE (x:=exx D x m T) (by omega)]at hc;exact hc.1
structure qD (x:SPr) (k:Nat) (z:List Nat) (tr:List (Nat×List Nat)) (y:Vec):Prop where
 col:Col x k z tr (nw k y)
 v:V (suf x k) y
 val:∀(D:Nat)(m:zG)(T:Mx),ExB x.zA.length D x m T→(∀i,i<T.length→Row m.Prime D (T.getD i []))→wQ (suf (exx D x m T) (k+1))→fo (exx D x m T) k (zeros ((exx D x m T).zA.length-k)) z=y++tv m.Prime D m T tr
theorem zOG{k:Nat}(hk:k<x.zA.length)(P:∀v:List Nat,(∀a∈v,k+1≤a∧a<x.zA.length)→ ∃tr y,qD x (k+1) v tr y):∀(z:List Nat),(∀a∈z,k≤a∧a<x.zA.length)→ ∀(a:Nat),a<yH x k→ ∀(v:List Nat),(∀a∈v,k+1≤a∧a<x.zA.length)→
  ∃tr y,Col x k (J1 a k++(v++z)) tr (nw k y)∧V (suf x k) y∧ ∀(D:Nat)(m:zG)(T:Mx),ExB x.zA.length D x m T→(∀i,i<T.length→Row m.Prime D (T.getD i []))→wQ (suf (exx D x m T) (k+1))→
   fo (exx D x m T) k ((a:Int)::fo (exx D x m T) (k+1) (zeros ((exx D x m T).zA.length-(k+1))) v) z=y++tv m.Prime D m T tr
 | [],_,a,ha,v,hv=>by
  obtain⟨tr,y,c1,c2,c3⟩:=P v hv;have hc:=Col.ctx h hk ha (s:=[]) (fun b hb=>by simp at hb) c1;rw[show(fun q:Nat×List Nat=>(q.1,q.2++[]))=id from by funext q;simp,List.map_id,J9,J9]at hc;refine⟨tr,(a:Int)::y,?_,?_,fun D m T hE hT hc=>?_⟩
  ·simp only[nw,Je];rw[J9];exact hc
  ·rw[yE hk]
   refine⟨⟨by omega,?_⟩,c2⟩;show(a:Int)<at0 x.zA k;have:a<(at0 x.zA k).toNat:=ha;omega
  ·rw[c3 D m T hE hT (zLI h hE hT (by omega) hc)];rfl
 |l::z,hz,a,ha,v,hv=>by
  have hz2:∀b∈z,k≤b∧b<x.zA.length:=fun b hb=>hz b (by simp[hb])
  obtain⟨l1,l2⟩:=hz l (by simp);have ha':(a:Int)<at0 x.zA k:=by have:a<(at0 x.zA k).toNat:=ha;omega
  rcases Jk k l with g|g
  ·obtain⟨tr,y,c1,c2,c3⟩:=zOG hk P z hz2 a ha (v++[l]) (fun b hb=>by
    simp only[Jj,List.mem_singleton]at hb;rcases hb with hb|rfl
    ·exact hv b hb
    ·omega)
   refine⟨tr,y,by rw[Ja]at c1;exact c1,c2,fun D m T hE hT hc=>?_⟩;rw[←c3 D m T hE hT hc,sY,zLH h hE hT hk hc g l2 ha',zCB];rfl
  ·obtain rfl:l=k:=by omega
   obtain⟨tr1,y1,c1,c2,c3⟩:=P v hv;have hin:=zOE h (show l+1≤x.zA.length by omega) c2;have hinr:∀b∈(nw (l+1) y1).reverse,l+1≤b∧b<x.zA.length:=fun b hb=>hin b (by simpa using hb)
   have k1:=Col.ctx h hk ha (s:=l::z) hz c1;have k2:=Col.move h hk ha hinr (by rw[Km];exact zF9 h _ _ (by omega:l+1+(x.zA.length-(l+1))=x.zA.length) y1 c2) hz2;rw[Km]at k2;have hcw:=zJV h hinr;have val:∀(D:Nat)(m:zG)(T:Mx)(hE:ExB x.zA.length D x m T)(hT:∀i,i<T.length→Row m.Prime D (T.getD i []))(hc:wQ (suf (exx D x m T) (l+1))),
     fo (exx D x m T) l ((a:Int)::fo (exx D x m T) (l+1) (zeros ((exx D x m T).zA.length-(l+1))) v) (l::z)=adK m.Prime D (x.zA.length-l) (fo (exx D x m T) l (mul (suf (exx D x m T) l) ((a:Int)::(y1++zeros D)) (xJ ((exx D x m T).zA.length-l) (l-l))) z) (tv m.Prime D m T (tr1.map fun q=>(q.1,q.2++l::z))):=by
    intro D m T hE hT hc;have hp:=hE.m.p.pos;have ht:=zJT (D:=D) (m:=m) (T:=T) (p:=m.Prime) (by omega) tr1;have hyz:=zDn h hE hT (k:=l+1) (by omega) c2 (xL (p:=m.Prime) (D:=D) (by omega));have hav:V (suf (exx D x m T) l) ((a:Int)::(y1++zeros D)):=by rw[yE (x:=exx D x m T) (by rw[wJ h hE hT];omega)];refine⟨⟨by omega,?_⟩,hyz⟩;show(a:Int)<at0 (exx D x m T).zA l;rw[uY h hE hT hk];exact ha'
    rw[c3 D m T hE hT (zLI h hE hT (by omega) hc),show y1++tv m.Prime D m T tr1=adK m.Prime D (x.zA.length-(l+1)) (y1++zeros D) (tv m.Prime D m T tr1)from by rw[jU h hE hT (by omega) c2,vS ht],←zAF h hE hT hk,zOD h hE hT hk hc hz hav ht,zRU (by omega)];rfl
   have foV:∀(D:Nat)(m:zG)(T:Mx)(hE:ExB x.zA.length D x m T)(hT:∀i,i<T.length→Row m.Prime D (T.getD i []))(_hc:wQ (suf (exx D x m T) (l+1))),V (suf (exx D x m T) (l+1)) (fo (exx D x m T) (l+1) (zeros ((exx D x m T).zA.length-(l+1))) (cwd x l (nw (l+1) y1).reverse)):=fun D m T hE hT _hc=>zP9 h hE hT hk hcw (zNk h hE hT (by omega))
   rcases Jk (a+1) (yH x l)with g2|g2
   ·obtain⟨tr2,y2,d1,d2,d3⟩:=zOG hk P z hz2 (a+1) g2 (cwd x l (nw (l+1) y1).reverse) hcw
    refine⟨_,y2,k1.trans (k2.trans d1),d2,fun D m T hE hT hc=>?_⟩;have hp:=hE.m.p.pos;have hyz:=zDn h hE hT (k:=l+1) (by omega) c2 (xL (p:=m.Prime) (D:=D) (by omega));have g3:(a:Int)+1<at0 x.zA l:=by have:a+1<(at0 x.zA l).toNat:=g2;omega
    have hF:=foV D m T hE hT hc;have hav:V (suf (exx D x m T) l) (((a:Int)+1)::fo (exx D x m T) (l+1) (zeros ((exx D x m T).zA.length-(l+1))) (cwd x l (nw (l+1) y1).reverse)):=by rw[yE (x:=exx D x m T) (by rw[wJ h hE hT];omega)];refine⟨⟨by omega,?_⟩,hF⟩;show(a:Int)+1<at0 (exx D x m T).zA l;rw[uY h hE hT hk];exact g3
    have hd:=zNl (D:=D) (x:=x) (m:=m) (T:=T) (k:=l) (by omega) (nw (l+1) y1).reverse;have d3':=d3 D m T hE hT hc;rw[show(((a+1:Nat):Int))=(a:Int)+1 from by omega]at d3';rw[val D m T hE hT hc,zFX h hE hT hk hc hyz,if_neg (by omega),zOF h hE hT hk hc c2,←zAF h hE hT hk,zOD h hE hT hk hc hz2 hav hd,d3',jU h hE hT (by omega) d2,jU h hE hT (by omega) d2,←zNm (by omega),zHN (by omega),zHN (by omega),tF,tF (u:=tv m.Prime D m T tr2)]
   ·have g4:a+1=yH x l:=by omega
    have hpe:=qO h hk;have hnp:=tP h hpe hk;have hvv:∀b∈nw 0 (x.zU.getD l [])++cwd x l (nw (l+1) y1).reverse,l+1≤b∧b<x.zA.length:=fun b hb=>by
     simp only[Jj]at hb;rcases hb with hb|hb
     ·exact hnp.2 b hb
     ·exact hcw b hb
    obtain⟨tr2,y2,d1,d2,d3⟩:=zOG hk P z hz2 0 (by omega) _ hvv;rw[He,Ji,Ja]at d1;have k3:Col x l (J1 (a+1) l++(cwd x l (nw (l+1) y1).reverse++z)) ((l,cwd x l (nw (l+1) y1).reverse++z)::tr2) (nw l y2):=by
     refine .step (fun b hb=>?_) (by rw[g4];exact zVz (zJU h hk) _) d1;simp only[Jj]at hb;rcases hb with hb|hb|hb
     ·have:=Js hb;omega
     ·have:=hcw b hb;omega
     ·exact hz2 b hb
    refine⟨_,y2,k1.trans (k2.trans k3),d2,fun D m T hE hT hc=>?_⟩;have hp:=hE.m.p.pos;have hyz:=zDn h hE hT (k:=l+1) (by omega) c2 (xL (p:=m.Prime) (D:=D) (by omega));have g3:(a:Int)+1=at0 x.zA l:=by have:a+1=(at0 x.zA l).toNat:=g4;omega
    have hF:=foV D m T hE hT hc;have hd:=zNl (D:=D) (x:=x) (m:=m) (T:=T) (k:=l) (by omega) (nw (l+1) y1).reverse;have htk:=zBJ h hE hT hk;have hwx:V (suf x (l+1)) ((x.zU.getD l []).drop (l+1)):=jI hpe hk;have hwz:=zDn h hE hT (k:=l+1) (by omega) hwx (xL (p:=m.Prime) (D:=D) (by omega));have hw:(lvl (exx D x m T) l).w=adK m.Prime D (x.zA.length-(l+1)) ((x.zU.getD l []).drop (l+1)++zeros D) (T.getD l []):=by rw[zHD h hE hT hk,jU h hE hT (by omega) hwx,vS htk];rfl
    have hwV:=zP8 h hE hT hk;have hFw:=zP9 h hE hT hk hvv (zNk h hE hT (by omega));have em:mul (suf (exx D x m T) (l+1)) (lvl (exx D x m T) l).w (fo (exx D x m T) (l+1) (zeros ((exx D x m T).zA.length-(l+1))) (cwd x l (nw (l+1) y1).reverse))=adK m.Prime D (x.zA.length-(l+1)) (fo (exx D x m T) (l+1) (zeros ((exx D x m T).zA.length-(l+1))) (nw 0 (x.zU.getD l [])++cwd x l (nw (l+1) y1).reverse)) (wC m.Prime D (T.getD l []) (wM m.Prime D m.zQ (cwd x l (nw (l+1) y1).reverse) (idM D))):=by rw[←zHS h hE hT hk hc hcw hwV,hw,zRW h hE hT hk hc hcw hwz htk,←zHQ h hE hT _ (l+1) (by omega:l+1+(x.zA.length-(l+1))=x.zA.length) hc _ hwx,←zCB,←hnp.1]
    have hav:V (suf (exx D x m T) l) ((0:Int)::fo (exx D x m T) (l+1) (zeros ((exx D x m T).zA.length-(l+1))) (nw 0 (x.zU.getD l [])++cwd x l (nw (l+1) y1).reverse)):=by rw[yE (x:=exx D x m T) (by rw[wJ h hE hT];omega)];refine⟨⟨by omega,?_⟩,hFw⟩;show(0:Int)<at0 (exx D x m T).zA l;rw[uY h hE hT hk];omega
    have d3':=d3 D m T hE hT hc;rw[show(((0:Nat):Int))=0 from rfl]at d3';rw[val D m T hE hT hc,zFX h hE hT hk hc hyz,if_pos (by omega),zOF h hE hT hk hc c2,zLG h hE hT hk hc hF hd hwV,em,zV0 h hE hT (by omega) hFw,g3,Int.sub_self,←zAF h hE hT hk,zOD h hE hT hk hc hz2 hav (sW (by omega)),d3',jU h hE hT (by omega) d2,jU h hE hT (by omega) d2,zEK,←zNm (by omega),←zEL (by omega),zHN (by omega),zHN (by omega)];show y2++adv m.Prime D (adv m.Prime D (tv m.Prime D m T tr2) (adv m.Prime D _ _)) _=y2++adv m.Prime D _ (adv m.Prime D _ (adv m.Prime D _ (tv m.Prime D m T tr2)));rw[tF,tF (u:=tv m.Prime D m T tr2),tF (u:=wC m.Prime D (T.getD l []) _),zDc]
theorem zUp:∀(d k:Nat),k+d=x.zA.length→ ∀z:List Nat,(∀a∈z,k≤a∧a<x.zA.length)→ ∃tr y,qD x k z tr y
 |0,k,hk,z,hz=>by
  have:z=[]:=by
   cases z with
   |nil=>rfl
   |cons a z=>have:=hz a (by simp);omega
  subst this;refine⟨[],[],.refl _,by rw[vP (x:=x) (k:=k) (by omega)];rfl,fun D m T hE hT _=>?_⟩;show zeros _=[]++zeros D;rw[zHP h hE hT (by omega),show x.zA.length-k=0 from by omega];rfl
 |d+1,k,hk,z,hz=>by have ho:=zJU h (show k<x.zA.length by omega);obtain⟨tr,y,c1,c2,c3⟩:=zOG h (show k<x.zA.length by omega) (zUp d (k+1) (by omega)) z hz 0 (by omega) [] (fun b hb=>by simp at hb);refine⟨tr,y,by simpa using c1,c2,fun D m T hE hT hc=>?_⟩;rw[←c3 D m T hE hT hc];have hl:=wJ h hE hT;rw[show(exx D x m T).zA.length-k=(exx D x m T).zA.length-(k+1)+1 from by omega];rfl
end
end Go.Pl

namespace Go.Pl
open Go Go.Ab Go.Wk Go.Pc
section
variable {D:Nat}{x:SPr}{m:zG}{T:Mx} (h:Pres x) (hE:ExB x.zA.length D x m T) (hT:∀i,i<T.length→Row m.Prime D (T.getD i []))
 include h hE hT
variable {k:Nat} (hk:k<x.zA.length) (hc:wQ (suf (exx D x m T) (k+1)))
 include hk hc
theorem zGw{w1 w2:List Nat}{t1 t2:List (Nat×List Nat)}{y1 y2:Vec}(k1:qD x k w1 t1 y1)(k2:qD x k w2 t2 y2){r1 r2:Nat}{s1 s2:List Nat}{b:Int}{A1 A2:Vec}(hA1:V (suf (exx D x m T) (k+1)) A1)(hA2:V (suf (exx D x m T) (k+1)) A2)
  (v1:fo (exx D x m T) k (zeros ((exx D x m T).zA.length-k)) w1=b::A1)(v2:fo (exx D x m T) k (zeros ((exx D x m T).zA.length-k)) w2=b::A2)
  (htk:(adK m.Prime D (x.zA.length-(k+1)) A1 (wC m.Prime D (T.getD r1 []) (wM m.Prime D m.zQ s1 (idM D)))).take (x.zA.length-(k+1))=(adK m.Prime D (x.zA.length-(k+1)) A2 (wC m.Prime D (T.getD r2 []) (wM m.Prime D m.zQ s2 (idM D)))).take (x.zA.length-(k+1))):
  tv m.Prime D m T ((r1,s1)::t1)=tv m.Prime D m T ((r2,s2)::t2)↔adK m.Prime D (x.zA.length-(k+1)) A1 (wC m.Prime D (T.getD r1 []) (wM m.Prime D m.zQ s1 (idM D)))=adK m.Prime D (x.zA.length-(k+1)) A2 (wC m.Prime D (T.getD r2 []) (wM m.Prime D m.zQ s2 (idM D))):=by
 have _:=hA1;have _:=hA2;have key:∀(w:List Nat)(t:List (Nat×List Nat))(y:Vec)(A:Vec)(r:Nat)(s:List Nat),qD x k w t y→fo (exx D x m T) k (zeros ((exx D x m T).zA.length-k)) w=b::A→
   b::adK m.Prime D (x.zA.length-(k+1)) A (wC m.Prime D (T.getD r []) (wM m.Prime D m.zQ s (idM D)))=y++tv m.Prime D m T ((r,s)::t):=by
  intro w t y A r s kc v;rw[←zAF h hE hT hk,←v,kc.val D m T hE hT hc,jU h hE hT (by omega) kc.v,tF];rfl
 have e1:=key w1 t1 y1 A1 r1 s1 k1 v1;have e2:=key w2 t2 y2 A2 r2 s2 k2 v2;have l1:=wY h (by omega) k1.v;have l2:=wY h (by omega) k2.v;have hy:y1=y2:=by have a1:=congrArg (Jbn (x.zA.length-(k+1)+1)) e1;have a2:=congrArg (Jbn (x.zA.length-(k+1)+1)) e2;rw[K9,Jn (by omega)]at a1 a2;rw[←a1,←a2,htk]
 subst hy;constructor
 ·intro g
  rw[g,←e2]at e1;exact(Jc1.inj e1).2
 ·intro g
  rw[g,e2]at e1;exact(List.append_cancel_left e1).symm
theorem zDW{v:List Nat}(hv:∀a∈v,k+1≤a∧a<x.zA.length){z:List Nat}:fo (exx D x m T) k (zeros ((exx D x m T).zA.length-k)) (v++k::z)=fo (exx D x m T) k ((1:Int)::sig (suf (exx D x m T) (k+1)) (lvl (exx D x m T) k) (fo (exx D x m T) (k+1) (zeros ((exx D x m T).zA.length-(k+1))) v)) z:=by
 have ho:=(h.os.2 k hk).pos;have hl:=wJ h hE hT;have hF:=zP9 h hE hT hk hv (zNk h hE hT (by omega));rw[show zeros ((exx D x m T).zA.length-k)=0::zeros ((exx D x m T).zA.length-(k+1))from by rw[show(exx D x m T).zA.length-k=(exx D x m T).zA.length-(k+1)+1 from by omega];rfl,zCB,zHR h hE hT hk hc (by omega) v _ hv,sY,zFX h hE hT hk hc hF,if_neg (by omega)];rfl
 omit hc in
theorem zEM{y:Vec}(hy:V (suf x (k+1)) y):sig (suf (exx D x m T) (k+1)) (lvl (exx D x m T) k) (y++zeros D)=(nw (k+1) y).foldl (fun acc j=>mul (suf (exx D x m T) (k+1)) acc ((lvl (exx D x m T) k).cs.getD (j-(k+1)) [])) (zeros ((exx D x m T).zA.length-(k+1))):=by
  have hp:=hE.m.p.pos;have hyl:=wY h (by omega) hy;rw[zBI h hE hT hk hy (xL (by omega)),zAy];obtain⟨y1,u1,e,hy1,hu1⟩:=(sG h hE hT (x.zA.length-(k+1)) (k+1) (by omega) _).1 (zHF h hE hT hk (y:=y));have hy1l:=wY h (by omega) hy1;rw[e,Jn hy1l,K3 hy1l,zAx hu1,←e];unfold sgG;rw[yM];refine zHO _ (fun j=>(lvl (exx D x m T) k).cs.getD (j-(k+1)) []) [] _ _ _ _ (fun j hj=>?_) (by rw[uR h hE hT];omega);rw[uR h hE hT]at hj;rw[show k+1+j-(k+1)=j from by omega,zBH h hE hT hk,J2,J2,Jm (by rw[uR h hE hT];exact hj)]
 omit hc in
theorem zLJ{j:Nat}(h1:k+1≤j)(h2:j<x.zA.length):V (suf (exx D x m T) (k+1)) ((lvl (exx D x m T) k).cs.getD (j-(k+1)) []):=by have hcl:V (suf x (k+1)) ((lcj x k j).drop (k+1)):=jI (vU h (by omega) h2) hk;rw[zHH h hE hT hk h1 h2,show(lvl x k).cs.getD (j-(k+1)) []=(lcj x k j).drop (k+1)from map_drop];exact zDn h hE hT (by omega) hcl (zD0 h hE hT (by omega) h2)
theorem zLK:∀{v:List Nat},(∀a∈v,k+1≤a∧a<x.zA.length)→ ∀{e f:Vec},V (suf (exx D x m T) (k+1)) e→V (suf (exx D x m T) (k+1)) f→v.foldl (fun acc j=>mul (suf (exx D x m T) (k+1)) acc ((lvl (exx D x m T) k).cs.getD (j-(k+1)) [])) (mul (suf (exx D x m T) (k+1)) e f)=mul (suf (exx D x m T) (k+1)) e (v.foldl (fun acc j=>mul (suf (exx D x m T) (k+1)) acc ((lvl (exx D x m T) k).cs.getD (j-(k+1)) [])) f)
 | [],_,_,_,_,_=>rfl
 |a::w,hw,e,f,he,hf=>by have hok:=vZ h hE hT (k:=k+1) (by omega);have G:=(zCv _ hok hc).toMon;have hg:=zLJ h hE hT hk (hw a (by simp)).1 (hw a (by simp)).2;simp only[Gw];rw[G.assoc he hf hg,zLK (fun b hb=>hw b (by simp[hb])) he (G.cl hf hg)]
theorem csE{j:Nat}(h1:k+1≤j)(h2:j<x.zA.length):V (suf x (k+1)) ((lcj x k j).drop (k+1))∧(lvl (exx D x m T) k).cs.getD (j-(k+1)) []=adK m.Prime D (x.zA.length-(k+1)) ((lcj x k j).drop (k+1)++zeros D) (T.getD (base x.zA.length k+(j-(k+1))) [])∧
  fo (exx D x m T) (k+1) (zeros ((exx D x m T).zA.length-(k+1))) (nw 0 (lcj x k j))=(lcj x k j).drop (k+1)++zeros D∧(∀a∈nw 0 (lcj x k j),k+1≤a∧a<x.zA.length):=by
 have hcl:V (suf x (k+1)) ((lcj x k j).drop (k+1)):=jI (vU h (by omega) h2) hk;have hnc:=tP h (vU h (show k<j by omega) h2) hk;refine⟨hcl,?_,?_,hnc.2⟩
 ·rw[zHH h hE hT hk h1 h2,show(lvl x k).cs.getD (j-(k+1)) []=(lcj x k j).drop (k+1)from map_drop,jU h hE hT (by omega) hcl,vS (zD0 h hE hT (by omega) h2)]
 ·rw[hnc.1];exact zHQ h hE hT _ (k+1) (by omega:k+1+(x.zA.length-(k+1))=x.zA.length) hc _ hcl
theorem wE:V (suf x (k+1)) ((x.zU.getD k []).drop (k+1))∧(lvl (exx D x m T) k).w=adK m.Prime D (x.zA.length-(k+1)) ((x.zU.getD k []).drop (k+1)++zeros D) (T.getD k [])∧
  fo (exx D x m T) (k+1) (zeros ((exx D x m T).zA.length-(k+1))) (nw 0 (x.zU.getD k []))=(x.zU.getD k []).drop (k+1)++zeros D∧(∀a∈nw 0 (x.zU.getD k []),k+1≤a∧a<x.zA.length):=by
 have hwx:V (suf x (k+1)) ((x.zU.getD k []).drop (k+1)):=jI (qO h hk) hk;have hnp:=tP h (qO h hk) hk;refine⟨hwx,?_,?_,hnp.2⟩
 ·rw[zHD h hE hT hk,jU h hE hT (by omega) hwx,vS (zBJ h hE hT hk)];rfl
 ·rw[hnp.1];exact zHQ h hE hT _ (k+1) (by omega:k+1+(x.zA.length-(k+1))=x.zA.length) hc _ hwx
 omit hc in
theorem zJW{a:Nat}(ha:a<x.zA.length):wM m.Prime D m.zQ [a] (idM D)=m.zQ.getD a []:=by have _:=h;have _:=hT;have _:=hk;show PM m.Prime D (idM D) (m.zQ.getD a [])=_;exact zE2 (hE.m.mat a ha)
theorem zV3(hL:LC x k){t1 t2:List (Nat×List Nat)}{y1 y2:Vec}(k1:qD x k (nw 0 (x.zU.getD k [])++[k]) t1 y1)(k2:qD x k (k::nw 0 (x.zU.getD k [])) t2 y2):
  tv m.Prime D m T ((k,[k])::t1)=tv m.Prime D m T ((k,[])::t2)↔sig (suf (exx D x m T) (k+1)) (lvl (exx D x m T) k) (lvl (exx D x m T) k).w=(lvl (exx D x m T) k).w:=by
 have hp:=hE.m.p.pos;have ho:=(h.os.2 k hk).pos;obtain⟨w1,w2,w3,w4⟩:=wE h hE hT hk hc;have htk:=zBJ h hE hT hk;have hwz:=zDn h hE hT (k:=k+1) (by omega) w1 (xL (p:=m.Prime) (D:=D) (by omega));have hwV:=zP8 h hE hT hk;have v1:=zDW h hE hT hk hc w4 (z:=[]);rw[w3]at v1;have v2:=zDW h hE hT hk hc (v:=[]) (fun a ha=>by simp at ha) (z:=nw 0 (x.zU.getD k []));have hz:fo (exx D x m T) (k+1) (zeros ((exx D x m T).zA.length-(k+1))) []=zeros ((exx D x m T).zA.length-(k+1)):=rfl;have hs:sig (suf (exx D x m T) (k+1)) (lvl (exx D x m T) k) (zeros ((exx D x m T).zA.length-(k+1)))=zeros ((exx D x m T).zA.length-(k+1)):=by unfold sig;rw[sT,yM]
 rw[hz,hs,zHR h hE hT hk hc (by omega) _ _ w4,w3]at v2;have e1:adK m.Prime D (x.zA.length-(k+1)) (sig (suf (exx D x m T) (k+1)) (lvl (exx D x m T) k) ((x.zU.getD k []).drop (k+1)++zeros D)) (wC m.Prime D (T.getD k []) (wM m.Prime D m.zQ [k] (idM D)))=sig (suf (exx D x m T) (k+1)) (lvl (exx D x m T) k) (lvl (exx D x m T) k).w:=by rw[zJW h hE hT hk hk,w2,zHM h hE hT hk hwz htk]
 have e2:adK m.Prime D (x.zA.length-(k+1)) ((x.zU.getD k []).drop (k+1)++zeros D) (wC m.Prime D (T.getD k []) (wM m.Prime D m.zQ [] (idM D)))=(lvl (exx D x m T) k).w:=by rw[show wM m.Prime D m.zQ [] (idM D)=idM D from rfl,jD htk,w2]
 have:=zGw h hE hT hk hc k1 k2 (r1:=k) (r2:=k) (s1:=[k]) (s2:=[]) (zAz h hE hT hk hwz) hwz v1 v2 (by rw[e1,e2,zDT h hE hT hk hwV,zHD h hE hT hk,Jn (by have:=wY h (by omega) w1;exact this)];exact hL.c3)
 rw[e1,e2]at this;exact this
end
end Go.Pl

namespace Go.Pl
open Go Go.Ab Go.Wk Go.Pc
theorem zV4:∀(a o:Nat)(b:Int)(c:Vec),nw o (zeros a++b::c)=J1 b.toNat (o+a)++nw (o+a+1) c
 |0,o,b,c=>rfl
 |a+1,o,b,c=>by rw[show zeros (a+1)++b::c=0::(zeros a++b::c)from rfl];simp only[nw,Hs,He,Ji];rw[zV4 a (o+1) b c,show o+1+a=o+(a+1)from by omega]
theorem zJX{os v:List Int}{j k:Nat}(hv:Exp os v j)(hk:k≤j):Exp os v k:=⟨hv.1,fun i hi=>hv.2 i (by omega)⟩
section
variable {x:SPr} (h:Pres x)
 include h
theorem zV5:∀(a k:Nat){b:Int}{c:Vec},k+a<x.zA.length→0≤b→b<at0 x.zA (k+a)→V (suf x (k+a+1)) c→V (suf x k) (zeros a++b::c)
 |0,k,b,c,ha,h0,h1,hc=>by rw[yE (x:=x) (by omega)];exact⟨⟨h0,h1⟩,hc⟩
 |a+1,k,b,c,ha,h0,h1,hc=>by
  have:=(h.os.2 k (by omega)).pos;rw[yE (x:=x) (by omega)];refine⟨⟨Int.le_refl 0,?_⟩,?_⟩
  ·show(0:Int)<at0 x.zA k
   omega
  ·exact zV5 a (k+1) (by omega) h0 (by rwa [show k+1+a=k+(a+1)from by omega]) (by rwa [show k+1+a+1=k+(a+1)+1 from by omega])
end
section
variable {D:Nat}{x:SPr}{m:zG}{T:Mx} (h:Pres x) (hE:ExB x.zA.length D x m T) (hT:∀i,i<T.length→Row m.Prime D (T.getD i []))
 include h hE hT
variable {k:Nat} (hk:k<x.zA.length) (hc:wQ (suf (exx D x m T) (k+1)))
 include hk hc
theorem zNn{j:Nat}(h1:k+1≤j)(h2:j<x.zA.length){b:Int}(h0:0≤b)(hb:b<at0 x.zA j){c:Vec}(hcv:V (suf x (j+1)) c):V (suf x (k+1)) (zeros (j-(k+1))++b::c)∧nw (k+1) (zeros (j-(k+1))++b::c)=J1 b.toNat j++nw (j+1) c∧
  fo (exx D x m T) (k+1) (zeros ((exx D x m T).zA.length-(k+1))) (J1 b.toNat j++nw (j+1) c)=(zeros (j-(k+1))++b::c)++zeros D:=by
 have e:k+1+(j-(k+1))=j:=by omega
 have hv:V (suf x (k+1)) (zeros (j-(k+1))++b::c):=zV5 h (j-(k+1)) (k+1) (by omega) h0 (by rwa [e]) (by rwa [e]);have hn:nw (k+1) (zeros (j-(k+1))++b::c)=J1 b.toNat j++nw (j+1) c:=by rw[zV4,e]
 refine⟨hv,hn,?_⟩;rw[←hn];exact zHQ h hE hT _ (k+1) (by omega:k+1+(x.zA.length-(k+1))=x.zA.length) hc _ hv
theorem zOH{e:Vec}(he:V (suf (exx D x m T) (k+1)) e):mul (suf (exx D x m T) (k+1)) (zeros ((exx D x m T).zA.length-(k+1))) e=e:=by
 have G:=(zCv _ (vZ h hE hT (k:=k+1) (by omega)) hc).toMon;have:=G.onel he
 rwa [yM]at this
theorem zOI{j:Nat}(h1:k+1≤j)(h2:j<x.zA.length):fo (exx D x m T) (k+1) (zeros ((exx D x m T).zA.length-(k+1))) [j]=xJ ((exx D x m T).zA.length-(k+1)) (j-(k+1))∧sig (suf (exx D x m T) (k+1)) (lvl (exx D x m T) k) (xJ ((exx D x m T).zA.length-(k+1)) (j-(k+1)))=(lvl (exx D x m T) k).cs.getD (j-(k+1)) []:=by
 have ho:=(h.os.2 j h2).pos;have hz:V (suf x (j+1)) (zeros (x.zA.length-(j+1))):=by have:=wP (h.okAt (k:=j+1) (by omega));rwa [yM]at this
 obtain⟨v1,v2,v3⟩:=zNn h hE hT hk hc h1 h2 (b:=1) (by omega) (by omega) hz;have hn:nw (j+1) (zeros (x.zA.length-(j+1)))=[]:=zCA _ _;rw[hn]at v2 v3;have hf:fo (exx D x m T) (k+1) (zeros ((exx D x m T).zA.length-(k+1))) [j]=xJ ((exx D x m T).zA.length-(k+1)) (j-(k+1)):=zOH h hE hT hk hc (zCC h hE hT h1 h2);refine⟨hf,?_⟩;rw[←hf];have v3':fo (exx D x m T) (k+1) (zeros ((exx D x m T).zA.length-(k+1))) [j]=_:=v3;rw[v3',zEM h hE hT hk v1,v2];exact zOH h hE hT hk hc (zLJ h hE hT hk h1 h2)
theorem zV6(hL:LC x k){j:Nat}(h1:k+1≤j)(h2:j<x.zA.length){t1 t2:List (Nat×List Nat)}{y1 y2:Vec}(k1:qD x k (nw 0 (x.zU.getD j [])++[k]) t1 y1)(k2:qD x k (J1 (yH x j-1) j++k::nw 0 (lcj x k j)) t2 y2):
  tv m.Prime D m T ((j,[k])::t1)=tv m.Prime D m T ((base x.zA.length k+(j-(k+1)),[])::t2)↔c1E (exx D x m T) k j:=by
 have hp:=hE.m.p.pos;have ho:=(h.os.2 k hk).pos;have hj:=(h.os.2 j h2).pos;have hpe:=zJX (qO h h2) (show k≤j by omega);have hwx:V (suf x (k+1)) ((x.zU.getD j []).drop (k+1)):=jI hpe hk;have hnp:=tP h hpe hk;have htj:=zBJ h hE hT h2;have hwz:=zDn h hE hT (k:=k+1) (by omega) hwx (xL (p:=m.Prime) (D:=D) (by omega));obtain⟨c1,c2,c3,c4⟩:=csE h hE hT hk hc h1 h2;have hcz:=zDn h hE hT (k:=k+1) (by omega) c1 (xL (p:=m.Prime) (D:=D) (by omega));have hcV:=zLJ h hE hT hk h1 h2;have htk:=zD0 h hE hT (show k<j by omega) h2;have hz0:V (suf x (j+1)) (zeros (x.zA.length-(j+1))):=by have:=wP (h.okAt (k:=j+1) (by omega));rwa [yM]at this
 obtain⟨u1,u2,u3⟩:=zNn h hE hT hk hc h1 h2 (b:=at0 x.zA j-1) (by omega) (by omega) hz0;rw[zCA,J9,show(at0 x.zA j-1).toNat=yH x j-1 from by show _=(at0 x.zA j).toNat-1;omega]at u2 u3;have hok:=vZ h hE hT (k:=k+1) (by omega);have G:=(zCv _ hok hc).toMon;have v1:=zDW h hE hT hk hc hnp.2 (z:=[]);rw[hnp.1,zHQ h hE hT _ (k+1) (by omega:k+1+(x.zA.length-(k+1))=x.zA.length) hc _ hwx,←hnp.1]at v1;have hr:∀a∈J1 (yH x j-1) j,k+1≤a∧a<x.zA.length:=fun a ha=>by have:=Js ha;omega
 have v2:=zDW h hE hT hk hc hr (z:=nw 0 (lcj x k j));have hpw:∀q(e:Vec),(J1 q j).foldl (fun acc j=>mul (suf (exx D x m T) (k+1)) acc ((lvl (exx D x m T) k).cs.getD (j-(k+1)) [])) e=iter q (fun v=>mul (suf (exx D x m T) (k+1)) v ((lvl (exx D x m T) k).cs.getD (j-(k+1)) [])) e:=by
  intro q
  induction q with
  |zero=>intro e;rfl
  |succ q ih=>intro e;rw[Jo,Gw,ih];rfl
 have hpq:sig (suf (exx D x m T) (k+1)) (lvl (exx D x m T) k) (fo (exx D x m T) (k+1) (zeros ((exx D x m T).zA.length-(k+1))) (J1 (yH x j-1) j))=pw (mul (suf (exx D x m T) (k+1))) (zeros (suf (exx D x m T) (k+1)).length) ((lvl (exx D x m T) k).cs.getD (j-(k+1)) []) (yH x j-1):=by rw[u3,zEM h hE hT hk u1,u2,hpw,yM];rfl
 have hpV:V (suf (exx D x m T) (k+1)) (pw (mul (suf (exx D x m T) (k+1))) (zeros (suf (exx D x m T) (k+1)).length) ((lvl (exx D x m T) k).cs.getD (j-(k+1)) []) (yH x j-1)):=tL G hcV _;rw[hpq,zHR h hE hT hk hc (by omega) _ _ c4,zHS h hE hT hk hc c4 hpV,c3]at v2;have e1:adK m.Prime D (x.zA.length-(k+1)) (sig (suf (exx D x m T) (k+1)) (lvl (exx D x m T) k) ((x.zU.getD j []).drop (k+1)++zeros D)) (wC m.Prime D (T.getD j []) (wM m.Prime D m.zQ [k] (idM D)))=sig (suf (exx D x m T) (k+1)) (lvl (exx D x m T) k) (((exx D x m T).zU.getD j []).drop (k+1)):=by rw[zJW h hE hT hk hk,zDR h hE hT (by omega) h2,←zHM h hE hT hk hwz htj,jU h hE hT (by omega) hwx,vS htj]
 have e2:adK m.Prime D (x.zA.length-(k+1)) (mul (suf (exx D x m T) (k+1)) (pw (mul (suf (exx D x m T) (k+1))) (zeros (suf (exx D x m T) (k+1)).length) ((lvl (exx D x m T) k).cs.getD (j-(k+1)) []) (yH x j-1)) ((lcj x k j).drop (k+1)++zeros D)) (wC m.Prime D (T.getD (base x.zA.length k+(j-(k+1))) []) (wM m.Prime D m.zQ [] (idM D)))=pw (mul (suf (exx D x m T) (k+1))) (zeros (suf (exx D x m T) (k+1)).length) ((lvl (exx D x m T) k).cs.getD (j-(k+1)) []) (at0 (exx D x m T).zA j).toNat:=by
  rw[show wM m.Prime D m.zQ [] (idM D)=idM D from rfl,jD htk,←zLG h hE hT hk hc hcz htk hpV,←c2,uY h hE hT h2,show(at0 x.zA j).toNat=(yH x j-1)+1 from by show _=(at0 x.zA j).toNat-1+1;omega]
  conv=>rhs;rw[pw,wW]
  rfl
 have hpow:V (suf (exx D x m T) (k+1)) (((exx D x m T).zU.getD j []).drop (k+1)):=by rw[zDR h hE hT (by omega) h2];exact zDn h hE hT (by omega) hwx htj
 have:=zGw h hE hT hk hc k1 k2 (r1:=j) (r2:=base x.zA.length k+(j-(k+1))) (s1:=[k]) (s2:=[]) (zAz h hE hT hk hwz) (xE hok hpV hcz) v1 v2 (by rw[e1,e2,zDT h hE hT hk hpow,zHL h hE hT hk (by omega) h2,zVy h hE hT (by omega) hcV,zIV h hE hT hk h1 h2,uY h hE hT h2];exact(hL.c1 j h1 h2).symm)
 rw[e1,e2]at this;rw[this];exact eq_comm
theorem zV7(hL:LC x k){i j:Nat}(h1:k+1≤i)(hij:i<j)(h2:j<x.zA.length){t1 t2:List (Nat×List Nat)}{y1 y2:Vec}(k1:qD x k (i::(nw 0 (lcj x i j)++[k])) t1 y1)(k2:qD x k (j::k::nw 0 (lcj x k i)) t2 y2):
  tv m.Prime D m T ((base x.zA.length i+(j-(i+1)),[k])::t1)=tv m.Prime D m T ((base x.zA.length k+(i-(k+1)),[])::t2)↔c2E (exx D x m T) k i j:=by
 have hp:=hE.m.p.pos;have ho:=(h.os.2 k hk).pos;have hi:=(h.os.2 i (by omega)).pos;have hij':=vU h hij h2;have hce:=zJX hij' (show k≤i by omega);have hcx:V (suf x (k+1)) ((lcj x i j).drop (k+1)):=jI hce hk;have hci:V (suf x (i+1)) ((lcj x i j).drop (i+1)):=jI hij' (by omega);have hn:=tP h hce hk;have hni:=tP h hij' (by omega);have htij:=zD0 h hE hT hij h2;have hxz:=zDn h hE hT (k:=k+1) (by omega) hcx (xL (p:=m.Prime) (D:=D) (by omega));obtain⟨c1,c2,c3,c4⟩:=csE h hE hT hk hc h1 (show i<x.zA.length by omega);have hcz:=zDn h hE hT (k:=k+1) (by omega) c1 (xL (p:=m.Prime) (D:=D) (by omega));have hciV:=zLJ h hE hT hk h1 (show i<x.zA.length by omega);have hcjV:=zLJ h hE hT hk (show k+1≤j by omega) h2;have htk:=zD0 h hE hT (show k<i by omega) (show i<x.zA.length by omega);have hok:=vZ h hE hT (k:=k+1) (by omega);obtain⟨u1,u2,u3⟩:=zNn h hE hT hk hc h1 (show i<x.zA.length by omega) (b:=1) (by omega) (by omega) hci;rw[←hni.1,show J1 (1:Int).toNat i++nw 0 (lcj x i j)=i::nw 0 (lcj x i j)from rfl]at u2 u3;have hr:∀a∈i::nw 0 (lcj x i j),k+1≤a∧a<x.zA.length:=fun a ha=>by
  simp only[Jd]at ha;rcases ha with rfl|ha
  ·omega
  ·exact hn.2 a ha
 have v1:=zDW h hE hT hk hc hr (z:=[]);have es:sig (suf (exx D x m T) (k+1)) (lvl (exx D x m T) k) (fo (exx D x m T) (k+1) (zeros ((exx D x m T).zA.length-(k+1))) (i::nw 0 (lcj x i j)))=mul (suf (exx D x m T) (k+1)) ((lvl (exx D x m T) k).cs.getD (i-(k+1)) []) (sig (suf (exx D x m T) (k+1)) (lvl (exx D x m T) k) ((lcj x i j).drop (k+1)++zeros D)):=by rw[u3,zEM h hE hT hk u1,u2,Gw,zOH h hE hT hk hc hciV,zEM h hE hT hk hcx,←hn.1];have:=zLK h hE hT hk hc hn.2 hciV (zNk h hE hT (k:=k+1) (by omega));rw[zWX h hE hT (by omega) hciV]at this;exact this
 rw[es]at v1;have v2:=zDW h hE hT hk hc (v:=[j]) (fun a ha=>by simp only[List.mem_singleton]at ha;omega) (z:=nw 0 (lcj x k i));obtain⟨g1,g2⟩:=zOI h hE hT hk hc (show k+1≤j by omega) h2;rw[g1,g2,zHR h hE hT hk hc (by omega) _ _ c4,zHS h hE hT hk hc c4 hcjV,c3]at v2;have hsV:=zAz h hE hT hk hxz;have hcon:((((exx D x m T).zF.getD i []).getD (j-(i+1)) []).drop (k+1))=adK m.Prime D (x.zA.length-(k+1)) ((lcj x i j).drop (k+1)++zeros D) (T.getD (base x.zA.length i+(j-(i+1))) []):=by rw[zF6 h hE hT (by omega) hij h2,jU h hE hT (by omega) hcx,vS htij]
 have e1:adK m.Prime D (x.zA.length-(k+1)) (mul (suf (exx D x m T) (k+1)) ((lvl (exx D x m T) k).cs.getD (i-(k+1)) []) (sig (suf (exx D x m T) (k+1)) (lvl (exx D x m T) k) ((lcj x i j).drop (k+1)++zeros D))) (wC m.Prime D (T.getD (base x.zA.length i+(j-(i+1))) []) (wM m.Prime D m.zQ [k] (idM D)))=mul (suf (exx D x m T) (k+1)) ((lvl (exx D x m T) k).cs.getD (i-(k+1)) []) (sig (suf (exx D x m T) (k+1)) (lvl (exx D x m T) k) ((((exx D x m T).zF.getD i []).getD (j-(i+1)) []).drop (k+1))):=by rw[zJW h hE hT hk hk,←zLG h hE hT hk hc hsV (wX (by omega)) hciV,←zHM h hE hT hk hxz htij,←hcon]
 have e2:adK m.Prime D (x.zA.length-(k+1)) (mul (suf (exx D x m T) (k+1)) ((lvl (exx D x m T) k).cs.getD (j-(k+1)) []) ((lcj x k i).drop (k+1)++zeros D)) (wC m.Prime D (T.getD (base x.zA.length k+(i-(k+1))) []) (wM m.Prime D m.zQ [] (idM D)))=mul (suf (exx D x m T) (k+1)) ((lvl (exx D x m T) k).cs.getD (j-(k+1)) []) ((lvl (exx D x m T) k).cs.getD (i-(k+1)) []):=by rw[show wM m.Prime D m.zQ [] (idM D)=idM D from rfl,jD htk,←zLG h hE hT hk hc hcz htk hcjV,←c2]
 have hcnV:V (suf (exx D x m T) (k+1)) ((((exx D x m T).zF.getD i []).getD (j-(i+1)) []).drop (k+1)):=by rw[hcon];exact zWY h hE hT (by omega) hxz
 have:=zGw h hE hT hk hc k1 k2 (r1:=base x.zA.length i+(j-(i+1))) (r2:=base x.zA.length k+(i-(k+1))) (s1:=[k]) (s2:=[]) (xE hok hciV hsV) (xE hok hcjV hcz) v1 v2 (by rw[e1,e2,zBL h hE hT (by omega) hciV (zAz h hE hT hk hcnV),zBL h hE hT (by omega) hcjV hciV,zDT h hE hT hk hcnV,zIV h hE hT hk h1 (by omega),zIV h hE hT hk (by omega) h2,zRN h hE hT hk h1 hij h2];exact(hL.c2 i h1 (by omega) j (by omega) h2).symm)
 rw[e1,e2]at this;rw[this];exact eq_comm
end
end Go.Pl

namespace Go.Pl
open Go Go.Ab Go.Wk Go.Pc
section
variable {D:Nat}{x:SPr}{m:zG}{T:Mx} (h:Pres x) (hE:ExB x.zA.length D x m T) (hT:∀i,i<T.length→Row m.Prime D (T.getD i []))
 include h hE hT
variable {k:Nat} (hk:k<x.zA.length) (hc:wQ (suf (exx D x m T) (k+1)))
 include hk hc
 omit hc in
theorem zNo:∀(q:Nat){e:Vec},V (suf (exx D x m T) (k+1)) e→V (suf (exx D x m T) (k+1)) (iter q (sig (suf (exx D x m T) (k+1)) (lvl (exx D x m T) k)) e)
  |0,_,he=>he
  |q+1,_,he=>zNo q (zAz h hE hT hk he)
 omit hc in
theorem zV8:∀(q:Nat){e d:Vec},V (suf (exx D x m T) (k+1)) e→Row m.Prime D d→iter q (sig (suf (exx D x m T) (k+1)) (lvl (exx D x m T) k)) (adK m.Prime D (x.zA.length-(k+1)) e d)=adK m.Prime D (x.zA.length-(k+1)) (iter q (sig (suf (exx D x m T) (k+1)) (lvl (exx D x m T) k)) e) (wC m.Prime D d (wM m.Prime D m.zQ (J1 q k) (idM D)))
  |0,e,d,_,hd=>by show adK _ _ _ e d=adK _ _ _ e (wC m.Prime D d (idM D));rw[jD hd]
  |q+1,e,d,he,hd=>by have hp:=hE.m.p.pos;show iter q _ (sig _ _ (adK _ _ _ e d))=adK _ _ _ (iter q _ (sig _ _ e)) _;rw[zHM h hE hT hk he hd,zV8 q (zAz h hE hT hk he) (wX (by omega)),Jo,show k::J1 q k=[k]++J1 q k from rfl,zEL (by omega),zJW h hE hT hk hk]
theorem zRZ:∀(q:Nat){c:Int}{e:Vec},0≤c→c+(q:Int)<at0 x.zA k→V (suf (exx D x m T) (k+1)) e→fo (exx D x m T) k (c::e) (J1 q k)=(c+(q:Int))::iter q (sig (suf (exx D x m T) (k+1)) (lvl (exx D x m T) k)) e
 |0,c,e,_,_,_=>by
  show c::e=(c+((0:Nat):Int))::e
  congr 1;omega
 |q+1,c,e,h0,h1,he=>by
  rw[Jo,sY,zFX h hE hT hk hc he,if_neg (by omega),zRZ q (by omega) (by omega) (zAz h hE hT hk he)];show(c+1+(q:Int))::iter q _ (sig _ _ e)=(c+((q+1:Nat):Int))::iter q _ (sig _ _ e)
  congr 1;omega
theorem zV9(hL:LC x k){j:Nat}(h1:k+1≤j)(h2:j<x.zA.length){t1 t2:List (Nat×List Nat)}{y1 y2:Vec}(k1:qD x k (k::(nw 0 (lcj x k j)++J1 (yH x k-1) k)) t1 y1)(k2:qD x k (j::nw 0 (x.zU.getD k [])) t2 y2):
  tv m.Prime D m T ((base x.zA.length k+(j-(k+1)),J1 (yH x k-1) k)::t1)=tv m.Prime D m T ((k,[])::t2)↔c4E (exx D x m T) k j:=by
 have hp:=hE.m.p.pos;have ho:=(h.os.2 k hk).pos;have hon:(yH x k:Int)=at0 x.zA k:=by show(((at0 x.zA k).toNat:Nat):Int)=_;omega
 obtain⟨w1,w2,w3,w4⟩:=wE h hE hT hk hc;have hwz:=zDn h hE hT (k:=k+1) (by omega) w1 (xL (p:=m.Prime) (D:=D) (by omega));have hwV:=zP8 h hE hT hk;have htk:=zBJ h hE hT hk;obtain⟨c1,c2,c3,c4⟩:=csE h hE hT hk hc h1 h2;have hcz:=zDn h hE hT (k:=k+1) (by omega) c1 (xL (p:=m.Prime) (D:=D) (by omega));have htj:=zD0 h hE hT (show k<j by omega) h2;have hok:=vZ h hE hT (k:=k+1) (by omega);have hg:=zCC h hE hT h1 h2;obtain⟨g1,g2⟩:=zOI h hE hT hk hc h1 h2;have hz:fo (exx D x m T) (k+1) (zeros ((exx D x m T).zA.length-(k+1))) []=zeros ((exx D x m T).zA.length-(k+1)):=rfl;have hs:sig (suf (exx D x m T) (k+1)) (lvl (exx D x m T) k) (zeros ((exx D x m T).zA.length-(k+1)))=zeros ((exx D x m T).zA.length-(k+1)):=by unfold sig;rw[sT,yM]
 have hl:=wJ h hE hT;have v1:=zDW h hE hT hk hc (v:=[]) (fun a ha=>by simp at ha) (z:=nw 0 (lcj x k j)++J1 (yH x k-1) k);rw[hz,hs]at v1;have v0:=v1.trans (zCB (e:=exx D x m T) (k:=k) (u:=(1:Int)::zeros ((exx D x m T).zA.length-(k+1))) (v:=nw 0 (lcj x k j)) (w:=J1 (yH x k-1) k));rw[zHR h hE hT hk hc (by omega) _ _ c4,c3]at v0;have hit:=zNo h hE hT hk (yH x k-2) hcz;have v1':fo (exx D x m T) k (zeros ((exx D x m T).zA.length-k)) (k::(nw 0 (lcj x k j)++J1 (yH x k-1) k))=0::mul (suf (exx D x m T) (k+1)) (lvl (exx D x m T) k).w (iter (yH x k-1) (sig (suf (exx D x m T) (k+1)) (lvl (exx D x m T) k)) ((lcj x k j).drop (k+1)++zeros D)):=by
  refine v0.trans ?_;rw[show yH x k-1=(yH x k-2)+1 from by omega,H4,zCB,zRZ h hE hT hk hc (yH x k-2) (by omega) (by omega) hcz];show mul _ _ _=_;rw[zFX h hE hT hk hc hit,if_pos (by omega),wW]
  congr 1;omega
 have hr:∀a∈j::nw 0 (x.zU.getD k []),k+1≤a∧a<x.zA.length:=fun a ha=>by
  simp only[Jd]at ha;rcases ha with rfl|ha
  ·omega
  ·exact w4 a ha
 have v2:fo (exx D x m T) k (zeros ((exx D x m T).zA.length-k)) (j::nw 0 (x.zU.getD k []))=0::mul (suf (exx D x m T) (k+1)) (xJ ((exx D x m T).zA.length-(k+1)) (j-(k+1))) ((x.zU.getD k []).drop (k+1)++zeros D):=by rw[show zeros ((exx D x m T).zA.length-k)=0::zeros ((exx D x m T).zA.length-(k+1))from by rw[show(exx D x m T).zA.length-k=(exx D x m T).zA.length-(k+1)+1 from by omega];rfl,zHR h hE hT hk hc (by omega) _ _ hr,sY,zOH h hE hT hk hc hg,zHS h hE hT hk hc w4 hg,w3]
 have e1:adK m.Prime D (x.zA.length-(k+1)) (mul (suf (exx D x m T) (k+1)) (lvl (exx D x m T) k).w (iter (yH x k-1) (sig (suf (exx D x m T) (k+1)) (lvl (exx D x m T) k)) ((lcj x k j).drop (k+1)++zeros D))) (wC m.Prime D (T.getD (base x.zA.length k+(j-(k+1))) []) (wM m.Prime D m.zQ (J1 (yH x k-1) k) (idM D)))=mul (suf (exx D x m T) (k+1)) (lvl (exx D x m T) k).w (iter (lvl (exx D x m T) k).o.toNat (sig (suf (exx D x m T) (k+1)) (lvl (exx D x m T) k)) (xJ ((exx D x m T).zA.length-(k+1)) (j-(k+1)))):=by rw[←zLG h hE hT hk hc (zNo h hE hT hk _ hcz) (wX (by omega)) hwV,←zV8 h hE hT hk _ hcz htj,←c2,←g2,zBt h hE hT hk,show(at0 x.zA k).toNat=(yH x k-1)+1 from by show _=(at0 x.zA k).toNat-1+1;omega];rfl
 have e2:adK m.Prime D (x.zA.length-(k+1)) (mul (suf (exx D x m T) (k+1)) (xJ ((exx D x m T).zA.length-(k+1)) (j-(k+1))) ((x.zU.getD k []).drop (k+1)++zeros D)) (wC m.Prime D (T.getD k []) (wM m.Prime D m.zQ [] (idM D)))=mul (suf (exx D x m T) (k+1)) (xJ ((exx D x m T).zA.length-(k+1)) (j-(k+1))) (lvl (exx D x m T) k).w:=by rw[show wM m.Prime D m.zQ [] (idM D)=idM D from rfl,jD htk,←zLG h hE hT hk hc hwz htk hg,←w2]
 have htw:(lvl (exx D x m T) k).w.take (x.zA.length-(k+1))=(lvl x k).w:=zHL h hE hT hk (Jp k) hk;have hul:(xJ (x.zA.length-(k+1)) (j-(k+1))).length=x.zA.length-(k+1):=by simp[xJ,zeros]
 have:=zGw h hE hT hk hc k1 k2 (r1:=base x.zA.length k+(j-(k+1))) (r2:=k) (s1:=J1 (yH x k-1) k) (s2:=[]) (xE hok hwV (zNo h hE hT hk _ hcz)) (xE hok hg hwz) v1' v2 (by rw[e1,e2,zBL h hE hT (by omega) hwV (zNo h hE hT hk _ hg),zBL h hE hT (by omega) hg hwV,zJP h hE hT hk _ hg,htw,zRO h hE hT hk h1 h2,Jn hul,zBt h hE hT hk];exact hL.c4 j h1 h2)
 rw[e1,e2]at this;exact this
end
structure zJY (x:SPr) (k:Nat) (r1:Nat) (s1 w1:List Nat) (r2:Nat) (s2 w2:List Nat) (t1 t2:List (Nat×List Nat)):Prop where
 a:∃u1 y1,t1=(r1,s1)::u1∧qD x k w1 u1 y1
 b:∃u2 y2,t2=(r2,s2)::u2∧qD x k w2 u2 y2
structure zVA (x:SPr) (D:Nat) (m:zG) (T:Mx):Prop where
 p1:∀k j,k<j→j<x.zA.length→ ∀t1 t2,zJY x k j [k] (nw 0 (x.zU.getD j [])++[k]) (base x.zA.length k+(j-(k+1))) [] (J1 (yH x j-1) j++k::nw 0 (lcj x k j)) t1 t2→tv m.Prime D m T t1=tv m.Prime D m T t2
 p2:∀k i j,k<i→i<j→j<x.zA.length→ ∀t1 t2,zJY x k (base x.zA.length i+(j-(i+1))) [k] (i::(nw 0 (lcj x i j)++[k])) (base x.zA.length k+(i-(k+1))) [] (j::k::nw 0 (lcj x k i)) t1 t2→tv m.Prime D m T t1=tv m.Prime D m T t2
 p3:∀k,k<x.zA.length→ ∀t1 t2,zJY x k k [k] (nw 0 (x.zU.getD k [])++[k]) k [] (k::nw 0 (x.zU.getD k [])) t1 t2→tv m.Prime D m T t1=tv m.Prime D m T t2
 p4:∀k j,k<j→j<x.zA.length→ ∀t1 t2,zJY x k (base x.zA.length k+(j-(k+1))) (J1 (yH x k-1) k) (k::(nw 0 (lcj x k j)++J1 (yH x k-1) k)) k [] (j::nw 0 (x.zU.getD k [])) t1 t2→tv m.Prime D m T t1=tv m.Prime D m T t2
end Go.Pl

namespace Go.Pl
open Go Go.Ab Go.Wk Go.Pc
section
variable {D:Nat}{x:SPr}{m:zG}{T:Mx} (h:Pres x) (hE:ExB x.zA.length D x m T) (hT:∀i,i<T.length→Row m.Prime D (T.getD i []))
 include h hE hT
theorem zIW{k:Nat}(hk:k<x.zA.length)(hL:LC x k)(hc:wQ (suf (exx D x m T) (k+1))):LCn x (exx D x m T) k↔
  (∀j,k<j→j<x.zA.length→ ∀t1 t2,zJY x k j [k] (nw 0 (x.zU.getD j [])++[k]) (base x.zA.length k+(j-(k+1))) [] (J1 (yH x j-1) j++k::nw 0 (lcj x k j)) t1 t2→tv m.Prime D m T t1=tv m.Prime D m T t2)∧
  (∀i j,k<i→i<j→j<x.zA.length→ ∀t1 t2,zJY x k (base x.zA.length i+(j-(i+1))) [k] (i::(nw 0 (lcj x i j)++[k])) (base x.zA.length k+(i-(k+1))) [] (j::k::nw 0 (lcj x k i)) t1 t2→tv m.Prime D m T t1=tv m.Prime D m T t2)∧
  (∀t1 t2,zJY x k k [k] (nw 0 (x.zU.getD k [])++[k]) k [] (k::nw 0 (x.zU.getD k [])) t1 t2→tv m.Prime D m T t1=tv m.Prime D m T t2)∧
  (∀j,k<j→j<x.zA.length→ ∀t1 t2,zJY x k (base x.zA.length k+(j-(k+1))) (J1 (yH x k-1) k) (k::(nw 0 (lcj x k j)++J1 (yH x k-1) k)) k [] (j::nw 0 (x.zU.getD k [])) t1 t2→tv m.Prime D m T t1=tv m.Prime D m T t2):=by
 have hC:=fun(w:List Nat)(hw:∀a∈w,k≤a∧a<x.zA.length)=>zUp h (x.zA.length-k) k (by omega) w hw
 have hcon:∀i j,i<j→j<x.zA.length→ ∀a∈nw 0 (lcj x i j),i+1≤a∧a<x.zA.length:=fun i j hi hj=>(tP h (vU h hi hj) (by omega)).2
 have hpow:∀i,i<x.zA.length→ ∀a∈nw 0 (x.zU.getD i []),i+1≤a∧a<x.zA.length:=fun i hi=>(tP h (qO h hi) hi).2
 constructor
 ·intro g
  refine⟨?_,?_,?_,?_⟩
  ·rintro j h1 h2 t1 t2 ⟨⟨u1,y1,rfl,k1⟩,⟨u2,y2,rfl,k2⟩⟩
   exact(zV6 h hE hT hk hc hL (by omega) h2 k1 k2).2 (g.c1 j (by omega) h2)
  ·rintro i j h1 hij h2 t1 t2 ⟨⟨u1,y1,rfl,k1⟩,⟨u2,y2,rfl,k2⟩⟩
   exact(zV7 h hE hT hk hc hL (by omega) hij h2 k1 k2).2 (g.c2 i (by omega) (by omega) j (by omega) h2)
  ·rintro t1 t2 ⟨⟨u1,y1,rfl,k1⟩,⟨u2,y2,rfl,k2⟩⟩
   exact(zV3 h hE hT hk hc hL k1 k2).2 g.c3
  ·rintro j h1 h2 t1 t2 ⟨⟨u1,y1,rfl,k1⟩,⟨u2,y2,rfl,k2⟩⟩
   exact(zV9 h hE hT hk hc hL (by omega) h2 k1 k2).2 (g.c4 j (by omega) h2)
 ·rintro⟨g1,g2,g3,g4⟩
  refine⟨fun j h1 h2=>?_,fun i h1 hi j hij h2=>?_,?_,fun j h1 h2=>?_⟩
  ·obtain⟨u1,y1,k1⟩:=hC (nw 0 (x.zU.getD j [])++[k]) (fun a ha=>by
    simp only[Jj,List.mem_singleton]at ha;rcases ha with ha|rfl
    ·have:=hpow j h2 a ha;omega
    ·omega)
   obtain⟨u2,y2,k2⟩:=hC (J1 (yH x j-1) j++k::nw 0 (lcj x k j)) (fun a ha=>by
    simp only[Jj,Jd]at ha;rcases ha with ha|rfl|ha
    ·have:=Js ha;omega
    ·omega
    ·have:=hcon k j (by omega) h2 a ha;omega)
   exact(zV6 h hE hT hk hc hL h1 h2 k1 k2).1 (g1 j (by omega) h2 _ _ ⟨⟨u1,y1,rfl,k1⟩,⟨u2,y2,rfl,k2⟩⟩)
  ·obtain⟨u1,y1,k1⟩:=hC (i::(nw 0 (lcj x i j)++[k])) (fun a ha=>by
    simp only[Jj,Jd,Jb2,or_false]at ha;rcases ha with rfl|ha|rfl
    ·omega
    ·have:=hcon i j (by omega) h2 a ha;omega
    ·omega)
   obtain⟨u2,y2,k2⟩:=hC (j::k::nw 0 (lcj x k i)) (fun a ha=>by
    simp only[Jd]at ha;rcases ha with rfl|rfl|ha
    ·omega
    ·omega
    ·have:=hcon k i (by omega) hi a ha;omega)
   exact(zV7 h hE hT hk hc hL h1 (by omega) h2 k1 k2).1 (g2 i j (by omega) (by omega) h2 _ _ ⟨⟨u1,y1,rfl,k1⟩,⟨u2,y2,rfl,k2⟩⟩)
  ·obtain⟨u1,y1,k1⟩:=hC (nw 0 (x.zU.getD k [])++[k]) (fun a ha=>by
    simp only[Jj,List.mem_singleton]at ha;rcases ha with ha|rfl
    ·have:=hpow k hk a ha;omega
    ·omega)
   obtain⟨u2,y2,k2⟩:=hC (k::nw 0 (x.zU.getD k [])) (fun a ha=>by
    simp only[Jd]at ha;rcases ha with rfl|ha
    ·omega
    ·have:=hpow k hk a ha;omega)
   exact(zV3 h hE hT hk hc hL k1 k2).1 (g3 _ _ ⟨⟨u1,y1,rfl,k1⟩,⟨u2,y2,rfl,k2⟩⟩)
  ·obtain⟨u1,y1,k1⟩:=hC (k::(nw 0 (lcj x k j)++J1 (yH x k-1) k)) (fun a ha=>by
    simp only[Jj,Jd]at ha;rcases ha with rfl|ha|ha
    ·omega
    ·have:=hcon k j (by omega) h2 a ha;omega
    ·have:=Js ha;omega)
   obtain⟨u2,y2,k2⟩:=hC (j::nw 0 (x.zU.getD k [])) (fun a ha=>by
    simp only[Jd]at ha;rcases ha with rfl|ha
    ·omega
    ·have:=hpow k hk a ha;omega)
   exact(zV9 h hE hT hk hc hL h1 h2 k1 k2).1 (g4 j (by omega) h2 _ _ ⟨⟨u1,y1,rfl,k1⟩,⟨u2,y2,rfl,k2⟩⟩)
theorem zPA(hx:wQ (suf x 0))(hr:zF0 x m D):zVA x D m T↔wQ (suf (exx D x m T) 0):=by
 have hl:=wJ h hE hT;have hlc:∀k,k<x.zA.length→LC x k:=fun k hk=>((zAv h.w hk).1 (zBm hx k)).2
 constructor
 ·intro g
  have key:∀(d k:Nat),k+d=x.zA.length→wQ (suf (exx D x m T) k):=by
   intro d
   induction d with
   |zero=>intro k hk;exact zHJ h hE hT D k (by omega) (by omega)
   |succ d ih=>
    intro k hk;have hc:=ih (k+1) (by omega);refine(zAv (zGs h hE hT) (by omega)).2 ⟨hc,zRI h hE hT hr (by omega) ((zIW h hE hT (by omega) (hlc k (by omega)) hc).2 ⟨?_,?_,?_,?_⟩)⟩
    ·exact fun j h1 h2 t1 t2 b=>g.p1 k j h1 h2 t1 t2 b
    ·exact fun i j h1 hij h2 t1 t2 b=>g.p2 k i j h1 hij h2 t1 t2 b
    ·exact fun t1 t2 b=>g.p3 k (by omega) t1 t2 b
    ·exact fun j h1 h2 t1 t2 b=>g.p4 k j h1 h2 t1 t2 b
  exact key x.zA.length 0 (by omega)
 ·intro g
  have g0:=(zO9 h hE hT hr).1 g;have hck:∀k,k<x.zA.length→wQ (suf (exx D x m T) (k+1)):=fun k _=>zBm g (k+1)
  have key:=fun k(hk:k<x.zA.length)=>(zIW h hE hT hk (hlc k hk) (hck k hk)).1 (g0 k hk)
  exact⟨fun k j h1 h2=>(key k (by omega)).1 j h1 h2,fun k i j h1 hij h2=>(key k (by omega)).2.1 i j h1 hij h2,fun k hk=>(key k hk).2.2.1,fun k j h1 h2=>(key k (by omega)).2.2.2 j h1 h2⟩
end
theorem Col.det{x:SPr}{k k':Nat}{w:List Nat}{t1 t2:List (Nat×List Nat)}{w1 w2:List Nat}(h1:Col x k w t1 w1)(h2:Col x k' w t2 w2)(n1:stS x w1=none)(n2:stS x w2=none):t1=t2∧w1=w2:=by
 induction h1 generalizing t2 with
 |refl w=>
  cases h2 with
  |refl=>exact⟨rfl,rfl⟩
  |step _ hs _=>rw[n1]at hs;cases hs
 |step hw hs hc ih=>
  cases h2 with
  |refl=>rw[n2]at hs;cases hs
  |step _ hs2 hc2=>
   rw[hs]at hs2;cases hs2;obtain⟨rfl,rfl⟩:=ih hc2 n1;exact⟨rfl,rfl⟩
end Go.Pl

namespace Go.Pl
open Go Go.Ab Go.Wk Go.Pc
structure Fh (n D D2:Nat) (m m2:zG) (T T2:Mx) (φ:Vec→Vec):Prop where
 pr:m2.Prime=m.Prime
 row:∀u,Row m.Prime D u→Row m.Prime D2 (φ u)
 z:φ (zeros D)=zeros D2
 add:∀u v,Row m.Prime D u→Row m.Prime D v→φ (adv m.Prime D u v)=adv m.Prime D2 (φ u) (φ v)
 act:∀k,k<n→ ∀u,Row m.Prime D u→φ (wC m.Prime D u (m.zQ.getD k []))=wC m.Prime D2 (φ u) (m2.zQ.getD k [])
 t:∀r,r<base n n→φ (T.getD r [])=T2.getD r []
def Fm(φ:Vec→Vec)(N:Nat)(e:Vec):Vec:=e.take N++φ (e.drop N)
theorem zA0{φ:Vec→Vec}{N:Nat}{y u:Vec}(hy:y.length=N):Fm φ N (y++u)=y++φ u:=by rw[Fm,Jn hy,K3 hy]
theorem zGx{φ:Vec→Vec}{N:Nat}{b:Int}{e:Vec}:Fm φ (N+1) (b::e)=b::Fm φ N e:=by simp only[Fm,K9,List.drop_succ_cons,Jq]
section
variable {D D2:Nat}{x:SPr}{m m2:zG}{T T2:Mx}{φ:Vec→Vec} (h:Pres x) (hE:ExB x.zA.length D x m T) (hT:∀i,i<T.length→Row m.Prime D (T.getD i [])) (hE2:ExB x.zA.length D2 x m2 T2) (hT2:∀i,i<T2.length→Row m2.Prime D2 (T2.getD i [])) (hF:Fh x.zA.length D D2 m m2 T T2 φ)
 include h hE hT hE2 hT2 hF
theorem zYX{k:Nat}(hk:k≤x.zA.length):Fm φ (x.zA.length-k) (zeros (suf (exx D x m T) k).length)=zeros (suf (exx D2 x m2 T2) k).length:=by rw[zAQ h hE hT hk,zAQ h hE2 hT2 hk,zA0 (yA _),hF.z]
theorem zOJ{k j:Nat}(h1:k+1≤j)(h2:j<x.zA.length):Fm φ (x.zA.length-(k+1)) ((lvl (exx D x m T) k).cs.getD (j-(k+1)) [])=(lvl (exx D2 x m2 T2) k).cs.getD (j-(k+1)) []:=by have hn:=hE.hn;have hb:=zBF x.zA.length (by omega) k (by omega);have hcl:V (suf x (k+1)) ((lcj x k j).drop (k+1)):=jI (vU h (by omega) h2) (by omega);rw[zHH h hE hT (by omega) h1 h2,zHH h hE2 hT2 (by omega) h1 h2,show(lvl x k).cs.getD (j-(k+1)) []=(lcj x k j).drop (k+1)from map_drop,zA0 (wY h (by omega) hcl),hF.t _ (by omega)]
theorem zXa{k:Nat}(hk:k<x.zA.length):Fm φ (x.zA.length-(k+1)) (lvl (exx D x m T) k).w=(lvl (exx D2 x m2 T2) k).w:=by have hn:=hE.hn;have hb:=vO x.zA.length (by omega);have hwx:V (suf x (k+1)) ((x.zU.getD k []).drop (k+1)):=jI (qO h hk) hk;rw[zHD h hE hT hk,zHD h hE2 hT2 hk,show(lvl x k).w=(x.zU.getD k []).drop (k+1)from rfl,zA0 (wY h (by omega) hwx),hF.t _ (by omega)]
theorem zSa{k:Nat}(hk:k<x.zA.length)(ih:∀a b,V (suf (exx D x m T) (k+1)) a→V (suf (exx D x m T) (k+1)) b→Fm φ (x.zA.length-(k+1)) (mul (suf (exx D x m T) (k+1)) a b)=mul (suf (exx D2 x m2 T2) (k+1)) (Fm φ (x.zA.length-(k+1)) a) (Fm φ (x.zA.length-(k+1)) b)){v:Vec}(hv:V (suf (exx D x m T) (k+1)) v):
  Fm φ (x.zA.length-(k+1)) (sig (suf (exx D x m T) (k+1)) (lvl (exx D x m T) k) v)=sig (suf (exx D2 x m2 T2) (k+1)) (lvl (exx D2 x m2 T2) k) (Fm φ (x.zA.length-(k+1)) v):=by
 have hp:=hE.m.p.pos;have ok:=vZ h hE hT (k:=k+1) (by omega);obtain⟨y,u,rfl,hy,hu⟩:=(sG h hE hT (x.zA.length-(k+1)) (k+1) (by omega) _).1 hv;have hyl:=wY h (by omega) hy;have hu2:Row m2.Prime D2 (φ u):=by rw[hF.pr];exact hF.row u hu
 have hsg:Fm φ (x.zA.length-(k+1)) (sgG D x m T k y)=sgG D2 x m2 T2 k y:=by
  unfold sgG;rw[zEF (S:=V (suf (exx D x m T) (k+1))) (n:=mul (suf (exx D2 x m2 T2) (k+1))) (Fm φ (x.zA.length-(k+1))) (fun a b=>xE ok) ih _ _ _ (zO7 h hE hT hk) (wP ok),zYX h hE hT hE2 hT2 hF (by omega)]
  congr 1
  apply Qu
  ·rw[Jc,uR h hE hT,uR h hE2 hT2]
  ·intro i h1 h2
   rw[Jc,uR h hE hT]at h1;have e1:(eC1 x T k)[i]'(by rw[uR h hE hT];exact h1)=(lvl (exx D x m T) k).cs.getD (k+1+i-(k+1)) []:=by rw[show k+1+i-(k+1)=i from by omega,zBH h hE hT hk,J2,Jm (by rw[uR h hE hT];exact h1),J3 (by rw[uR h hE hT];exact h1)];rfl
   have e2:(eC1 x T2 k)[i]'h2=(lvl (exx D2 x m2 T2) k).cs.getD (k+1+i-(k+1)) []:=by rw[show k+1+i-(k+1)=i from by omega,zBH h hE2 hT2 hk,J2,Jm h2,J3 h2];rfl
   rw[Jd7,e1,e2,zOJ h hE hT hE2 hT2 hF (by omega) (by omega)]
 obtain⟨y1,u1,e,hy1,hu1⟩:=(sG h hE hT (x.zA.length-(k+1)) (k+1) (by omega) _).1 (zHF h hE hT hk (y:=y));have hy1l:=wY h (by omega) hy1;rw[e,zA0 hy1l]at hsg;rw[zBI h hE hT hk hy hu,e,Jn hy1l,K3 hy1l,zA0 hy1l,zA0 hyl,zBI h hE2 hT2 hk hy hu2,←hsg,Jn hy1l,K3 hy1l,hF.pr,hF.add _ _ hu1 (wX (by omega)),hF.act k hk u hu]
theorem zJZ{k:Nat}(hk:k<x.zA.length)(ih:∀a b,V (suf (exx D x m T) (k+1)) a→V (suf (exx D x m T) (k+1)) b→Fm φ (x.zA.length-(k+1)) (mul (suf (exx D x m T) (k+1)) a b)=mul (suf (exx D2 x m2 T2) (k+1)) (Fm φ (x.zA.length-(k+1)) a) (Fm φ (x.zA.length-(k+1)) b)):∀(q:Nat){v:Vec},V (suf (exx D x m T) (k+1)) v→
  Fm φ (x.zA.length-(k+1)) (iter q (sig (suf (exx D x m T) (k+1)) (lvl (exx D x m T) k)) v)=iter q (sig (suf (exx D2 x m2 T2) (k+1)) (lvl (exx D2 x m2 T2) k)) (Fm φ (x.zA.length-(k+1)) v)
 |0,_,_=>rfl
 |q+1,v,hv=>by show Fm φ _ (iter q _ (sig _ _ v))=iter q _ (sig _ _ (Fm φ _ v));rw[zJZ hk ih q (zAz h hE hT hk hv),zSa h hE hT hE2 hT2 hF hk ih hv]
theorem zNp:∀(d k:Nat),k+d=x.zA.length→ ∀a b,V (suf (exx D x m T) k) a→V (suf (exx D x m T) k) b→Fm φ (x.zA.length-k) (mul (suf (exx D x m T) k) a b)=mul (suf (exx D2 x m2 T2) k) (Fm φ (x.zA.length-k) a) (Fm φ (x.zA.length-k) b)
 |0,k,hk,a,b,ha,hb=>by
  have hp:=hE.m.p.pos;have hp2:=hE2.m.p.pos;rw[zAg h hE hT D k (by omega) (by omega)]at ha hb ⊢
  rw[zAg h hE2 hT2 D2 k (by omega) (by omega)];have ha':=(zDz _ _).1 ha;have hb':=(zDz _ _).1 hb;have e:∀w:Vec,Fm φ (x.zA.length-k) w=φ w:=fun w=>by rw[Fm,show x.zA.length-k=0 from by omega];rfl
  rw[e,e,e,qN (by omega) D _ _ ha' hb',hF.add _ _ ha' hb',hF.pr,qN (by omega) D2 _ _ (hF.row _ ha') (hF.row _ hb')]
 |d+1,k,hk,a,b,ha,hb=>by
  have hkn:k<x.zA.length:=by omega
  have ih:=zNp d (k+1) (by omega);have hl:=wJ h hE hT;have hl2:=wJ h hE2 hT2;have ok:=vZ h hE hT (k:=k+1) (by omega);have hwV:=zP8 h hE hT hkn;rw[yE (x:=exx D x m T) (by omega)]at ha hb ⊢
  rw[yE (x:=exx D2 x m2 T2) (by omega)];cases a with
  |nil=>exact ha.elim
  |cons a u=>
  cases b with
  |nil=>exact hb.elim
  |cons b v=>
   obtain⟨_,ha⟩:=ha;obtain⟨_,hb⟩:=hb;have hit:=zNo h hE hT hkn b.toNat ha;have hm:=xE ok hit hb;rw[show x.zA.length-k=x.zA.length-(k+1)+1 from by omega,zGx,zGx,yW,yW,zBt h hE hT hkn,zBt h hE2 hT2 hkn,←zJZ h hE hT hE2 hT2 hF hkn ih _ ha,←ih _ _ hit hb]
   by_cases g:a+b≥at0 x.zA k
   ·rw[if_pos g,if_pos g,zGx,ih _ _ hwV hm,zXa h hE hT hE2 hT2 hF hkn]
   ·rw[if_neg g,if_neg g,zGx]
end
end Go.Pl

namespace Go.Pl
open Go Go.Ab Go.Wk Go.Pc
section
variable {D D2:Nat}{x:SPr}{m m2:zG}{T T2:Mx}{φ:Vec→Vec} (h:Pres x) (hE:ExB x.zA.length D x m T) (hT:∀i,i<T.length→Row m.Prime D (T.getD i [])) (hE2:ExB x.zA.length D2 x m2 T2) (hT2:∀i,i<T2.length→Row m2.Prime D2 (T2.getD i [])) (hF:Fh x.zA.length D D2 m m2 T T2 φ)
 include h hE hT hE2 hT2 hF
theorem zVB{k:Nat}(hk:k<x.zA.length){c:Vec}(hc:V (suf (exx D x m T) (k+1)) c):∀q,Fm φ (x.zA.length-(k+1)) (pw (mul (suf (exx D x m T) (k+1))) (zeros (suf (exx D x m T) (k+1)).length) c q)=pw (mul (suf (exx D2 x m2 T2) (k+1))) (zeros (suf (exx D2 x m2 T2) (k+1)).length) (Fm φ (x.zA.length-(k+1)) c) q
 |0=>zYX h hE hT hE2 hT2 hF (by omega)
 |q+1=>by have ok:=vZ h hE hT (k:=k+1) (by omega);have hq:V (suf (exx D x m T) (k+1)) (pw (mul (suf (exx D x m T) (k+1))) (zeros (suf (exx D x m T) (k+1)).length) c q):=vK (fun w hw=>xE ok hw hc) q (wP ok);have ih:=zVB hk hc q;rw[pw,wW,pw,wW];show Fm φ _ (mul _ (pw _ _ c q) c)=mul _ (pw _ _ (Fm φ _ c) q) (Fm φ _ c);rw[zNp h hE hT hE2 hT2 hF _ (k+1) (by omega:k+1+(x.zA.length-(k+1))=x.zA.length) _ _ hq hc,ih]
theorem zXb{k j:Nat}(hk:k≤j)(hj:j<x.zA.length):V (suf (exx D x m T) (k+1)) (((exx D x m T).zU.getD j []).drop (k+1))∧Fm φ (x.zA.length-(k+1)) (((exx D x m T).zU.getD j []).drop (k+1))=((exx D2 x m2 T2).zU.getD j []).drop (k+1):=by have hn:=hE.hn;have hb:=vO x.zA.length (by omega);have hpx:V (suf x (k+1)) ((x.zU.getD j []).drop (k+1)):=jI (zJX (qO h hj) hk) (by omega);rw[zDR h hE hT hk hj,zDR h hE2 hT2 hk hj];exact⟨zDn h hE hT (by omega) hpx (zBJ h hE hT hj),by rw[zA0 (wY h (by omega) hpx),hF.t _ (by omega)]⟩
theorem zXc{k i j:Nat}(hk:k≤i)(hi:i<j)(hj:j<x.zA.length):V (suf (exx D x m T) (k+1)) ((((exx D x m T).zF.getD i []).getD (j-(i+1)) []).drop (k+1))∧Fm φ (x.zA.length-(k+1)) ((((exx D x m T).zF.getD i []).getD (j-(i+1)) []).drop (k+1))=(((exx D2 x m2 T2).zF.getD i []).getD (j-(i+1)) []).drop (k+1):=by have hn:=hE.hn;have hb:=zBF x.zA.length (by omega) i (by omega);have hcx:V (suf x (k+1)) ((lcj x i j).drop (k+1)):=jI (zJX (vU h hi hj) hk) (by omega);rw[zF6 h hE hT hk hi hj,zF6 h hE2 hT2 hk hi hj];exact⟨zDn h hE hT (by omega) hcx (zD0 h hE hT hi hj),by rw[zA0 (wY h (by omega) hcx),hF.t _ (by omega)]⟩
theorem zUq{k j:Nat}(h1:k+1≤j)(h2:j<x.zA.length):Fm φ (x.zA.length-(k+1)) (xJ ((exx D x m T).zA.length-(k+1)) (j-(k+1)))=xJ ((exx D2 x m2 T2).zA.length-(k+1)) (j-(k+1)):=by rw[zP7 h hE hT h1 h2,zP7 h hE2 hT2 h1 h2,zA0 (by simp[xJ,zeros]),hF.z]
theorem zOK{k:Nat}(hk:k<x.zA.length):LCQ (fun k a b=>Fm φ (x.zA.length-k) a=Fm φ (x.zA.length-k) b) x (exx D x m T) k↔LCn x (exx D2 x m2 T2) k:=by
 have hl:=wJ h hE hT;have ok:=vZ h hE hT (k:=k+1) (by omega);have hmul:=zNp h hE hT hE2 hT2 hF _ (k+1) (by omega:k+1+(x.zA.length-(k+1))=x.zA.length);have hsig:=fun v hv=>zSa h hE hT hE2 hT2 hF hk hmul (v:=v) hv
 have hwV:=zP8 h hE hT hk;have e1:∀j,k+1≤j→j<x.zA.length→(c1Q (fun k a b=>Fm φ (x.zA.length-k) a=Fm φ (x.zA.length-k) b) (exx D x m T) k j↔c1E (exx D2 x m2 T2) k j):=fun j h1 h2=>by obtain⟨p1,p2⟩:=zXb h hE hT hE2 hT2 hF (k:=k) (j:=j) (by omega) h2;unfold c1Q c1E;show Fm φ _ _=Fm φ _ _↔_;rw[zVB h hE hT hE2 hT2 hF hk (zLJ h hE hT hk h1 h2),zOJ h hE hT hE2 hT2 hF h1 h2,hsig _ p1,p2,uY h hE hT h2,uY h hE2 hT2 h2]
 have e2:∀i j,k+1≤i→i<j→j<x.zA.length→(c2Q (fun k a b=>Fm φ (x.zA.length-k) a=Fm φ (x.zA.length-k) b) (exx D x m T) k i j↔c2E (exx D2 x m2 T2) k i j):=fun i j h1 hij h2=>by obtain⟨p1,p2⟩:=zXc h hE hT hE2 hT2 hF (k:=k) (by omega) hij h2;have ci:=zLJ h hE hT hk h1 (show i<x.zA.length by omega);have cj:=zLJ h hE hT hk (show k+1≤j by omega) h2;unfold c2Q c2E;show Fm φ _ _=Fm φ _ _↔_;rw[hmul _ _ cj ci,hmul _ _ ci (zAz h hE hT hk p1),zOJ h hE hT hE2 hT2 hF h1 (by omega),zOJ h hE hT hE2 hT2 hF (by omega) h2,hsig _ p1,p2]
 have e3:Fm φ (x.zA.length-(k+1)) (sig (suf (exx D x m T) (k+1)) (lvl (exx D x m T) k) (lvl (exx D x m T) k).w)=Fm φ (x.zA.length-(k+1)) (lvl (exx D x m T) k).w↔sig (suf (exx D2 x m2 T2) (k+1)) (lvl (exx D2 x m2 T2) k) (lvl (exx D2 x m2 T2) k).w=(lvl (exx D2 x m2 T2) k).w:=by rw[hsig _ hwV,zXa h hE hT hE2 hT2 hF hk]
 have e4:∀j,k+1≤j→j<x.zA.length→(c4Q (fun k a b=>Fm φ (x.zA.length-k) a=Fm φ (x.zA.length-k) b) (exx D x m T) k j↔c4E (exx D2 x m2 T2) k j):=fun j h1 h2=>by have hg:=zCC h hE hT h1 h2;unfold c4Q c4E;show Fm φ _ _=Fm φ _ _↔_;rw[hmul _ _ hwV (zNo h hE hT hk _ hg),hmul _ _ hg hwV,zJZ h hE hT hE2 hT2 hF hk hmul _ hg,zUq h hE hT hE2 hT2 hF h1 h2,zXa h hE hT hE2 hT2 hF hk,zBt h hE hT hk,zBt h hE2 hT2 hk]
 constructor
 ·intro g
  exact⟨fun j h1 h2=>(e1 j h1 h2).1 (g.c1 j h1 h2),fun i h1 hi j hij h2=>(e2 i j h1 (by omega) h2).1 (g.c2 i h1 hi j hij h2),e3.1 g.c3,fun j h1 h2=>(e4 j h1 h2).1 (g.c4 j h1 h2)⟩
 ·intro g
  exact⟨fun j h1 h2=>(e1 j h1 h2).2 (g.c1 j h1 h2),fun i h1 hi j hij h2=>(e2 i j h1 (by omega) h2).2 (g.c2 i h1 hi j hij h2),e3.2 g.c3,fun j h1 h2=>(e4 j h1 h2).2 (g.c4 j h1 h2)⟩
theorem zSb{m0:zG}(hM:Mv D x.zA.length m0 m)(hx:wQ (suf x 0))(hr:zF0 x m2 D2):∃L,f_J ⟨x,m0,T⟩=some L∧L.length≤1000∧(∀r∈L,Row m.Prime D r)∧((∀r∈L,φ r=zeros D2)↔wQ (suf (exx D2 x m2 T2) 0)):=by
 have hp:=hE.m.p.pos;have hp2:=hE2.m.p.pos;obtain⟨L,e,g⟩:=zWS h hE hT hM (Z:=fun r=>φ r=zeros D2) (Q:=fun k a b=>Fm φ (x.zA.length-k) a=Fm φ (x.zA.length-k) b) (fun k hk a b ha hb e=>by
  obtain⟨y,u,rfl,hy,hu,_,hyl⟩:=prV h hE hT hk ha;obtain⟨z,v,rfl,hz,hv,_,hzl⟩:=prV h hE hT hk hb;rw[Jn hyl,Jn hzl]at e;subst e;rw[K3 hyl,K3 hyl,zA0 hyl,zA0 hyl,List.append_cancel_left_eq];have ha:=zAw (p:=m.Prime) (D:=D) (r:=u) (s:=v) (k:=-1) hE.m.p;have hs:adv m.Prime D (tI m.Prime D u (-1) v) v=u:=by refine Eq.trans (zX (g:=fun j=>at0 u j) fun j hj=>?_) (vR hu.1).symm;have hr:=hu.2 j hj;rw[tI,yG hj,Int.emod_add_emod,show at0 u j+ -1*at0 v j+at0 v j=at0 u j from by omega,Ke (by omega) (by omega)]
  have hφ:=hF.add _ _ ha hv;rw[hs]at hφ;have hra:=hF.row _ ha;have hrv:=hF.row _ hv;constructor
  ·intro g
   rw[hφ,g,vS hrv]
  ·intro g
   rw[hφ,tF]at g;have:=(zUg (u:=φ v) hra (xL (p:=m.Prime) (D:=D2) (by omega))).1 (by rw[g,zAx hrv]);exact this) hx
 refine⟨L,e,g.len,g.row,g.iff.trans ?_⟩;rw[zO9 h hE2 hT2 hr];exact⟨fun a k hk=>(zOK h hE hT hE2 hT2 hF hk).1 (a k hk),fun a k hk=>(zOK h hE hT hE2 hT2 hF hk).2 (a k hk)⟩
end
end Go.Pl
