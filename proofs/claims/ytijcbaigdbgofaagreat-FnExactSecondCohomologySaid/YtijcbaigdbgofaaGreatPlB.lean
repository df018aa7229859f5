/- The program's SecondCohomology returns what the reference's returns,for all arguments;no conditions. -/
import Derived.Test.YtijcbaigdbgofaaGreatPlA
open List renaming replicate→J1,getD_eq_getElem?_getD→J2,getElem?_eq_getElem→J4,length_append→J6,length_cons→J7,mem_cons→J8,getElem?_append_right→J9,append_assoc→Jc,mem_append→Jd,append_nil→Je,length_replicate→Jf,range→Jg,length_map→Jh,replicate_append_replicate→Jk,mem_map→Jm,map_cons→Jo,replicate_succ→Jp,take_of_length_le→Jr,take_left'→Js,nil_append→Jt,getElem?_append_left→Ju,take_succ_eq_append_getElem→Jw,length_nil→Jx,length_drop→Jz,getElem?_map→K0,cons_append→K1,drop_left'→K3,getElem?_eq_none→K6,take_zero→K8,getElem_mem→K9,length_take→Ka,eq_of_mem_replicate→Kb,getElem?_replicate→Ke,reverse_reverse→Ki,drop_append_of_le_length→Kn,mem_range→Kq,ext_getElem?→Kv,mem_iff_getElem→L6,map_append→L7,take_succ_cons→Ld,flatten_cons→Lg,eq_nil_of_length_eq_zero→Ll,range_succ→Lp,drop_replicate→Ls,replicate_succ'→Lu,getElem?_drop→He,getD_cons_zero→Hf,replicate_zero→Hk,foldl_cons→G1,foldl_append→Gm,map_nil→Gv,getElem?_take_of_lt→Gw,length_singleton→Gz,drop_zero→U9,set_append_right→Ud,drop_eq_getElem_cons→Uf,reverse_cons→Ug,mem_of_mem_drop→Um,getD_cons_succ→Uz,map_congr_left→Q9,ext_getElem→Qg,getElem?_replicate_of_lt→Qi,head?_cons→Qj,flatMap_append→Qk,take_length→Qt,cons→Qv,map_map→Jaf,flatten_append→Jam,range_succ_eq_map→Jaq,not_mem_nil→Jar,drop_of_length_le→Jau,mem_of_mem_head?→Jb1,take→Jb8,length→Jba,mem_reverse→Jbv,getElem_map→Jbw
open Int renaming toNat_natCast→Ja,mul_emod→Jq,emod_emod→Jy,emod_eq_of_lt→K5,add_emod→Kc,emod_lt_of_pos→Kg,emod_nonneg→Kx,natCast_mul→La,mul_zero→Lb,zero_add→Lo,mul_one→Lt,add_zero→Ly,mul_assoc→H5,natCast_add→G6,mul_comm→Gi,toNat_zero→Gl,add_emod_right→U0,zero_mul→Qh,mul_le_mul_of_nonneg_left→Qn,add_mul→Qo,sub_emod→Qy,emod_emod_of_dvd→Jao,add_emod_emod→Jbc,one_mul→Jbi,dvd_refl→Jcb,mul_add→Jck,toNat_of_nonneg→Jcs
open Nat renaming zero_add→Jb,le_refl→Ji,lt_or_ge→Jj,mul_le_mul→Jv,succ_mul→K4,mul_le_mul_right→Kd,sub_self→Kl,zero_le→Km,add_sub_cancel_left→Lz,zero_mul→Gg,eq_zero_or_pos→Gk,mul_comm→Gx,div_add_mod→U7,mod_lt→Ul,div_lt_iff_lt_mul→Q6,add_zero→Qd,le_mul_of_pos_right→Jay,sub_zero→Jb5,lt_of_not_le→Jbd,lt_irrefl→Jbk
open Bool renaming not_true→K7,not_false→Kr
open Option renaming some→Lq
open Option renaming some→i7,none→i8
open Bool renaming true→i9,false→ia
namespace Go.Pl
open Go Go.Ab Go.Wk Go.Pc
theorem zNd{p:Int}{n:Nat}{R out:Mx}{cf:Nat→Int}(ho:∀i,i<out.length→Sp p n R (out.getD i [])){u:List Int}(hu:∀j,j<n→at0 u j%p=(S out.length fun k=>cf k*ent out k j)%p):Sp p n R u:=
 kM ho ⟨cf,fun j hj=>(hu j hj).symm⟩
theorem Red.len_le{p:Int}{n:Nat}{R:Mx}{pv:Nat→Nat}(h:Red p n R pv):R.length≤n:=by
 have key:∀i,i<R.length→i≤pv i:=by
  intro i
  induction i with
  |zero=>intro _;omega
  |succ i ih=>
   intro hi;have h1:=ih (by omega);have h2:=h.mono i (i+1) (by omega) hi;omega
 rcases Gk R.length with g|g
 ·omega
 ·have h1:=key (R.length-1) (by omega)
  have h2:=h.lt (R.length-1) (by omega);omega
theorem zDc{xs:Mx}{v:List Int}{i:Nat}(h:i<xs.length):(xs++[v]).getD i []=xs.getD i []:=by simp only[J2,Ju h]
theorem zDd{xs:Mx}{v:List Int}:(xs++[v]).getD xs.length []=v:=by simp[J2]
section
variable {p:Int} (hp:Prime p) {n:Nat} (hn:n≤100000)
 include hp hn
theorem zNe{w:List Int}(hw:Row p n w){r:Int}(h0:0≤r)(h1:r≤p-1):zUS p r w=i7 (mkv n fun j=>(at0 w j*r)%p):=by
 have h7:=hp.pos;unfold zUS;rw[hw.1,xP (by omega),bs,tJ hp (zHA (by omega)) hw ⟨by omega,by omega⟩ (by omega),bs]
 congr 1
 refine yC fun j hj=>?_
 rw[show at0 (z0 n) j=0 from by simp[z0,at0,J2,hj],Lo,Gi]
variable {rows:Mx} (hm:rows.length≤600000) (hr:∀i,i<rows.length→Row p n (rows.getD i []))
 include hm hr
theorem zEE:∃R pv,f_p p rows=i7 R∧(Red p n R pv∧R.length≤rows.length)∧jD p n R rows:=by
 have h7:=hp.pos;unfold f_p;have main:=tC (body:=zPT p rows) (s:=([],0)) (Q:=fun R=> ∃pv,(Red p n R pv∧R.length≤rows.length)∧jD p n R rows)
  (fun i s=> ∃(out:Mx)(pv:Nat→Nat),s=(out,(i:Int))∧Red p n out pv∧jD p n out (rows.take i)∧out.length≤i∧i≤rows.length) rows.length (fun i s hi hI=>?_) (fun s hI=>?_) ⟨[],fun _=>0,rfl,Red.empty,by rw[K8];exact jD.refl,Km _,Km _⟩
 ·obtain⟨R,h1,pv,h2,h3⟩:=main
  rw[h1,bs];exact⟨R,pv,rfl,h2,h3⟩
 ·obtain⟨out,pv,rfl,h,hs,hl,_⟩:=hI
  have hon:out.length≤n:=h.len_le;left;have hv:=hr i hi;have hw:=zR7 hp hn h hv out.length;have gE:=zNa hp hn h hv (by omega);have hpz:=zWH hp hn h hv out.length (Ji _);obtain⟨cf,cQ⟩:=zUh hp hn h hv out.length (Ji _);obtain⟨k,k1,k2,k3,k4⟩:=zJb hw.1 (by omega);have eu:rows.take (i+1)=rows.take i++[rows.getD i []]:=by rw[Jw hi,J2,J4 hi];rfl
  have bz:(rows.take i).length=i:=by rw[Ka];omega
  have fA:∀u,Sp p n (rows.take i) u→Sp p n (rows.take (i+1)) u:=fun u hu=>kM (fun a ha=>by have:=qG (p:=p) (n:=n) (R:=rows.take (i+1)) (i:=a) (by rw[eu,J6];omega);rw[eu,zDc ha,←eu]at this;exact this) hu
  have cS:Sp p n (rows.take (i+1)) (rows.getD i []):=by
   have:=qG (p:=p) (n:=n) (R:=rows.take (i+1)) (i:=i) (by rw[eu,J6,bz];simp);rw[eu]at this;have e:(rows.take i++[rows.getD i []]).getD i []=rows.getD i []:=by have:=zDd (xs:=rows.take i) (v:=rows.getD i []);rw[bz]at this;exact this
   rw[e,←eu]at this;exact this
  by_cases pH:k=n
  ·
   refine⟨(out,((i+1:Nat):Int)),?_,out,pv,rfl,h,⟨fun a ha=>fA _ (hs.1 a ha),fun a ha=>?_⟩,by omega,by omega⟩
   ·unfold zPT
    simp only
    rw[xJ hi,zN,yX [] hi];simp only[bs,gE,k2];rw[hw.1,zL5 (by omega),zN,zC (by omega) (by omega),bs,cs]
   ·rw[eu,J6,bz,Gz]at ha
    rw[eu];rcases Jj a i with g|g
    ·rw[zDc (by omega)];exact hs.2 a (by omega)
    ·have:a=i:=by omega
     subst this;have e:(rows.take a++[rows.getD a []]).getD a []=rows.getD a []:=by have:=zDd (xs:=rows.take a) (v:=rows.getD a []);rw[bz]at this;exact this
     rw[e];refine zNd (out:=out) (cf:=fun q=> -1*cf q) (fun a ha=>qG ha) fun j hj=>?_
     have h1:=cQ j hj;rw[k3 j (by omega)]at h1;rw[xM (g:=fun q=> -1*(cf q*ent out q j)) (fun q _=>by rw[H5]),zC7];have h2:(at0 (rows.getD a []) j+S out.length fun q=>cf q*ent out q j)%p=0:=by rw[←h1];rfl
     rw[show at0 (rows.getD a []) j=(at0 (rows.getD a []) j+S out.length fun q=>cf q*ent out q j)+ -1*(S out.length fun q=>cf q*ent out q j)from by omega,Kc,h2,Lo,Jy]
  ·have hk:k<n:=by omega
   have hwk:=hw.2 k hk;have gf:=k4 hk;obtain⟨r,r1,r2,r3,r4⟩:=zR6 hp (x:=at0 (cl p n out pv (rows.getD i []) out.length) k) (by omega) (by omega);have bA:=zNe hp hn hw r2 r3;have hu:Row p n (mkv n fun j=>(at0 (cl p n out pv (rows.getD i []) out.length) j*r)%p):=⟨yA _ _,fun j hj=>by have e1:=Kx (at0 (cl p n out pv (rows.getD i []) out.length) j*r) (show p≠0 by omega);have e2:=Kg (at0 (cl p n out pv (rows.getD i []) out.length) j*r) (show 0<p by omega);rw[yG hj];omega⟩
   have ua:∀j,j<n→at0 (mkv n fun j=>(at0 (cl p n out pv (rows.getD i []) out.length) j*r)%p) j=(at0 (cl p n out pv (rows.getD i []) out.length) j*r)%p:=fun j hj=>yG hj
   generalize mkv n (fun j=>(at0 (cl p n out pv (rows.getD i []) out.length) j*r)%p)=u at bA hu ua
   have u1:at0 u k=1:=by rw[ua k hk];exact r4
   have ul:∀j,j<k→at0 u j=0:=fun j hj=>by rw[ua j (by omega),k3 j hj];simp
   have up:∀a,a<out.length→at0 u (pv a)=0:=fun a ha=>by rw[ua _ (h.lt a ha),hpz a ha];simp
   obtain⟨q,⟨hq,dM⟩,eB⟩:=zDx (p:=fun q=>q≤out.length∧(q<out.length→k<pv q)) ⟨out.length,Ji _,fun g=>by omega⟩;have q1:∀a,a<q→pv a<k:=fun a ha=>by
    have h1:¬(k<pv a):=fun g=>eB a ha ⟨by omega,fun _=>g⟩
    have h2:pv a≠k:=fun e=>by have:=up a (by omega);rw[e,u1]at this;cases this
    omega
   have q2:∀a,q≤a→a<out.length→k<pv a:=fun a ha ha2=>by
    have h1:=dM (by omega);rcases Jj q a with g|g
    ·have:=h.mono q a g ha2;omega
    ·rw[show a=q from by omega];exact h1
   have eZ:=zL8 hp h hu hk u1 ul up hq q1 q2 hn (by omega) (x:=(i:Int));have dw:=zNc hp h hu hk u1 ul up hq q1 q2;obtain⟨s1,s2,s3⟩:=zP0 hp h hu hk u1 ul up hq q1 q2;refine⟨(mkR (out.length+1) (sH p n out u k q),((i+1:Nat):Int)),?_,_,_,rfl,dw,⟨fun a ha=>?_,fun a ha=>?_⟩,by rw[sC];omega,by omega⟩
   ·unfold zPT
    simp only
    rw[xJ hi,zN,yX [] hi];simp only[bs,gE,k2];rw[hw.1,zL6 (by omega),zS,yW (by rw[hw.1];exact hk)];simp only[bs,r1,bA];cases ex:zJ (zIv p (out,(i:Int)) (k:Int) u) ([],ia,0)with
    |none=>rw[ex]at eZ;cases eZ
    |some r32=>
     rw[ex,bs]at eZ;simp only[bs];obtain⟨a1,a2⟩:=r32;cases a2 with
     |true=>
      simp only[K7,zS]at eZ ⊢
      rw[zC (by omega) (by omega),bs,cs,Lq.inj eZ]
     |false=>
      simp only[Kr,zN]at eZ ⊢
      cases hap:xW a1 [u]with
      |none=>rw[hap]at eZ;cases eZ
      |some v33=>
       rw[hap,bs]at eZ;simp only[bs];rw[zC (by omega) (by omega),bs,cs,Lq.inj eZ]
   ·rw[sC]at ha
    rw[kF ha];refine kM (fun b hb=>?_) (s1 a ha);rw[J6,Gz]at hb;rcases Jj b out.length with g|g
    ·rw[zDc g];exact fA _ (hs.1 b g)
    ·rw[show b=out.length from by omega,zDd]
     have d9:Sp p n (rows.take (i+1)) (cl p n out pv (rows.getD i []) out.length):=by
      have pZ:Sp p n (rows.take (i+1)) (mkv n fun j=>S out.length fun k=>cf k*ent out k j):=zNd (out:=out) (cf:=cf) (fun b hb=>fA _ (hs.1 b hb)) fun j hj=>by rw[yG hj]
      refine zAW (k:=1) cS pZ fun j hj=>?_
      rw[cQ j hj,yG hj,Jbi]
     refine zAW (k:=r) (zEA (u:=[]) fun j _=>by simp[at0]) d9 fun j hj=>?_
     rw[ua j hj,Jy,show at0 ([]:List Int) j=0 from by simp[at0],Lo,Gi]
   ·rw[eu,J6,bz,Gz]at ha
    rw[eu];rcases Jj a i with g|g
    ·rw[zDc (by omega)]
     exact kM s2 (hs.2 a (by omega))
    ·have hai:a=i:=by omega
     subst hai;have e:(rows.take a++[rows.getD a []]).getD a []=rows.getD a []:=by have:=zDd (xs:=rows.take a) (v:=rows.getD a []);rw[bz]at this;exact this
     rw[e];have d9:Sp p n (mkR (out.length+1) (sH p n out u k q)) (cl p n out pv (rows.getD a []) out.length):=by
      refine zAW (k:=at0 (cl p n out pv (rows.getD a []) out.length) k) (zEA (u:=[]) fun j _=>by simp[at0]) s3 fun j hj=>?_
      rw[ua j hj,show at0 ([]:List Int) j=0 from by simp[at0],Lo];rw[Jq,Jy,←Jq,←H5,Gi (at0 (cl p n out pv (rows.getD a []) out.length) k),H5,Jq,r4,Lt,Jy]
     have pZ:Sp p n (mkR (out.length+1) (sH p n out u k q)) (mkv n fun j=>S out.length fun k=>cf k*ent out k j):=zNd (out:=out) (cf:=cf) s2 fun j hj=>by rw[yG hj]
     refine zAW (k:=-1) d9 pZ fun j hj=>?_
     rw[yG hj,Kc,cQ j hj,←Kc]
     congr 1;omega
 ·obtain⟨out,pv,rfl,h,hs,hl,_⟩:=hI
  refine⟨out,?_,pv,⟨h,hl⟩,by rw[Qt]at hs;exact hs⟩;unfold zPT;simp only
  rw[uH,zS]
theorem zL9:∃R pv,f_p p rows=i7 R∧Red p n R pv∧jD p n R rows:=by obtain⟨R,pv,h1,h2,h3⟩:=zEE hp hn hm hr;exact⟨R,pv,h1,h2.1,h3⟩
theorem zHC{R:Mx}{pv:Nat→Nat}(h:Red p n R pv)(hs:jD p n R rows):R.length≤rows.length:=by have h7:=hp.pos;obtain⟨R',pv',_,h2,h3⟩:=zEE hp hn hm hr;rw[h.unique (by omega) h2.1 (hs.trans h3.symm)];exact h2.2
theorem zAH:∃R pv,f_p p rows=i7 R∧f_i p rows=i7 R∧Red p n R pv∧jD p n R rows:=by have h7:=hp.pos;obtain⟨R,pv,h1,h2,h3⟩:=zL9 hp hn hm hr;obtain⟨R',pv',g1,g2,g3⟩:=zL7 hp hn hm hr;have e:=h2.unique (by omega) g2 (h3.trans g3.symm);exact⟨R,pv,h1,by rw[e];exact g1,h2,h3⟩
end
end Go.Pl

namespace Go.Pl
open Go Go.Ab Go.Wk Go.Pc
theorem jE{β:Type}{body:List β×Int→Option ((List β×Int)⊕List β)}(n:Nat)(F:Nat→β)(h:∀i acc,i<n→acc.length=i→body (acc,(i:Int))=i7 (.inl (acc++[F i],((i+1:Nat):Int))))(he:∀acc,body (acc,(n:Int))=i7 (.inr acc)):
  zJ body ([],0)=i7 ((Jg n).map F):=by
 have:=zY (body:=body) (r:=(Jg n).map F) (fun i=>((Jg i).map F,(i:Int))) n (by grind[Lp]) (he _);exact this
theorem zP1{xs:Mx}(hx:xs.length≤100000)(hf:xs.flatten.length≤1000000):zUZ xs=i7 xs.flatten:=by
 unfold zUZ;have:=zY (body:=zMt xs) (r:=xs.flatten) (fun i=>((xs.take i).flatten,(i:Int))) xs.length (fun i hi=>by
  have h1:=zF1 hi;have h2:=zJH (xs:=xs) (i+1);have h3:=congrArg Jba h1;rw[J6]at h3;unfold zMt;simp only
  rw[xJ hi,zN,yX [] hi,bs,yT (by omega),bs,zC (by omega) (by omega),bs,cs,h1]) (by
  unfold zMt;simp)
 grind
theorem zO1{p:Int}{L:Nat}{v:List Int}:Row p L v↔v.length=L∧ ∀a∈v,0≤a∧a≤p-1:=by
 constructor
 ·rintro⟨h1,h2⟩
  refine⟨h1,fun a ha=>?_⟩;obtain⟨i,hi,rfl⟩:=L6.1 ha
  grind
 ·rintro⟨h1,h2⟩
  refine⟨h1,fun i hi=>?_⟩
  simp_all
def kN(D k:Nat):List Int:=mkv D fun j=>if j=k then 1 else 0
theorem zP2{p:Int}{D k:Nat}(hp:2≤p):Row p D (kN D k):=⟨yA _ _,by grind[kN,yG]⟩
theorem zGf{D k:Nat}(hk:k<D)(hD:D≤1000000):zMb (D:Int) (k:Int)=i7 (kN D k):=by grind[zMb,xP,yW,tU,jC,kN]
end Go.Pl

namespace Go.Pl
open Go Go.Ab Go.Wk Go.Pc
abbrev gl{β:Type}(m:Nat)(F:Nat→β):List β:=(Jg m).map F
theorem vH{β:Type}{m:Nat}{F:Nat→β}:(gl m F).length=m:=by simp[gl]
theorem zFX{β:Type}{m:Nat}{F:Nat→β}{i:Nat}(h:i<m):ixO (gl m F) (i:Int)=i7 (F i):=by rw[zAG (by grind)];simp[gl]
theorem zR8{β:Type}{m:Nat}{F G:Nat→β}(h:∀i,i<m→F i=G i):gl m F=gl m G:=by grind[Q9]
theorem zJL{β:Type}{m:Nat}{F:Nat→β}{i:Nat}{a:β}:(gl m F).set i a=gl m (fun k=>if k=i then a else F k):=by
 apply Kv
 grind
theorem zEF{β:Type}{m:Nat}{F:Nat→β}:gl m F++[F m]=gl (m+1) F:=by simp[gl,Lp]
def base(n i:Nat):Nat:=n+i*n-i*(i+1)/2
theorem zBK:∀n,n<7→ ∀i,i<n→base n i+(n-1-i)≤base n n:=by decide
theorem uC:∀n,n<7→n≤base n n∧base n n≤21∧base n 0=n:=by decide
theorem zNf:∀n:Nat,n<7→ ∀j:Nat,j<n→ ∀i:Nat,i<j→zXw (n:Int) (i:Int) (j:Int)=i7 ((base n i+(j-i-1):Nat):Int):=by decide+kernel
def exP(n D:Nat)(x:SPr)(T:Mx)(i:Nat):List Int:=if i<n then x.zT.getD i []++T.getD i []else J1 (n+D) 0
def exF(n:Nat)(x:SPr)(m:zE)(T:Mx)(i j:Nat):List Int:=if j<n-1-i then(x.zF.getD i []).getD j []++T.getD (base n i+j) []else J1 n 0++(m.zH.getD i []).getD (j-(n-1-i)) []
def unC(N i:Nat):Mx:=gl (N-1-i) fun j=>kN N (i+1+j)
def exC(n D:Nat)(x:SPr)(m:zE)(T:Mx)(i:Nat):Mx:=if i<n then gl (n+D-1-i) (exF n x m T i)else unC (n+D) i
def ext(n D:Nat)(x:SPr)(m:zE)(T:Mx):SPr:=⟨x.zA++J1 D m.Prime,gl (n+D) (exP n D x T),gl (n+D) (exC n D x m T)⟩
end Go.Pl

namespace Go.Pl
open Go Go.Ab Go.Wk Go.Pc
end Go.Pl

namespace Go.Pl
open Go Go.Ab Go.Wk Go.Pc
theorem zHD{x:SPr}{n:Nat}(ho:x.zA.length=n)(hn:n≤6):zUU x=i7 ((base n n:Nat):Int):=by
 unfold zUU;rw[ho];have key:∀n:Nat,n<7→((rng ((n:Int)-1)).bind fun v1=>(rng ((n:Int)*v1)).bind fun v2=>(tH v2 2).bind fun v3=>(rng ((n:Int)+v3)).bind fun v4=>i7 v4)=i7 ((base n n:Nat):Int):=by decide+kernel
 grind
theorem zNg{x:SPr}{n:Nat}(ho:x.zA.length=n)(hn:n≤6):zUV x=i7 ((base n n:Nat):Int):=by
 unfold zUV;rw[ho];have key:∀n:Nat,n<7→((rng ((n:Int)+1)).bind fun v1=>(rng ((n:Int)*v1)).bind fun v2=>(tH v2 2).bind fun v3=>i7 v3)=i7 ((base n n:Nat):Int):=by decide+kernel
 grind
end Go.Pl

namespace Go.Pl
open Go Go.Ab Go.Wk Go.Pc
end Go.Pl

namespace Go.Pl
open Go Go.Ab Go.Wk Go.Pc
end Go.Pl

namespace Go.Pl
open Go Go.Ab Go.Wk Go.Pc
end Go.Pl

namespace Go.Pl
open Go Go.Ab Go.Wk Go.Pc
end Go.Pl

namespace Go.Pl
open Go Go.Ab Go.Wk Go.Pc
section
variable {p:Int} (hp:1<p) {n:Nat}{R R':Mx}{pv pv':Nat→Nat} (h:Red p n R pv) (h':Red p n R' pv') (hs:∀i,i<R.length→Sp p n R' (R.getD i []))
 include hp h h' hs
theorem Red.lt_of{i i2 k k2:Nat}(hii:i<i2)(eO:i2<R.length)(hk:k<R'.length)(e:pv' k=pv i)(e2:pv' k2=pv i2):k<k2:=by
 have _:=hp;have _:=hs;have h1:=h.mono i i2 hii eO;refine Classical.byContradiction fun hn=>?_
 rcases Jj k2 k with g|g
 ·have:=h'.mono k2 k g hk;omega
 ·have:k=k2:=by omega
  subst this;omega
theorem Red.low_in:∀i,i<R.length→ ∃k,k<R'.length∧pv' k=pv i∧i≤k:=by
 intro i
 induction i with
 |zero=>intro hi;obtain⟨k,hk,e⟩:=h.piv_in hp h' hs hi;exact⟨k,hk,e,by omega⟩
 |succ i ih=>
  intro hi;obtain⟨k,hk,e,av⟩:=ih (by omega);obtain⟨k2,fj,e2⟩:=h.piv_in hp h' hs hi;have:=h.lt_of hp h' hs (show i<i+1 by omega) hi hk e e2;exact⟨k2,fj,e2,by omega⟩
theorem Red.le_of:R.length≤R'.length:=by
 rcases Gk R.length with g|g
 ·omega
 ·obtain⟨k,hk,_,av⟩:=h.low_in hp h' hs (R.length-1) (by omega)
  omega
end
end Go.Pl

namespace Go.Pl
open Go Go.Ab Go.Wk Go.Pc
end Go.Pl

namespace Go.Pl
open Go Go.Ab Go.Wk Go.Pc
theorem zJM{u v:List Int}{j:Nat}:at0 (u++v) j=if j<u.length then at0 u j else at0 v (j-u.length):=by grind
theorem zCB{v:List Int}{c j:Nat}:at0 (v.drop c) j=at0 v (c+j):=by simp
theorem zLA{v:List Int}{c j:Nat}(h:j<c):at0 (v.take c) j=at0 v j:=by grind
theorem zGr{f:Nat→Int}(t:Nat):∀d:Nat,S (t+d) f=S t f+S d (fun i=>f (t+i))
 |0=>by simp[S]
 |d+1=>by rw[←Nat.add_assoc];simp only[S];rw[zGr t d];omega
theorem zWI{f:Nat→Int}{t n:Nat}(ht:t≤n)(h:∀i,i<t→f i=0):S n f=S (n-t) (fun i=>f (t+i)):=by
 have e:n=t+(n-t):=by omega
 conv=>lhs;rw[e,zGr,xM (g:=fun _=>0) h,qF]
 omega
theorem xV{F:Nat→List Int}{m i:Nat}(h:i<m):(gl m F).getD i []=F i:=by grind
def ur(N i:Nat):List Int:=mkv N fun j=>if j=i then 1 else 0
def wd(N:Nat)(A:Mx):Mx:=gl N fun i=>A.getD i []++ur N i
def Gr(p:Int)(c N:Nat)(A:Mx)(u:List Int):Prop:=∀j,j<c→at0 u j%p=(S N fun k=>at0 u (c+k)*ent A k j)%p
section
variable {p:Int} (hp:1<p) {c N:Nat}{A:Mx} (hA:∀i,i<N→Row p c (A.getD i []))
 include hA
theorem zCC:(wd N A).length=N:=by have _:=hA;exact vH
theorem zJN{i j:Nat}(hi:i<N)(hj:j<c):ent (wd N A) i j=ent A i j:=by rw[ent,wd,xV hi,zJM,(hA i hi).1,if_pos hj]
theorem zBu{i l:Nat}(hi:i<N)(hl:l<N):ent (wd N A) i (c+l)=if l=i then 1 else 0:=by
 rw[ent,wd,xV hi,zJM,(hA i hi).1,if_neg (by omega),Lz,ur,yG hl]
 include hp
theorem zR9{i:Nat}(hi:i<N):Row p (c+N) ((wd N A).getD i []):=by
 refine⟨by rw[wd,xV hi,J6,(hA i hi).1,ur,yA],fun j hj=>?_⟩;rcases Jj j c with g|g
 ·have:=(hA i hi).2 j g
  have e:=zJN hA hi g
  grind
 ·have e:=zBu hA (l:=j-c) hi (by omega)
  grind
theorem zYS{u:List Int}:Sp p (c+N) (wd N A) u↔Gr p c N A u:=by
 have _:=hp;constructor
 ·rintro⟨cf,cQ⟩ j hj
  rw[zCC hA]at cQ;rw[←cQ j (by omega)];refine kL fun k hk=>?_
  have h1:=cQ (c+k) (by omega);rw[zAd (k:=k) hk (fun i hi gf=>by rw[zBu hA hi hk,if_neg (Ne.symm gf),Lb]),zBu hA hk hk,if_pos rfl,Lt]at h1;rw[zJN hA hk hj,Jq,h1,←Jq]
 ·intro h
  refine⟨fun k=>at0 u (c+k),fun j hj=>?_⟩;rw[zCC hA];rcases Jj j c with g|g
  ·rw[h j g]
   refine congrArg (· %p) (xM fun k hk=>?_);rw[zJN hA hk g]
  ·obtain⟨l,rfl⟩:∃l,j=c+l:=⟨j-c,by omega⟩
   rw[zAd (k:=l) (by omega) (fun i hi gf=>by rw[zBu hA hi (by omega),if_neg (Ne.symm gf),Lb]),zBu hA (by omega) (by omega),if_pos rfl,Lt]
variable {W:Mx}{pv:Nat→Nat} (hW:Red p (c+N) W pv) (hs:jD p (c+N) W (wd N A))
 include hW
theorem zWJ:∃t,t≤W.length∧(∀i,i<t→pv i<c)∧ ∀i,t≤i→i<W.length→c≤pv i:=by
 have _:=hA;have _:=hp;obtain⟨t,ht,eB⟩:=zDx (p:=fun t=>W.length≤t∨c≤pv t) ⟨W.length,.inl (Ji _)⟩;have gD:∀i,i<t→i<W.length∧pv i<c:=fun i hi=>by have:=eB i hi;exact⟨Jbd fun h=>this (.inl h),Jbd fun h=>this (.inr h)⟩
 refine⟨t,Nat.le_of_not_lt fun h=>?_,fun i hi=>(gD i hi).2,fun i hi eO=>?_⟩
 ·have:=(gD W.length h).1;omega
 ·rcases ht with h|h
  ·omega
  ·rcases Jj t i with g|g
   ·have:=hW.mono t i g eO;omega
   ·rw[show i=t from by omega];exact h
def nul(c t:Nat)(W:Mx):Mx:=gl (W.length-t) fun i=>(W.getD (t+i) []).drop c
 omit hp hA hW in
theorem zEG{t i j:Nat}(hi:t+i<W.length):ent (nul c t W) i j=ent W (t+i) (c+j):=by rw[ent,nul,xV (by omega),zCB]
variable {t:Nat} (ht:t≤W.length) (h1:∀i,i<t→pv i<c) (h2:∀i,t≤i→i<W.length→c≤pv i)
 include ht h1 h2
theorem zUk:Red p N (nul c t W) (fun i=>pv (t+i)-c):=by
 have _:=hp;have _:=hA;have _:=h1;have _:=ht;have hl:(nul c t W).length=W.length-t:=vH;have hpc:∀i,i<W.length-t→c≤pv (t+i):=by grind
 refine⟨fun i hi=>?_,fun i hi=>?_,fun i hi=>?_,fun i hi j hj=>?_,fun i k hi hk gf=>?_,fun i j gM hj=>?_⟩
 ·rw[hl]at hi
  have hr:=hW.row (t+i) (by omega);refine⟨by rw[nul,xV hi,Jz,hr.1];omega,fun j hj=>?_⟩;have:=hr.2 (c+j) (by omega)
  grind[nul]
 ·rw[hl]at hi
  have:=hW.lt (t+i) (by omega)
  grind
 ·rw[hl]at hi
  rw[zEG (by omega),show c+(pv (t+i)-c)=pv (t+i)from by grind];exact hW.one _ (by omega)
 ·rw[hl]at hi
  rw[zEG (by omega)];exact hW.low _ (by omega) _ (by omega)
 ·rw[hl]at hi hk
  rw[zEG (by omega),show c+(pv (t+i)-c)=pv (t+i)from by grind];exact hW.off _ _ (by omega) (by omega) (by omega)
 ·rw[hl]at hj
  have:=hW.mono (t+i) (t+j) (by omega) (by omega)
  grind
 include hs
theorem zYT{u:List Int}:Sp p (c+N) W u↔Gr p c N A u:=by have _:=hW;have _:=ht;have _:=h1;have _:=h2;exact hs.iff.trans (zYS hp hA)
theorem zWK{x:List Int}:Sp p N (nul c t W) x↔ ∀j,j<c→(S N fun k=>at0 x k*ent A k j)%p=0:=by
 have hl:(nul c t W).length=W.length-t:=vH;constructor
 ·rintro⟨cf,cQ⟩ j hj
  rw[hl]at cQ;have e1:(S N fun k=>at0 x k*ent A k j)%p=(S N fun k=>(S (W.length-t) fun i=>cf i*ent (nul c t W) i k)*ent A k j)%p:=by grind[kL,Jq]
  have e2:(S N fun k=>(S (W.length-t) fun i=>cf i*ent (nul c t W) i k)*ent A k j)=S (W.length-t) fun i=>cf i*S N fun k=>ent W (t+i) (c+k)*ent A k j:=by
   rw[xM (g:=fun k=>S (W.length-t) fun i=>cf i*(ent W (t+i) (c+k)*ent A k j)) (fun k hk=>by rw[←zLr];exact xM (by grind[zEG])),zH2]
   grind[zC7]
  have e3:(S (W.length-t) fun i=>cf i*S N fun k=>ent W (t+i) (c+k)*ent A k j)%p=(S (W.length-t) fun _=>0)%p:=kL fun i hi=>by have h:=(zYT hp hA hW hs ht h1 h2).1 (qG (p:=p) (n:=c+N) (R:=W) (i:=t+i) (by omega)) j hj;have hz:=hW.low (t+i) (by omega) j (by grind);simp only[ent]at hz;rw[hz]at h;rw[Jq,show(S N fun k=>ent W (t+i) (c+k)*ent A k j)%p=0 from h.symm,Lb]
  rw[e1,e2,e3,qF];rfl
 ·intro h0
  let u:List Int:=mkv (c+N) fun j=>if j<c then 0 else at0 x (j-c)
  have cw:∀j,j<c→at0 u j=0:=fun j hj=>by rw[yG (by omega),if_pos hj]
  have fM:∀k,k<N→at0 u (c+k)=at0 x k:=fun k hk=>by rw[yG (by omega),if_neg (by omega),Lz]
  have hg:Gr p c N A u:=fun j hj=>by rw[cw j hj,xM (g:=fun k=>at0 x k*ent A k j) (by grind),h0 j hj];rfl
  have hx:=hW.expand ((zYT hp hA hW hs ht h1 h2).2 hg);refine⟨fun i=>at0 u (pv (t+i)),fun j hj=>?_⟩;have h3:=hx (c+j) (by omega);rw[fM j hj,zWI ht (by grind)]at h3;rw[hl,h3];exact congrArg (· %p) (xM (by grind[zEG]))
end
end Go.Pl

namespace Go.Pl
open Go Go.Ab Go.Wk Go.Pc
theorem zJO{v:List Int}(hl:v.length≤1000000):IsB (f_V v) (∀i,i<v.length→at0 v i=0):=by
 refine kS v.length (fun i=>at0 v i=0) rfl (fun i hi _=>?_) ?_
 ·refine tL (o:=i7 (at0 v i==0)) (IsB.of_bool (by simp)) (by omega) ?_
  unfold zPO;rw[xJ hi,zN,yW hi,bs,bs];rfl
 ·unfold zPO
  simp
end Go.Pl

namespace Go.Pl
open Go Go.Ab Go.Wk Go.Pc
end Go.Pl

namespace Go.Pl
open Go Go.Ab Go.Wk Go.Pc
end Go.Pl

namespace Go.Pl
open Go Go.Ab Go.Wk Go.Pc
structure Nul (p:Int) (c N:Nat) (A W:Mx) (pv:Nat→Nat) (t:Nat):Prop where
 row:∀i,i<N→Row p c (A.getD i [])
 len:A.length=N
 red:Red p (c+N) W pv
 sp:jD p (c+N) W (wd N A)
 le:t≤W.length
 lo:∀i,i<t→pv i<c
 hi:∀i,t≤i→i<W.length→c≤pv i
section
variable {p:Int} (hp:Prime p) {c N:Nat} (fu:c+N≤100000) {A W:Mx}{pv:Nat→Nat}{t:Nat}
 include hp fu
theorem Nul.get(hr:∀i,i<N→Row p c (A.getD i []))(hl:A.length=N):∃W pv t,Nul p c N A W pv t∧f_p p (wd N A)=i7 W∧f_i p (wd N A)=i7 W:=by have h7:=hp.pos;obtain⟨W,pv,r1,r2,r3,r4⟩:=zAH hp (n:=c+N) fu (rows:=wd N A) (by rw[zCC hr];omega) (fun i hi=>zR9 (by omega) hr (by rwa [zCC hr]at hi));obtain⟨t,t1,t2,t3⟩:=zWJ (by omega) hr r3;exact⟨W,pv,t,⟨hr,hl,r3,r4,t1,t2,t3⟩,r1,r2⟩
variable (h:Nul p c N A W pv t)
 include h
theorem Nul.nred:Red p N (nul c t W) (fun i=>pv (t+i)-c):=by have _:=fu;have h7:=hp.pos;exact zUk (by omega) h.row h.red h.le h.lo h.hi
theorem Nul.nsp{x:List Int}:Sp p N (nul c t W) x↔ ∀j,j<c→(S N fun k=>at0 x k*ent A k j)%p=0:=by have _:=fu;have h7:=hp.pos;exact zWK (by omega) h.row h.red h.sp h.le h.lo h.hi
theorem Nul.full:W.length=N:=by
 have h7:=hp.pos;have g1:W.length≤(wd N A).length:=zHC hp (n:=c+N) fu (by rw[zCC h.row];omega) (fun i hi=>zR9 (by omega) h.row (by rwa [zCC h.row]at hi)) h.red h.sp;rw[zCC h.row]at g1;have hl:(gl W.length fun i=>(W.getD i []).drop c).length=W.length:=vH;have hR:∀i,i<W.length→Row p N ((gl W.length fun i=>(W.getD i []).drop c).getD i []):=fun i hi=>by have hr:=h.red.row i hi;rw[xV hi];refine⟨by rw[Jz,hr.1];omega,fun j hj=>?_⟩;rw[zCB];exact hr.2 (c+j) (by omega)
 obtain⟨R3,pv3,_,_,g3,g4⟩:=zAH hp (n:=N) (by omega) (rows:=gl W.length fun i=>(W.getD i []).drop c) (by omega) (by rw[hl];exact hR);have g5:=zHC hp (n:=N) (by omega) (by omega) (by rw[hl];exact hR) g3 g4;have eT:(gl N (ur N)).length=N:=vH;have pU:∀i j,i<N→j<N→ent (gl N (ur N)) i j=if j=i then 1 else 0:=fun i j hi hj=>by rw[ent,xV hi,ur,yG hj]
 have hJ:Red p N (gl N (ur N)) (fun i=>i):=by
  refine⟨fun i hi=>?_,fun i hi=>by omega,fun i hi=>?_,fun i hi j hj=>?_,fun i k hi hk gf=>?_,fun i j gM hj=>gM⟩
  ·rw[eT]at hi
   rw[xV hi];refine⟨yA _ _,fun j hj=>?_⟩;rw[ur,yG hj];split<;>omega
  ·rw[eT]at hi
   rw[pU i i hi hi,if_pos rfl]
  ·rw[eT]at hi
   rw[pU i j hi (by omega),if_neg (by omega)]
  ·rw[eT]at hi hk
   rw[pU k i hk hi,if_neg (Ne.symm gf)]
 have g6:=hJ.le_of (by omega) g3 (fun i hi=>by rw[eT]at hi;refine g4.iff.2 ?_;obtain⟨cf,cQ⟩:=h.sp.2 i (by rw[zCC h.row];exact hi);refine⟨cf,fun j hj=>?_⟩;have h1:=cQ (c+j) (by omega);have h2:=zBu h.row hi hj;simp only[ent]at h2;rw[h2]at h1;have h3:=pU i j hi hj;simp only[ent]at h3;rw[h3,hl,←h1];exact congrArg (· %p) (xM fun k hk=>by rw[ent,xV hk,zCB]))
 omega
 omit h in
theorem zNh{N:Nat}(hN:N≤100000):f_J (N:Int)=i7 (gl N (ur N)):=by
  have _:=hp;have _:=fu;unfold f_J;rw[jE (body:=zLZ (N:Int)) N (ur N) (fun i acc hi ha=>by
    unfold zLZ;simp only
    rw[xJ hi,zN,xP (by omega),bs,vT,Ke,if_pos hi,bs,Ja,tU,jC,yT (by simp;omega),bs,zC (by omega) (by omega),bs,cs];rfl) (fun acc=>by
    unfold zLZ;simp only
    rw[uH,zS]),bs]
 omit h in
theorem zP3(hr:∀i,i<N→Row p c (A.getD i []))(hl:A.length=N):zUT p A=f_p p (wd N A):=by
  unfold zUT;rw[hl,zNh hp fu (by omega),bs,jE (body:=zMm A (gl N (ur N))) N (fun i=>A.getD i []++ur N i) (fun i acc hi ha=>by
    unfold zMm;simp only
    rw[hl,xJ hi,zN,yX [] (by omega),bs,qL (by rw[(hr i hi).1];omega),bs,zFX hi,bs,yT (by rw[(hr i hi).1,ur,yA];omega),bs,yT (by simp;omega),bs,zC (by omega) (by omega),bs,cs]) (fun acc=>by
    unfold zMm;simp only
    rw[hl,uH,zS]),bs]
  show(f_p p (wd N A)).bind _=_;cases f_p p (wd N A)<;>rfl
theorem zP4:zJ (zPU (c:Int) W) ([],0)=i7 (nul c t W):=by
 have hf:=h.full hp fu;have cO:=h.le;have:=zY (body:=zPU (c:Int) W) (r:=nul c t W) (fun i=>(gl (i-t) (fun k=>(W.getD (t+k) []).drop c),(i:Int))) W.length (fun i hi=>by
  have hr:=h.red.row i hi;have h1:=h.red.one i hi;have gD:=h.red.lt i hi;have am:=zJK (n:=c+N) hr.1 (by omega) gD (h.red.low i hi) (by simp only[ent]at h1;omega);unfold zPU;simp only
  rw[xJ hi,zN,yX [] hi,bs,am,bs];rcases Jj i t with g|g
  ·have:=h.lo i g
   rw[ib (by omega),zS,zC (by omega) (by omega),bs,cs,show i-t=0 from by omega,show i+1-t=0 from by omega]
  ·have:=h.hi i g hi
   have e:yB (W.getD i []) (c:Int) ((W.getD i []).length:Int)=i7 ((W.getD i []).drop c):=by unfold yB;rw[if_pos ⟨by omega,by rw[hr.1];omega,by omega⟩,Ja,Ja,Jr (by rw[Jz];omega)]
   rw[ic (by omega),zN,bs,e,bs,qL (by rw[Jz,hr.1];omega),bs,yT (by rw[vH];simp;omega),bs,zC (by omega) (by omega),bs,cs,show i+1-t=(i-t)+1 from by omega,←zEF,show t+(i-t)=i from by omega]) (by
  unfold zPU;simp only
  rw[uH,zS];rfl)
 rw[show 0-t=0 from by omega]at this;exact this
end
end Go.Pl

namespace Go.Pl
open Go Go.Ab Go.Wk Go.Pc
theorem zO2{β:Type}{n:Nat}{F:Nat→β}:gl (n+1) F=gl n F++[F n]:=zEF.symm
theorem zO3{β:Type}{L:Nat}{F:Nat→List β}:∀{n:Nat},(∀i,i<n→(F i).length=L)→(gl n F).flatten.length=n*L
 |0,_=>by simp[gl]
 |n+1,h=>by
  rw[zO2,Jam,J6,zO3 fun i hi=>h i (by omega),K4]
  grind
theorem zRA{β:Type}{body:List β×Int→Option ((List β×Int)⊕List β)}(n L:Nat)(F:Nat→List β)(a0:List β)(hF:∀i,i<n→(F i).length=L)
  (h:∀i acc,i<n→acc.length=a0.length+i*L→body (acc,(i:Int))=i7 (.inl (acc++F i,((i+1:Nat):Int))))(he:∀acc,body (acc,(n:Int))=i7 (.inr acc)):
  zJ body (a0,0)=i7 (a0++(gl n F).flatten):=by
 have:=zY (body:=body) (r:=a0++(gl n F).flatten) (fun i=>(a0++(gl i F).flatten,(i:Int))) n (fun i hi=>by rw[h i _ hi (by grind[zO3]),zO2,Jam,Jc];simp) (he _)
 grind
end Go.Pl

namespace Go.Pl
open Go Go.Ab Go.Wk Go.Pc
end Go.Pl

namespace Go.Pl
open Go Go.Ab Go.Wk Go.Pc
theorem zHE{α:Type}{f:α→α}{a:α}(h:f a=a):∀k,iter k f a=a
 |0=>rfl
 |k+1=>by show iter k f (f a)=a;rw[h];exact zHE h k
theorem zRB{p:Int}{D:Nat}{A:List Mx}:∀(v:Vec)(o:Nat)(B:Mx),o+v.length≤A.length→wM p D A (nw o v) B=img (PM p D) (A.drop o) v B
 | [],o,B,_=>by simp[nw,wM,img]
 |a::v,o,B,h=>by
  simp only[J7]at h;have e:A.drop o=A.getD o []::A.drop (o+1):=by grind[Uf]
  rw[e];simp only[nw,img];rw[zDa,zH6,zRB v (o+1) _ (by omega)]
theorem zCD:∀(k o:Nat),nw o (zeros k)=[]
 |0,_=>rfl
 |k+1,o=>by rw[show zeros (k+1)=0::zeros k from rfl];simp only[nw];rw[zCD k];rfl
section
variable {x:SPr}{m:zE}{D:Nat} (h:Pres x) (hm:zR1 x.zA.length m D) (hr:zDS x m D)
 include hm
 include h hr
theorem zO4:∀(d k:Nat),k+d=x.zA.length→Rel (PM m.Prime D) (idM D) (suf x k) (m.zH.drop k)
 |0,k,hk=>by rw[vO (by omega),Jau (by rw[hm.len];omega)];exact rfl
 |d+1,k,ml=>by
  have h6:=h.os.1;have hk:k<x.zA.length:=by omega
  have gj:=hm.len;have e:m.zH.drop k=m.zH.getD k []::m.zH.drop (k+1):=by simp_all
  obtain⟨t1,t2,t3⟩:=h.tl k hk;obtain⟨r1,r2⟩:=hr k hk;have bS:∀v,Exp x.zA v k→wM m.Prime D m.zH (nw 0 v) (idM D)=img (PM m.Prime D) (m.zH.drop (k+1)) (v.drop (k+1)) (idM D):=fun v hv=>by
   have hl:=hv.1.1
   conv=>lhs;rw[zAr hv hk]
   rw[zCZ,zCD,Jt,zZ,zRB _ _ _ (by grind),Jb]
  rw[yE hk,e];refine⟨?_,fun q c dd hc hd=>?_,zO4 d (k+1) (by omega)⟩
  ·grind[pw,lvl,zH6]
  ·rw[He]at hc
   have hq:k+1+q<m.zH.length:=by grind
   have aY:c=m.zH.getD (k+1+q) []:=by grind
   have pW:dd=((x.zF.getD k []).getD q []).drop (k+1):=by grind[lvl]
   have:=r2 (k+1+q) (by omega) (by omega);rw[show k+1+q-(k+1)=q from by omega]at this;rw[aY,pW,this,bS _ (t3 q (by omega))]
end
end Go.Pl

namespace Go.Pl
open Go Go.Ab Go.Wk Go.Pc
theorem zEH{p:Int}{c N:Nat}(fu:c+N≤100000){A:Mx}(hr:∀i,i<N→Row p c (A.getD i []))(hl:A.length=N):zUO A=i7 (wd N A):=by
 unfold zUO;rw[jE (body:=zMh A) N (fun i=>A.getD i []++ur N i) (fun i acc hi ha=>by
  have h1:=(hr i hi).1;have e:wP (J1 (c+N) (0:Int)) 0 ((A.getD i []).take (((J1 (c+N) (0:Int)).length)-0))=A.getD i []++J1 N 0:=by unfold wP;rw[Jf,Jr (l:=A.getD i []) (by omega),K8,Jt,h1,Ls];simp
  have e2:ixO (A.getD i []++J1 N (0:Int)) ((c+i:Nat):Int)=i7 0:=by rw[vT,J9 (by omega),h1,Ke,if_pos (by omega)]
  unfold zMh;simp only
  rw[hl,xJ hi,zN,yX [] (by omega),bs,h1,←G6,zC (by omega) (by omega),bs,xP (by omega),bs,←G6,zC (by omega) (by omega),bs,e,e2,bs,Ja,Ud _ _ (by omega),h1,Lz,tU,jC,yT (by simp;omega),bs,zC (by omega) (by omega),bs,cs];rfl) (fun acc=>by
  unfold zMh
  grind),bs]
 rfl
end Go.Pl

namespace Go.Pl
open Go Go.Ab Go.Wk Go.Pc
theorem zLB{p:Int}(hp:Prime p){n:Nat}(hn:n≤100000){R:Mx}{pv:Nat→Nat}(h:Red p n R pv):f_p p R=i7 R∧f_i p R=i7 R:=by
 have h7:=hp.pos;have hl:R.length≤n:=h.len_le;obtain⟨R2,pv2,r1,r2,r3,r4⟩:=zAH hp hn (rows:=R) (by omega) h.row;have e:=r3.unique (by omega) h r4
 grind
section
variable {p:Int} (hp:Prime p) {c N:Nat} (fu:c+N≤100000) {A W:Mx}{pv:Nat→Nat}{t:Nat}
 include hp fu
theorem zLC(h:Nul p c N A W pv t):zJ (zQa (c:Int) W) ([],0)=i7 (nul c t W):=by
 have h7:=hp.pos;have hf:=h.full hp fu;have cO:=h.le;have:=zY (body:=zQa (c:Int) W) (r:=nul c t W) (fun i=>(gl (i-t) (fun k=>(W.getD (t+k) []).drop c),(i:Int))) W.length (fun i hi=>by
  have hr:=h.red.row i hi;have h1:=h.red.one i hi;have e0:yB (W.getD i []) 0 (c:Int)=i7 ((W.getD i []).take c):=by unfold yB;rw[if_pos ⟨by omega,by omega,by rw[hr.1];omega⟩,Ja,show(0:Int).toNat=0 from rfl,U9,Jb5]
  have cx:((W.getD i []).take c).length=c:=by rw[Ka,hr.1];omega
  have hz:=zJO (v:=(W.getD i []).take c) (by omega);unfold zQa;simp only
  rw[xJ hi,zN,yX [] hi,bs,e0,bs];rcases Jj i t with g|g
  ·have ex:=h.lo i g
   rcases hz with⟨_,z⟩|⟨z,_⟩
   ·grind
   ·rw[z,bs,zS,zC (by omega) (by omega),bs,cs,show i-t=0 from by omega,show i+1-t=0 from by omega]
  ·have ft:=h.hi i g hi
   have e:yB (W.getD i []) (c:Int) ((W.getD i []).length:Int)=i7 ((W.getD i []).drop c):=by unfold yB;rw[if_pos (by grind),Ja,Ja,Jr (by rw[Jz];omega)]
   rcases hz with⟨z,_⟩|⟨_,z⟩
   ·rw[z,bs,zN,e,bs,yT (by grind),bs,zC (by omega) (by omega),bs,cs,show i+1-t=(i-t)+1 from by omega,←zEF,show t+(i-t)=i from by omega]
   ·refine absurd (fun j hj=>?_) z
    rw[cx]at hj;rw[zLA hj];have:=h.red.low i hi j (by omega);omega) (by
  unfold zQa;simp only
  rw[uH,zS];rfl)
 grind
theorem zF2(hr:∀i,i<N→Row p c (A.getD i []))(hl:A.length=N):∃K pk,f_X p A (c:Int)=i7 K∧f_H p A (c:Int)=i7 K∧Red p N K pk∧ ∀x,Sp p N K x↔ ∀j,j<c→(S N fun k=>at0 x k*ent A k j)%p=0:=by
 obtain⟨W,pv,t,h1,h2,h3⟩:=Nul.get hp fu hr hl;refine⟨nul c t W,_,?_,?_,h1.nred hp fu,fun x=>h1.nsp hp fu⟩
 ·grind[f_X,zP3,zP4]
 ·unfold f_H
  rw[zEH fu hr hl,bs,h3,bs,zLC hp fu h1,bs,(zLB hp (by omega) (h1.nred hp fu)).2,bs]
end
end Go.Pl

namespace Go.Pl
open Go Go.Ab Go.Wk Go.Pc
theorem zF3{α:Type}{F:α→List Int}{D:Nat}:∀(L:List α),(∀q∈L,(F q).length=D)→((L.map F).flatten).length=L.length*D
 | [],_=>by simp
 |y::L,h=>by
  have:=zF3 L fun q hq=>h q (by simp[hq])
  have:=h y (by simp);simp only[Jo,Lg,J6,J7,K4];omega
def zJd{α:Type}(N:Nat)(F:Nat→α→List Int)(L:List α):Mx:=gl N fun k=>(L.map (F k)).flatten
section
variable {α:Type}{p:Int}{N D:Nat}{F:Nat→α→List Int} (hF:∀k,k<N→ ∀q,Row p D (F k q))
 include hF
theorem zP5(L:List α):∀k,k<N→Row p (L.length*D) ((zJd N F L).getD k []):=by intro k hk;rw[zJd,xV hk];refine zO1.2 ⟨zF3 L fun q _=>(hF k hk q).1,fun v hv=>?_⟩;obtain⟨r,h1,h2⟩:=List.mem_flatten.1 hv;obtain⟨q,_,rfl⟩:=Jm.1 h1;exact(zO1.1 (hF k hk q)).2 v h2
end
def zNi(n D:Nat)(v:List Int):Mx:=gl n fun i=>mkv D fun j=>at0 v (i*D+j)
theorem zRC{v:List Int}{D a:Nat}(h:a+D≤v.length):(v.drop a).take D=mkv D fun j=>at0 v (a+j):=by
 have hl:((v.drop a).take D).length=D:=by rw[Ka,Jz];omega
 rw[uA hl];exact yC fun j hj=>by rw[zLA hj,zCB]
theorem zF4{v:List Int}{D a:Nat}(h:a+D≤v.length):yB v (a:Int) ((a+D:Nat):Int)=i7 (mkv D fun j=>at0 v (a+j)):=by unfold yB;rw[if_pos ⟨by omega,by omega,by omega⟩,Ja,Ja,Lz,zRC h]
theorem zWL{p:Int}{n D:Nat}{v:List Int}(hv:Row p (n*D) v):VOk n p D (zNi n D v):=by
 refine⟨vH,fun i hi=>?_⟩;rw[zNi,xV hi];refine⟨yA _ _,fun j hj=>?_⟩;rw[yG hj];have:i*D+D≤n*D:=by have:=Kd D (show i+1≤n by omega);rw[K4]at this;exact this
 exact hv.2 _ (by omega)
end Go.Pl

namespace Go.Pl
open Go Go.Ab Go.Wk Go.Pc
end Go.Pl

namespace Go.Pl
open Go Go.Ab Go.Wk Go.Pc
theorem zO5{n D i:Nat}(hi:i<n):i*D+D≤n*D:=by
 have:=Kd D (show i+1≤n by omega)
 grind
theorem zNj{n D:Nat}(hD:1≤D){v:List Int}(hl:v.length=n*D)(hs:n*D≤100000):zTo v (D:Int)=i7 (zNi n D v):=by
 have hn:n≤n*D:=Jay n hD;have:=zY (body:=zMn v (D:Int)) (r:=zNi n D v) (fun i=>(gl i fun i=>mkv D fun j=>at0 v (i*D+j),((i*D:Nat):Int))) n (fun i hi=>by
  have h1:=zO5 (D:=D) hi;unfold zMn;simp only
  rw[ic (by omega),zN,←G6,zC (by omega) (by omega),bs,zF4 (by omega),bs,zHB (by grind[yA]),bs,yT (by rw[vH];simp;omega),bs,bs,zEF,←K4]) (by
  unfold zMn;simp only
  rw[ib (by omega),zS];rfl)
 grind[zTo]
theorem zRD{n D:Nat}(hD:1≤D)(hD3:D≤1000){v:List Int}(hl:v.length=n*D)(hs:n*D≤100000):zTv v (D:Int)=i7 (zNi n D v):=by
 have hn:n≤n*D:=Jay n hD;have:=zY (body:=zMu v (D:Int)) (r:=zNi n D v) (fun i=>(gl i fun i=>mkv D fun j=>at0 v (i*D+j),((i*D:Nat):Int))) n (fun i hi=>by
  have h1:=zO5 (D:=D) hi;unfold zMu;simp only
  rw[←G6,zC (by omega) (by omega),bs,ic (by omega),zN,bs,zF4 (by omega),bs,qL (by grind[yA]),bs,yT (by rw[vH];simp;omega),bs,bs,zEF,←K4]) (by
  unfold zMu;simp only
  rw[←G6,zC (by omega) (by omega),bs,ib (by omega),zS];rfl)
 grind[zTv]
section
variable {x:SPr} (h:Pres x) {m:zE}{D:Nat} (hm:MOk x.zA.length m D)
 include h hm
section
variable {vals:Mx} (hv:VOk x.zA.length m.Prime D vals)
 include hv
theorem zNk:f_r x m vals=i7 ((wV x).map (dfc m D vals)):=by
 have h6:=h.os.1;have h7:=hm.p.pos;have h3:=hm.d3;have po:=h.pl;have gE:=h.cl;have hz:=zHA (p:=m.Prime) (D:=D) (by omega);unfold f_r;rw[hm.d,xP (by omega),bs];have e1:=jE (body:=zTx x m vals D) x.zA.length (fun i=>dfc m D vals (r1 x i)) (fun i acc hi ha=>by
  obtain⟨p1,p2⟩:=qX h.os (h.tl i hi).1;have ho:=(h.os.2 i hi).pos;unfold zTx;simp only
  rw[xJ hi,zN];rw[vQ (S:=Row m.Prime D) (body:=zTw x m vals (acc,(i:Int))) (fun v=>v) (fun v=>stp m D vals v i) (at0 x.zA i) (by omega) (by grind[zBI]) (fun u q hu hq=>by
   unfold zTw;simp only
   rw[yW hi,bs,ic hq,zN,zBt hm h6 hv hu hi,bs,zC (by omega) (by omega),bs,cs]) (fun u hu=>by
   unfold zTw;simp only
   rw[yW hi,bs,ib (by omega),zS]) hz,bs,zC (by omega) (by omega),bs,yX [] (by omega),bs,zFW hm h6 hv hz p1 p2,bs,←zMX]
  have e1:f_w m.Prime (ev m D vals (z0 D) (J1 (at0 x.zA i).toNat i)) (m.Prime-1) (ev m D vals (z0 D) (nw 0 (x.zT.getD i [])))=i7 (dfc m D vals (r1 x i)):=by rw[tJ hm.p (zDU hm h6 hv hz _) (zDU hm h6 hv hz _) (by omega) (by omega),zDT];rfl
  grind[yT,zC]) (fun acc=>by
  unfold zTx;simp)
 rw[e1,bs];have aW:=zH9 h;have e2:=zY (body:=zTz x m vals D) (r:=(wV x).map (dfc m D vals)) (fun i=>(((Jg x.zA.length).map (fun i=>dfc m D vals (r1 x i)))++((Jg i).flatMap (R2 x)).map (dfc m D vals),(i:Int))) x.zA.length (fun i hi=>by
  have t2:=(h.tl i hi).2.1;have hfi:=aW i (by omega);unfold zTz;simp only
  rw[xJ hi,zN,zC (by omega) (by omega),bs,cs];have gU:=zY (body:=zTy x m vals D (((Jg x.zA.length).map (fun i=>dfc m D vals (r1 x i)))++((Jg i).flatMap (R2 x)).map (dfc m D vals),(i:Int)))
   (r:=((Jg x.zA.length).map (fun i=>dfc m D vals (r1 x i)))++((Jg (i+1)).flatMap (R2 x)).map (dfc m D vals))
   (fun j=>(((Jg x.zA.length).map (fun i=>dfc m D vals (r1 x i)))++((Jg i).flatMap (R2 x)).map (dfc m D vals)++(Jg j).map (fun j=>dfc m D vals (r2 x i j)),((i+1+j:Nat):Int))) (x.zF.getD i []).length (fun j hj=>by
   obtain⟨c1,c2⟩:=qX h.os ((h.tl i hi).2.2 j hj);have bH:i+1+j<x.zA.length:=by omega
   have s1:=zBt hm h6 hv hz bH;have s2:=zBt hm h6 hv (zBI hm h6 hv (v:=z0 D) (w:=i+1+j)) hi;have s3:=zBt hm h6 hv hz hi;have s4:=zFW hm h6 hv (zBI hm h6 hv (v:=z0 D) (w:=i)) c1 c2;unfold zTy;simp only
   rw[xJ bH,zN,s1,bs,s2,bs,s3,bs,yX [] (by omega),bs,zC (by omega) (by omega),bs,zC (by omega) (by omega),bs,show(((i+1+j:Nat):Int)-(i:Int)-1)=(j:Int)from by omega,yX [] hj,bs,s4,bs,zC (by omega) (by omega),bs];have e2:f_w m.Prime (stp m D vals (stp m D vals (z0 D) (i+1+j)) i) (m.Prime-1) (ev m D vals (stp m D vals (z0 D) i) (nw 0 ((x.zF.getD i []).getD j [])))=i7 (dfc m D vals (r2 x i j)):=by
    rw[tJ hm.p (zBI hm h6 hv) (by grind[zDU,zBI]) (by omega) (by omega),zDT];simp only[dfc,r2,ev,G1,List.foldl_nil]
    grind
   rw[e2,bs,yT (by grind[Jh]),bs,zC (by omega) (by omega),bs,cs,Lp,L7,Jc];rfl) (by
   unfold zTy;simp only
   rw[show i+1+(x.zF.getD i []).length=x.zA.length from by omega,uH,zS,Lp (n:=i),Qk,L7,←Jc];simp[R2])
  simp_all) (by
  unfold zTz;simp only
  rw[uH,zS];simp only[wV,L7,Jaf];rfl)
 simp_all
end
def uv(n D k:Nat):Mx:=zNi n D (kN (n*D) k)
theorem zLD{k:Nat}:VOk x.zA.length m.Prime D (uv x.zA.length D k):=by have _:=h;have h7:=hm.p.pos;exact zWL (zP2 h7.1)
theorem zWM:∀k,k<x.zA.length*D→ ∀q,Row m.Prime D (dfc m D (uv x.zA.length D k) q):=fun k _ q=>by have _:=h;exact zA3 hm.p
theorem zRE{k:Nat}:zTo (kN (x.zA.length*D) k) (D:Int)=i7 (uv x.zA.length D k):=by have h6:=h.os.1;have h3:=hm.d3;have cL:x.zA.length*D≤9*3:=Jv h6 h3;exact zNj hm.d1 (yA _ _) (by omega)
theorem zWN{k:Nat}:zTv (kN (x.zA.length*D) k) (D:Int)=i7 (uv x.zA.length D k):=by have h6:=h.os.1;have h3:=hm.d3;have cL:x.zA.length*D≤9*3:=Jv h6 h3;exact zRD hm.d1 (by omega) (yA _ _) (by omega)
theorem zHF{vals:Mx}{L:List Rl}:((L.map (dfc m D vals)).flatten).length=L.length*D:=by have _:=h;have _:=hm;grind[zF3,zR2]
theorem zGg:zVb x m=i7 (zJd (x.zA.length*D) (fun k=>dfc m D (uv x.zA.length D k)) (wV x)):=by
 have h6:=h.os.1;have h3:=hm.d3;have cL:x.zA.length*D≤9*3:=Jv h6 h3;have fU:=zGp h hm (zLD h hm (k:=0));have hrD:(wV x).length*D≤100*3:=Jv fU h3;unfold zVb;rw[hm.d,←La,zC (by omega) (by omega),bs];rw[jE (body:=zMw x m ((x.zA.length*D:Nat):Int)) (x.zA.length*D) (fun k=>((wV x).map (dfc m D (uv x.zA.length D k))).flatten) (fun k acc hk ha=>by
  unfold zMw;simp only
  rw[xJ hk,zN,zGf hk (by omega),bs,hm.d,zRE h hm,bs,zJI h hm (zLD h hm (k:=k)),bs,zCA (by simp;omega) (by rw[zHF h hm];omega),bs,yT (by simp;omega),bs,zC (by omega) (by omega),bs,cs]) (fun acc=>by
  unfold zMw;simp),bs]
 rfl
theorem zP6{k N:Nat}:(J1 N (0:Int)).set k 1=kN N k:=by have _:=h;have _:=hm;rw[tU,jC,kN]
theorem zLE:zVa x m=i7 (zJd (x.zA.length*D) (fun k=>dfc m D (uv x.zA.length D k)) (wV x)):=by
 have h6:=h.os.1;have h3:=hm.d3;have cL:x.zA.length*D≤9*3:=Jv h6 h3;have fU:=zGp h hm (zLD h hm (k:=0));have hrD:(wV x).length*D≤100*3:=Jv fU h3;unfold zVa;rw[hm.d,←La,zC (by omega) (by omega),bs];rw[jE (body:=zMv x m ((x.zA.length*D:Nat):Int)) (x.zA.length*D) (fun k=>((wV x).map (dfc m D (uv x.zA.length D k))).flatten) (fun k acc hk ha=>by
  unfold zMv;simp only
  rw[xJ hk,zN,xP (by omega),bs,vT,Ke,if_pos hk,bs,Ja,zP6 h hm,hm.d,zWN h hm,bs,zNk h hm (zLD h hm (k:=k)),bs,zP1 (by simp;omega) (by rw[zHF h hm];omega),bs,yT (by simp;omega),bs,zC (by omega) (by omega),bs,cs]) (fun acc=>by
  unfold zMv;simp),bs]
 rfl
end
end Go.Pl

namespace Go.Pl
open Go Go.Ab Go.Wk Go.Pc
end Go.Pl

namespace Go.Pl
open Go Go.Ab Go.Wk Go.Pc
end Go.Pl

namespace Go.Pl
open Go Go.Ab Go.Wk Go.Pc
theorem zHG{N c:Nat}{f:Nat→Int}:(mkv N f).drop c=mkv (N-c) fun i=>f (c+i):=by
 have hl:((mkv N f).drop c).length=N-c:=by rw[Jz,yA]
 grind[uA,yC,zCB,yG]
theorem kO{n j:Nat}:xI n j=mkv n fun i=>if i=j then 1 else 0:=by rw[xI,show zeros n=J1 n (0:Int)from rfl,tU,jC]
theorem tW{n i:Nat}:at0 (zeros n) i=0:=by
 rcases Jj i n with g|g
 ·simp[zeros,at0,J2,g]
 ·simp[zeros,at0,J2,g]
structure ExB (n D:Nat) (x:SPr) (m:zE) (T:Mx):Prop where
 hn:n≤6
 o:x.zA.length=n
 p:x.zT.length=n
 c:x.zF.length=n
 cl:∀i,i<n→(x.zF.getD i []).length=n-1-i
 t:T.length=base n n
 m:zR1 n m D
section
variable {D:Nat}{x:SPr}{m:zE}{T:Mx} (h:Pres x) (hE:ExB x.zA.length D x m T) (hT:∀i,i<T.length→Row m.Prime D (T.getD i []))
 include h hE hT
abbrev exx(D:Nat)(x:SPr)(m:zE)(T:Mx):SPr:=ext x.zA.length D x m T
theorem wH:(exx D x m T).zA.length=x.zA.length+D:=by have _:=h;have _:=hE;have _:=hT;simp[exx,ext]
theorem uZ{i:Nat}(hi:i<x.zA.length):at0 (exx D x m T).zA i=at0 x.zA i:=by
 have _:=h;have _:=hE;have _:=hT;show at0 (x.zA++J1 D m.Prime) i=_
 grind
theorem zBL{i:Nat}(hi:x.zA.length≤i)(h2:i<x.zA.length+D):at0 (exx D x m T).zA i=m.Prime:=by
 have _:=h;have _:=hE;have _:=hT;show at0 (x.zA++J1 D m.Prime) i=_
 grind
theorem zNl{v t:List Int}{i:Nat}(hv:v.length=x.zA.length)(hr:∀j,j<x.zA.length→0≤at0 v j∧at0 v j≤at0 x.zA j-1)(hz:∀j,j≤i→j<x.zA.length→at0 v j=0)(ht:Row m.Prime D t)(hi:i<x.zA.length):Exp (exx D x m T).zA (v++t) i:=by
 have hl:=wH h hE hT;refine⟨⟨by rw[J6,hv,ht.1,hl],fun j hj=>?_⟩,fun j hj=>?_⟩
 ·rw[J6,hv,ht.1]at hj
  rw[zJM,hv];split
  ·grind[uZ]
  ·next g=>rw[zBL h hE hT (by omega) hj];exact ht.2 _ (by omega)
 grind
theorem zLF(i:Nat)(hi:i<base x.zA.length x.zA.length):Row m.Prime D (T.getD i []):=by have _:=h;exact hT i (by rw[hE.t];exact hi)
theorem zGs:zFT (exx D x m T):=by
 have hn:=hE.hn;have h3:=hE.m.d3;have h7:=hE.m.p.pos;have hl:=wH h hE hT;have hb:=uC x.zA.length (by omega);refine⟨⟨trivial,fun i hi=>?_⟩,by rw[hl];exact vH,by rw[hl];exact vH,fun i hi=>?_⟩
 ·rw[hl]at hi
  rcases Jj i x.zA.length with g|g
  ·rw[uZ h hE hT g];exact h.os.2 i g
  ·rw[zBL h hE hT g hi];exact hE.m.p
 ·rw[hl]at hi
  have hP:(exx D x m T).zT.getD i []=exP x.zA.length D x T i:=xV hi;have hC:(exx D x m T).zF.getD i []=exC x.zA.length D x m T i:=by
   show(gl (x.zA.length+D) (exC x.zA.length D x m T)).getD i []=_
   grind
  refine⟨?_,?_,?_⟩
  ·rw[hP,exP]
   rcases Jj i x.zA.length with g|g
   ·rw[if_pos g]
    obtain⟨t1,_,_⟩:=h.tl i g;exact zNl h hE hT t1.1.1 (fun j hj=>t1.1.2 j (by rw[t1.1.1];exact hj)) (fun j hj _=>t1.2 j hj) (by grind[zLF]) g
   ·rw[if_neg (by omega)]
    have hz:∀j,at0 (J1 (x.zA.length+D) (0:Int)) j=0:=fun j=>tW
    refine⟨⟨by grind,fun j hj=>?_⟩,fun j _=>hz j⟩;rw[Jf]at hj;rw[hz];rcases Jj j x.zA.length with g2|g2
    ·rw[uZ h hE hT g2];have:=(h.os.2 j g2).pos;omega
    grind[zBL]
  ·grind[exC,unC]
  ·rw[hC,exC]
   split
   ·next g=>
    intro j hj;rw[vH]at hj;rw[xV hj,exF];split
    ·next g2=>
     have gE:=hE.cl i g;have cG:=zBK x.zA.length (by omega) i g;obtain⟨_,_,t3⟩:=h.tl i g;have t:=t3 j (by omega);exact zNl h hE hT t.1.1 (fun q hq=>t.1.2 q (by rw[t.1.1];exact hq)) (fun q hq _=>t.2 q hq) (by grind[zLF]) g
    ·next g2=>
     have hz:∀j,at0 (J1 x.zA.length (0:Int)) j=0:=fun j=>tW
     refine zNl h hE hT (by simp) (fun q hq=>?_) (fun q _ _=>hz q) ((hE.m.mat i g).2 _ (by omega)) g;rw[hz];have:=(h.os.2 q hq).pos;omega
   ·next g=>
    intro j hj;rw[unC,vH]at hj;rw[unC,xV hj];refine⟨⟨by rw[hl];exact yA _ _,fun q hq=>?_⟩,fun q hq=>?_⟩
    ·rw[kN,yA]at hq
     rw[kN,yG hq];rcases Jj q x.zA.length with g2|g2
     ·rw[uZ h hE hT g2];have:=(h.os.2 q g2).pos;omega
     grind[zBL]
    ·rw[kN,yG (by omega),if_neg (by omega)]
theorem zBv{k:Nat}(hk:k<x.zA.length):(lvl (exx D x m T) k).o=at0 x.zA k:=uZ h hE hT hk
theorem zHH{k:Nat}(hk:k<x.zA.length):(lvl (exx D x m T) k).w=(lvl x k).w++T.getD k []:=by have t1:=(h.tl k hk).1.1.1;have _:=hE;have _:=hT;show((exx D x m T).zT.getD k []).drop (k+1)=_;have hP:(exx D x m T).zT.getD k []=exP x.zA.length D x T k:=xV (by omega);rw[hP,exP,if_pos hk,Kn (by omega)];rfl
def eC1(x:SPr)(T:Mx)(k:Nat):List Vec:=gl (x.zA.length-1-k) fun j=>(lvl x k).cs.getD j []++T.getD (base x.zA.length k+j) []
def eC2(x:SPr)(m:zE)(D k:Nat):List Vec:=((gl D fun j=>(m.zH.getD k []).getD j []).map fun r=>zeros (x.zA.length-1-k)++r)
theorem zBM{k:Nat}(hk:k<x.zA.length):(lvl (exx D x m T) k).cs=eC1 x T k++eC2 x m D k:=by
 have gE:=hE.cl k hk;have _:=hT;show((exx D x m T).zF.getD k []).map (·.drop (k+1))=_;have hC:(exx D x m T).zF.getD k []=exC x.zA.length D x m T k:=by
  show(gl (x.zA.length+D) (exC x.zA.length D x m T)).getD k []=_
  grind
 rw[hC,exC,if_pos hk];apply Kv;intro j
 by_cases hj:j<x.zA.length+D-1-k
 ·have e1:((gl (x.zA.length+D-1-k) (exF x.zA.length x m T k)).map (·.drop (k+1)))[j]? =i7 ((exF x.zA.length x m T k j).drop (k+1)):=by grind
  rw[e1,exF]
  by_cases g:j<x.zA.length-1-k
  ·rw[if_pos g,Ju (by grind[eC1])]
   have t:=(h.tl k hk).2.2 j (by omega);rw[Kn (by have:=t.1.1;omega)];have e2:(eC1 x T k)[j]? =i7 ((lvl x k).cs.getD j []++T.getD (base x.zA.length k+j) []):=by simp[eC1,gl,g]
   rw[e2]
   congr 2
   simp only[lvl,J2,K0]
   grind
  ·rw[if_neg g,J9 (by grind[eC1]),eC1,vH]
   have e2:(eC2 x m D k)[j-(x.zA.length-1-k)]? =i7 (zeros (x.zA.length-1-k)++(m.zH.getD k []).getD (j-(x.zA.length-1-k)) []):=by simp[eC2,gl,show j-(x.zA.length-1-k)<D by omega]
   rw[e2,Kn (by simp;omega),Ls,show x.zA.length-(k+1)=x.zA.length-1-k from by omega];rfl
 ·rw[K6 (by grind),K6 (by simp[eC1,eC2,gl];omega)]
end
def tlv(p:Int):Nat→Pcp
 |0=>[]
 |d+1=>⟨p,zeros d,wK d⟩::tlv p d
theorem zGt{p:Int}:∀d,(tlv p d).length=d
 |0=>rfl
 |d+1=>by simp[tlv,zGt d]
theorem zD5{p:Int}:∀(d:Nat)(v:Vec),V (tlv p d) v↔Row p d v
 |0,v=>by
  constructor
  ·intro h
   obtain rfl:v=[]:=h;exact⟨rfl,fun i hi=>by omega⟩
  ·intro h
   have:=Ll h.1;subst this;exact rfl
 |d+1,v=>by
  cases v with
  |nil=>exact⟨fun h=>h.elim,fun h=>by have:=h.1;grind⟩
  |cons a v=>
   show((0≤a∧a<p)∧V (tlv p d) v)↔_;rw[zD5 d v];constructor
   ·rintro⟨⟨h0,h1⟩,h2⟩
    refine⟨by simp[h2.1],fun i hi=>?_⟩;cases i with
    |zero=>grind
    |succ i=>have:=h2.2 i (by omega);grind
   ·intro h
    have h0:=h.2 0 (by omega);simp only[at0,Hf]at h0;refine⟨⟨h0.1,by omega⟩,by have:=h.1;grind,fun i hi=>?_⟩;have:=h.2 (i+1) (by omega)
    grind
abbrev adv(p:Int)(D:Nat)(u v:List Int):List Int:=mkv D fun j=>(at0 u j+at0 v j)%p
theorem sZ{p:Int}{D:Nat}{u v:List Int}(hp:0<p):Row p D (adv p D u v):=by refine⟨yA _ _,fun j hj=>?_⟩;rw[yG hj];have e1:=Kx (at0 u j+at0 v j) (show p≠0 by omega);have e2:=Kg (at0 u j+at0 v j) hp;omega
theorem zHI{p:Int}{D:Nat}{c:List Int}(hp:0<p):∀(k:Nat)(acc:List Int),Row p D acc→iter k (fun w=>adv p D w c) acc=mkv D fun j=>(at0 acc j+(k:Int)*at0 c j)%p
 |0,acc,ha=>by
  show acc=_
  conv=>lhs;rw[uA ha.1]
  refine yC fun j hj=>?_
  have:=ha.2 j hj;rw[Int.natCast_zero,Qh,Ly,K5 this.1 (by omega)]
 |k+1,acc,ha=>by
  show iter k (fun w=>adv p D w c) (adv p D acc c)=_;rw[zHI hp k _ (sZ hp)];refine yC fun j hj=>?_
  grind[yG,Kc,Jy]
theorem zWO{f:Nat→Int}{n:Nat}:S (n+1) f=f 0+S n fun i=>f (i+1):=by
 rw[Nat.add_comm,zGr 1 n];simp only[S]
 grind
theorem zGu{p:Int}{D:Nat}(hp:0<p):∀(cs:List Vec)(v acc:Vec),v.length=cs.length→(∀i,i<v.length→0≤at0 v i)→Row p D acc→img (adv p D) cs v acc=mkv D fun j=>(at0 acc j+S cs.length fun k=>at0 v k*ent cs k j)%p
 | [],v,acc,hl,_,ha=>by
  show acc=_
  conv=>lhs;rw[uA ha.1]
  refine yC fun j hj=>?_
  have:=ha.2 j hj;simp only[Jx,S];rw[Ly,K5 this.1 (by omega)]
 |c::cs,[],acc,hl,_,_=>by simp at hl
 |c::cs,a::v,acc,hl,hv,ha=>by
  have h0:=hv 0 (by simp);simp only[at0,Hf]at h0;have fD:Row p D (iter a.toNat (fun w=>adv p D w c) acc):=vL (S:=Row p D) (fun _ _=>sZ hp) _ ha;show img (adv p D) cs v (iter a.toNat (fun w=>adv p D w c) acc)=_;rw[zGu hp cs v _ (by grind) (fun i hi=>by have:=hv (i+1) (by grind);grind) fD,zHI hp _ _ ha];refine yC fun j hj=>?_
  rw[yG hj,J7,zWO,Kc,Jy,←Kc,Jcs h0,Int.add_assoc];rfl
theorem zDe{α:Type}{S:α→Prop}{m m':α→α→α}(hm:∀a b,S a→S b→m a b=m' a b)(hc:∀a b,S a→S b→S (m' a b)):∀(cs:List α)(v:Vec)(acc:α),(∀c∈cs,S c)→S acc→img m cs v acc=img m' cs v acc
 | [],_,_,_,_=>by simp[img]
 |c::cs,[],_,_,_=>by simp[img]
 |c::cs,a::v,acc,h1,h2=>by
  have pZ:=h1 c (by simp);have e:∀k acc,S acc→iter k (fun w=>m w c) acc=iter k (fun w=>m' w c) acc∧S (iter k (fun w=>m' w c) acc):=by
   intro k
   induction k with
   |zero=>intro acc ha;exact⟨rfl,ha⟩
   |succ k ih=>
    intro acc ha;show iter k (fun w=>m w c) (m acc c)=iter k (fun w=>m' w c) (m' acc c)∧_;rw[hm acc c ha pZ];exact ih _ (hc _ _ ha pZ)
  show img m cs v (iter a.toNat (fun w=>m w c) acc)=img m' cs v (iter a.toNat (fun w=>m' w c) acc);rw[(e _ _ h2).1];exact zDe hm hc cs v _ (by grind) (e _ _ h2).2
theorem zDf{d k j:Nat}(hk:k<d)(hj:j<d):ent (wK d) k j=if j=k then 1 else 0:=by
 have e:(wK d).getD k []=xI d k:=by grind[wK]
 rw[ent,e,kO,yG hj]
theorem xK{p:Int}{D:Nat}(hp:0<p):Row p D (zeros D):=zHA hp
theorem qP{p:Int}(hp:2≤p):∀(d:Nat)(u v:Vec),Row p d u→Row p d v→mul (tlv p d) u v=adv p d u v
 |0,u,v,hu,_=>by rfl
 |d+1,u,v,hu,hv=>by
  have ih:=qP hp d;have t8:=(zD5 (d+1) u).2 hu;have m9:=(zD5 (d+1) v).2 hv;cases u with
  |nil=>exact t8.elim
  |cons a u=>
   cases v with
   |nil=>exact m9.elim
   |cons b v=>
    obtain⟨⟨a0,a1⟩,fM⟩:=t8;obtain⟨⟨b0,b1⟩,fQ⟩:=m9;have hu3:=(zD5 d u).1 fM;have f7:=(zD5 d v).1 fQ;change a<p at a1;change b<p at b1;have ej:∀w,Row p d w→sig (tlv p d) ⟨p,zeros d,wK d⟩ w=w:=fun w hw=>by
     have df:∀c∈wK d,Row p d c:=fun c hc=>by obtain⟨k,hk,rfl⟩:=Jm.1 hc;rw[kO];exact⟨yA _ _,by grind[yG]⟩
     unfold sig;rw[zGt,zDe (S:=Row p d) (m':=adv p d) (by omega) (fun _ _ _ _=>sZ (by omega)) (wK d) w _ df (xK (by omega)),zGu (by omega) (wK d) w _ (by rw[hw.1];simp[wK]) (fun i hi=>(hw.2 i (by rw[←hw.1];exact hi)).1) (xK (by omega))]
     conv=>rhs;rw[uA hw.1]
     refine yC fun j hj=>?_
     have eT:(wK d).length=d:=by simp[wK]
     have:=hw.2 j hj;rw[eT,tW,Lo,zAd (k:=j) hj (fun k hk gf=>by rw[zDf hk hj,if_neg (Ne.symm gf),Lb]),zDf hj hj,if_pos rfl,Lt,K5 this.1 (by omega)]
    have ef:∀k,iter k (sig (tlv p d) ⟨p,zeros d,wK d⟩) u=u:=by grind[zHE]
    show mul (⟨p,zeros d,wK d⟩::tlv p d) (a::u) (b::v)=_;rw[yY,ef,ih u v hu3 f7];have hz:adv p d (zeros d) (adv p d u v)=adv p d u v:=by
     refine yC fun j hj=>?_
     rw[yG hj,tW,Lo,Jy]
    rw[ih _ _ (xK (by omega)) (sZ (by omega)),hz];have aC:adv p (d+1) (a::u) (b::v)=(a+b)%p::adv p d u v:=by
     simp only[adv,mkv,Jaq,Jo,Jaf]
     congr 1
    rw[aC];split
    ·next g=>
     have g:a+b≥p:=g;have e:(a+b)%p=a+b-p:=by rw[show a+b=(a+b-p)+p from by omega,U0,K5 (by omega) (by omega)];omega
     grind
    ·next g=>
     have g:¬a+b≥p:=g
     congr 1
     exact(K5 (by omega) (by omega)).symm
end Go.Pl

namespace Go.Pl
open Go Go.Ab Go.Wk Go.Pc
theorem zO6{α:Type}{m:α→α→α}:∀(c1:List α)(y:Vec)(c2:List α)(u:Vec)(acc:α),c1.length=y.length→img m (c1++c2) (y++u) acc=img m c2 u (img m c1 y acc)
 | [],[],_,_,_,_=>by rfl
 | [],_::_,_,_,_,h=>by simp at h
 |_::_,[],_,_,_,h=>by simp at h
 |c::c1,a::y,c2,u,acc,h=>zO6 c1 y c2 u _ (by grind)
theorem zEI{α β:Type}{S:α→Prop}{m:α→α→α}{n:β→β→β}(φ:α→β)(hS:∀a b,S a→S b→S (m a b))(hm:∀a b,S a→S b→φ (m a b)=n (φ a) (φ b)):∀(cs:List α)(v:Vec)(a:α),(∀c∈cs,S c)→S a→φ (img m cs v a)=img n (cs.map φ) v (φ a)
 | [],v,a,_,_=>by rfl
 |_::_,[],_,_,_=>rfl
 |c::cs,t::v,a,hc,ha=>by
  have pZ:=hc c (by simp);have e:∀k a,S a→φ (iter k (fun w=>m w c) a)=iter k (fun w=>n w (φ c)) (φ a)∧S (iter k (fun w=>m w c) a):=by
   intro k
   induction k with
   |zero=>intro a ha;exact⟨rfl,ha⟩
   |succ k ih=>
    intro a ha;have:=ih (m a c) (hS _ _ ha pZ);rw[hm a c ha pZ]at this;exact this
  show φ (img m cs v (iter t.toNat (fun w=>m w c) a))=img n (cs.map φ) v (iter t.toNat (fun w=>n w (φ c)) (φ a));rw[←(e _ a ha).1];exact zEI φ hS hm cs v _ (by grind) (e _ a ha).2
theorem jF{p:Int}{D:Nat}{r:List Int}(hr:Row p D r):wA p D r (idM D)=r:=by
 conv=>rhs;rw[uA hr.1]
 refine yC fun j hj=>?_
 have:=hr.2 j hj;have e:∀l,l<D→ent (idM D) l j=if j=l then 1 else 0:=fun l hl=>by rw[ent,zCY hl,yG hj]
 rw[zAd (k:=j) hj (by grind),e j hj,if_pos rfl,Lt,sX this]
theorem zEJ{p:Int}{D:Nat}{r:List Int}{A B:Mx}(hA:A.length=D):wA p D (wA p D r A) B=wA p D r (PM p D A B):=by
 refine yC fun j hj=>?_
 have e1:S D (fun l=>at0 (wA p D r A) l*ent B l j)%p=S D (fun l=>S D (fun i=>at0 r i*ent A i l)*ent B l j)%p:=kL (by grind[wA,yG,Jq,Jy]);have e2:S D (fun l=>at0 r l*ent (PM p D A B) l j)%p=S D (fun i=>at0 r i*S D (fun l=>ent A i l*ent B l j))%p:=kL (by grind[zMU,Jq,Jy]);rw[e1,e2]
 congr 1
 have e3:S D (fun l=>S D (fun i=>at0 r i*ent A i l)*ent B l j)=S D (fun l=>S D (fun i=>at0 r i*ent A i l*ent B l j)):=xM (by grind[zLr]);rw[e3,zH2];refine xM fun i _=>?_
 rw[←zC7];exact xM (by grind)
theorem vR{p:Int}{D:Nat}{v:List Int}(hv:Row p D v):adv p D (zeros D) v=v:=by
 conv=>rhs;rw[uA hv.1]
 refine yC fun j hj=>?_
 rw[tW,Lo,sX (hv.2 j hj)]
theorem zA4{p:Int}{D:Nat}{v:List Int}(hv:Row p D v):adv p D v (zeros D)=v:=by
 conv=>rhs;rw[uA hv.1]
 refine yC fun j hj=>?_
 rw[tW,Ly,sX (hv.2 j hj)]
theorem zRF{p:Int}{D:Nat}{acc v:List Int}{A:Mx}(hl:A.length=D):(mkv D fun j=>(at0 acc j+S A.length fun k=>at0 v k*ent A k j)%p)=adv p D acc (wA p D v A):=by grind[yC,wA,yG,Jbc]
theorem tE{p:Int}{D:Nat}{u v:List Int}:adv p D u v=adv p D v u:=by grind
theorem zUl{p:Int}{D:Nat}{u v w:List Int}(hv:Row p D v)(hw:Row p D w):adv p D u v=adv p D u w↔v=w:=by
 constructor
 ·intro h
  rw[uA hv.1,uA hw.1];refine yC fun j hj=>?_
  have e:at0 (adv p D u v) j=at0 (adv p D u w) j:=by rw[h]
  rw[adv,adv,yG hj,yG hj]at e;have h1:=hv.2 j hj;have h2:=hw.2 j hj;have h3:=Jao (at0 u j+at0 v j) (Jcb p);have e4:(at0 u j+at0 v j-at0 u j)%p=(at0 u j+at0 w j-at0 u j)%p:=by rw[Qy,e,←Qy]
  rw[show at0 u j+at0 v j-at0 u j=at0 v j from by omega,show at0 u j+at0 w j-at0 u j=at0 w j from by omega,sX h1,sX h2]at e4;exact e4
 grind
section
variable {D:Nat}{x:SPr}{m:zE}{T:Mx} (h:Pres x) (hE:ExB x.zA.length D x m T) (hT:∀i,i<T.length→Row m.Prime D (T.getD i []))
 include h hE hT
theorem zAo:∀(d k:Nat),x.zA.length≤k→k+d=x.zA.length+D→suf (exx D x m T) k=tlv m.Prime d
 |0,k,hk,hd=>by rw[vO (by grind[wH])];rfl
 |d+1,k,hk,hd=>by
  have hl:=wH h hE hT;rw[yE (by omega),zAo d (k+1) (by omega) (by omega),tlv]
  congr 1
  have hP:(exx D x m T).zT.getD k []=exP x.zA.length D x T k:=xV (by omega);have hC:(exx D x m T).zF.getD k []=exC x.zA.length D x m T k:=by
   show(gl (x.zA.length+D) (exC x.zA.length D x m T)).getD k []=_
   grind
  unfold lvl;rw[hP,hC,exP,exC,if_neg (by omega),if_neg (by omega),zBL h hE hT hk (by omega),Ls,show x.zA.length+D-(k+1)=d from by omega]
  congr 1
  rw[unC,wK,gl,Jaf,show x.zA.length+D-1-k=d from by omega];refine Q9 fun j hj=>?_
  have hj:=Kq.1 hj;show(kN (x.zA.length+D) (k+1+j)).drop (k+1)=xI d j;rw[kN,zHG,kO,show x.zA.length+D-(k+1)=d from by omega];simp
theorem sD:∀(d k:Nat),k+d=x.zA.length→ ∀v,V (suf (exx D x m T) k) v↔ ∃y u,v=y++u∧V (suf x k) y∧Row m.Prime D u
 |0,k,hk,v=>by
  rw[zAo h hE hT D k (by omega) (by omega),zD5,vO (x:=x) (k:=k) (by omega)];constructor
  ·intro g;exact⟨[],v,rfl,rfl,g⟩
  ·rintro⟨y,u,rfl,hy,hu⟩
   obtain rfl:y=[]:=hy;exact hu
 |d+1,k,hk,v=>by
  have hl:=wH h hE hT;have ih:=sD d (k+1) (by omega);rw[yE (x:=exx D x m T) (by omega),yE (x:=x) (by omega)];cases v with
  |nil=>
   refine⟨fun g=>g.elim,?_⟩
   rintro⟨y,u,e,hy,hu⟩
   cases y with
   |nil=>exact hy.elim
   |cons a y=>simp at e
  |cons a v=>
   show((0≤a∧a<(lvl (exx D x m T) k).o)∧V (suf (exx D x m T) (k+1)) v)↔_;rw[zBv h hE hT (by omega),ih v];constructor
   ·rintro⟨g,y,u,rfl,hy,hu⟩
    exact⟨a::y,u,rfl,⟨g,hy⟩,hu⟩
   ·rintro⟨y,u,e,hy,hu⟩
    cases y with
    |nil=>exact hy.elim
    |cons b y=>
     simp only[K1,Qv.injEq]at e;obtain⟨rfl,rfl⟩:=e;exact⟨hy.1,y,u,rfl,hy.2,hu⟩
theorem zEK:∀(d k:Nat),k+d=x.zA.length→ ∀y u r,V (suf x k) y→Row m.Prime D u→Row m.Prime D r→mul (suf (exx D x m T) k) (y++u) (zeros d++r)=y++adv m.Prime D u r
 |0,k,hk,y,u,r,hy,hu,hr=>by have hp:=hE.m.p.pos;rw[vO (x:=x) (k:=k) (by omega)]at hy;obtain rfl:y=[]:=hy;rw[zAo h hE hT D k (by omega) (by omega)];exact qP (by omega) D u r hu hr
 |d+1,k,hk,y,u,r,hy,hu,hr=>by
  have hl:=wH h hE hT;rw[yE (x:=x) (by omega)]at hy;cases y with
  |nil=>exact hy.elim
  |cons a y=>
   obtain⟨⟨a0,a1⟩,hy⟩:=hy;change a<at0 x.zA k at a1;rw[yE (x:=exx D x m T) (by omega)];show mul _ (a::(y++u)) (0::(zeros d++r))=_;rw[yY,zBv h hE hT (by omega),if_neg (by omega)];show(a+0)::mul _ (y++u) (zeros d++r)=_;rw[zEK d (k+1) (by omega) y u r hy hu hr,Ly];rfl
theorem vW{k:Nat}(hk:k≤x.zA.length+D):Pc.Ok (suf (exx D x m T) k):=(zGs h hE hT).okAt (by grind[wH])
theorem zNm{d k:Nat}(hk:k+d=x.zA.length):∀(rs:List Vec)(v:Vec)(y u:Vec),(∀r∈rs,Row m.Prime D r)→V (suf x k) y→Row m.Prime D u→img (mul (suf (exx D x m T) k)) (rs.map fun r=>zeros d++r) v (y++u)=y++img (adv m.Prime D) rs v u
 | [],v,y,u,_,_,_=>by rfl
 |_::_,[],_,_,_,_,_=>rfl
 |c::rs,t::v,y,u,hr,hy,hu=>by
  have hp:=hE.m.p.pos;have hc:=hr c (by simp);have e:∀q u,Row m.Prime D u→iter q (fun w=>mul (suf (exx D x m T) k) w (zeros d++c)) (y++u)=y++iter q (fun w=>adv m.Prime D w c) u:=by
   intro q
   induction q with
   |zero=>intro u _;rfl
   |succ q ih=>
    intro u hu;show iter q _ (mul _ (y++u) (zeros d++c))=_;rw[zEK h hE hT d k hk y u c hy hu hc,ih _ (sZ (by omega))];rfl
  show img _ (rs.map fun r=>zeros d++r) v (iter t.toNat (fun w=>mul (suf (exx D x m T) k) w (zeros d++c)) (y++u))=_;rw[e _ _ hu,zNm hk rs v y _ (by grind) hy (vL (S:=Row m.Prime D) (fun _ _=>sZ (by omega)) _ hu)];rfl
theorem zWP{k:Nat}(hk:k<x.zA.length):(gl D fun j=>(m.zH.getD k []).getD j [])=m.zH.getD k []:=by
 have _:=h;have _:=hT;have hl:=(hE.m.mat k hk).1;apply Kv
 grind
def sgG(D:Nat)(x:SPr)(m:zE)(T:Mx)(k:Nat)(y:Vec):Vec:=img (mul (suf (exx D x m T) (k+1))) (eC1 x T k) y (zeros (suf (exx D x m T) (k+1)).length)
theorem tO{k:Nat}:(eC1 x T k).length=x.zA.length-1-k:=by have _:=h;have _:=hE;have _:=hT;grind[eC1]
theorem zO7{k:Nat}(hk:k<x.zA.length):∀c∈eC1 x T k,V (suf (exx D x m T) (k+1)) c:=by intro c hc;have ok:=vW h hE hT (k:=k) (by omega);rw[yE (by grind[wH])]at ok;exact ok.2.2.2.1 c (by grind[zBM])
theorem zAX{k:Nat}(hk:k≤x.zA.length):zeros (suf (exx D x m T) k).length=zeros (x.zA.length-k)++zeros D:=by grind[yN,wH,zeros,Jk]
theorem zHJ{k:Nat}(hk:k<x.zA.length){y:Vec}:V (suf (exx D x m T) (k+1)) (sgG D x m T k y):=by have ok:=vW h hE hT (k:=k+1) (by omega);exact qO (xE ok) _ _ (zO7 h hE hT hk) (wO ok)
theorem zBN{k:Nat}(hk:k<x.zA.length){y u:Vec}(hy:V (suf x (k+1)) y)(hu:Row m.Prime D u):
  sig (suf (exx D x m T) (k+1)) (lvl (exx D x m T) k) (y++u)=(sgG D x m T k y).take (x.zA.length-(k+1))++adv m.Prime D ((sgG D x m T k y).drop (x.zA.length-(k+1))) (wA m.Prime D u (m.zH.getD k [])):=by
 have hp:=hE.m.p.pos;have hA:=hE.m.mat k hk;have er:=wY h (by omega) hy;unfold sig;rw[zBM h hE hT hk,zO6 _ _ _ _ _ (by grind[tO])];show img _ (eC2 x m D k) u (sgG D x m T k y)=_;obtain⟨y1,u1,e,ff,cw⟩:=(sD h hE hT (x.zA.length-(k+1)) (k+1) (by omega) _).1 (zHJ h hE hT hk (y:=y));have gK:=wY h (by omega) ff;rw[e,eC2,zWP h hE hT hk,show x.zA.length-1-k=x.zA.length-(k+1)from by omega,zNm h hE hT (by omega) _ _ _ _ (fun r hr=>?_) ff cw,zGu (by omega) _ _ _ (by rw[hA.1,hu.1]) (fun i hi=>(hu.2 i (by rw[←hu.1];exact hi)).1) cw,zRF hA.1,Js gK,K3 gK];obtain⟨j,hj,rfl⟩:=L6.1 hr;have fK:=hA.1;have:=hA.2 j (by omega)
 grind
theorem zGv{k:Nat}(hk:k<x.zA.length){u:Vec}(hu:Row m.Prime D u):
  sig (suf (exx D x m T) (k+1)) (lvl (exx D x m T) k) (zeros (x.zA.length-(k+1))++u)=zeros (x.zA.length-(k+1))++wA m.Prime D u (m.zH.getD k []):=by
 have hp:=hE.m.p.pos;have ok:=h.okAt (k:=k+1) (by omega);have hz:=wO ok;rw[yN]at hz;have e:sgG D x m T k (zeros (x.zA.length-(k+1)))=zeros (x.zA.length-(k+1))++zeros D:=by grind[sgG,sW,zAX]
 rw[zBN h hE hT hk hz hu,e,Js (zZ _),K3 (zZ _),vR (wX (by omega))]
theorem zHK{k:Nat}(hk:k<x.zA.length):∀(q:Nat){u:Vec},Row m.Prime D u→
  iter q (sig (suf (exx D x m T) (k+1)) (lvl (exx D x m T) k)) (zeros (x.zA.length-(k+1))++u)=zeros (x.zA.length-(k+1))++iter q (fun u=>wA m.Prime D u (m.zH.getD k [])) u
 |0,u,_=>rfl
 |q+1,u,hu=>by have hp:=hE.m.p.pos;show iter q _ (sig _ _ _)=_;rw[zGv h hE hT hk hu,zHK hk q (wX (by omega))];rfl
end
end Go.Pl

namespace Go.Pl
open Go Go.Ab Go.Wk Go.Pc
theorem zF5{p:Int}{D:Nat}{A:Mx}(hA:Mat p D A)(hp:2≤p){r:List Int}(hr:Row p D r):∀q,iter q (fun u=>wA p D u A) r=wA p D r (pw (PM p D) (idM D) A q)
 |0=>(jF hr).symm
 |q+1=>by
  have hm:Mat p D (pw (PM p D) (idM D) A q):=vL (S:=Mat p D) (fun _ hB=>zBE (by omega) hB.1) q (tM hp);unfold pw at*
  rw[vB,vB,zF5 hA hp hr q];exact zEJ hm.1
theorem zRG{p:Int}{D:Nat}(hp:0<p){r:List Int}:iter p.toNat (fun w=>adv p D w r) (zeros D)=zeros D:=by
 rw[zHI hp _ _ (xK hp)];rw[show zeros D=mkv D fun _=>0 from tU D];refine yC fun j hj=>?_
 rw[yG hj,Jcs (by omega),Lo,Int.mul_emod_right]
theorem zA5{p:Int}{D:Nat}{A:Mx}:wA p D (zeros D) A=zeros D:=by
 rw[show zeros D=mkv D fun _=>0 from tU D];refine yC fun j hj=>?_
 rw[xM (g:=fun _=>0) fun l hl=>by rw[yG hl,Qh],qF,Int.zero_emod]
theorem zP7{p:Int}{D q:Nat}{A:Mx}(hq:q<D)(hA:Mat p D A):wA p D (xI D q) A=A.getD q []:=by
 have hr:=hA.2 q hq
 conv=>rhs;rw[uA hr.1]
 refine yC fun j hj=>?_
 rw[kO,zAd (k:=q) hq (fun i hi gf=>by rw[yG hi,if_neg gf,Qh]),yG hq,if_pos rfl,Jbi,sX (hr.2 j hj)]
theorem tX{p:Int}{D q:Nat}(hp:2≤p):Row p D (xI D q):=by rw[kO];exact⟨yA _ _,by grind[yG]⟩
theorem zLG{N D q:Nat}(hq:q<D):xI (N+D) (N+q)=zeros N++xI D q:=by
 rw[zAm (by omega),zAm hq,←Jc]
 grind[zeros,Jk]
def aM(m:zE)(D k:Nat)(v:Vec):Mx:=img (PM m.Prime D) (m.zH.drop k) v (idM D)
theorem zRH{p:Int}{D:Nat}(hp:2≤p):Mon (Mat p D) (PM p D) (idM D):=
 ⟨fun ha _=>zBE (by omega) ha.1,tM (by omega),fun ha hb _=>zLs ha.1 hb.1,fun ha=>zBF ha,fun ha=>zC8 ha⟩
section
variable {D:Nat}{x:SPr}{m:zE}{T:Mx} (h:Pres x) (hE:ExB x.zA.length D x m T) (hT:∀i,i<T.length→Row m.Prime D (T.getD i []))
 include h hE hT
theorem zRI{k:Nat}(hk:k<x.zA.length):(eC1 x T k).map (·.take (x.zA.length-(k+1)))=(lvl x k).cs:=by
 have _:=hE;have _:=hT;have gE:=zAs h.w hk;apply Kv;intro j
 by_cases g:j<x.zA.length-(k+1)
 ·obtain⟨c,_,_,c3,c4⟩:=zE4 h hk g
  have hl:=wY h (by omega) c3;have e1:((eC1 x T k).map (·.take (x.zA.length-(k+1))))[j]? =i7 (((lvl x k).cs.getD j []++T.getD (base x.zA.length k+j) []).take (x.zA.length-(k+1))):=by simp[eC1,gl,show j<x.zA.length-1-k by omega]
  grind
 ·rw[K6 (by simp[eC1,gl];omega),K6 (by omega)]
theorem zZO{k:Nat}{v:Vec}:Mat m.Prime D (aM m D k v):=by
 have _:=h;have _:=hT;have hp:=hE.m.p.pos;refine qO (fun ha _=>zBE (by omega) ha.1) _ _ (fun c hc=>?_) (tM (by omega));obtain⟨i,hi,rfl⟩:=L6.1 (Um hc);have:=hE.m.mat i (by rw[←hE.m.len];exact hi)
 grind
theorem zLH{k:Nat}(hk:k<x.zA.length):m.zH.drop k=m.zH.getD k []::m.zH.drop (k+1):=by
 have _:=h;have _:=hT;have hl:=hE.m.len
 grind[Uf]
theorem zUm{k:Nat}(hk:k<x.zA.length){b:Int}{y:Vec}:aM m D k (b::y)=PM m.Prime D (pw (PM m.Prime D) (idM D) (m.zH.getD k []) b.toNat) (aM m D (k+1) y):=by
 have M:=zRH hE.m.p.pos.1 (D:=D);unfold aM;rw[zLH h hE hT hk];refine qK M (hE.m.mat k hk) fun c hc=>?_
 obtain⟨i,hi,rfl⟩:=L6.1 (Um hc);have:=hE.m.mat i (by rw[←hE.m.len];exact hi)
 grind
theorem pwM{k q:Nat}(hk:k<x.zA.length):Mat m.Prime D (pw (PM m.Prime D) (idM D) (m.zH.getD k []) q):=by have _:=h;have _:=hT;have _:=hk;have hp:=hE.m.p.pos;exact vL (S:=Mat m.Prime D) (fun _ hB=>zBE (by omega) hB.1) q (tM (by omega))
theorem zO8:∀(d k:Nat),k+d=x.zA.length→ ∀r y v,Row m.Prime D r→V (suf x k) y→Row m.Prime D v→mul (suf (exx D x m T) k) (zeros d++r) (y++v)=y++adv m.Prime D (wA m.Prime D r (aM m D k y)) v
 |0,k,hk,r,y,v,hr,hy,hv=>by
  have hp:=hE.m.p.pos;rw[vO (x:=x) (k:=k) (by omega)]at hy;obtain rfl:y=[]:=hy;rw[zAo h hE hT D k (by omega) (by omega)];have e:aM m D k []=idM D:=by unfold aM;cases m.zH.drop k<;>rfl
  rw[e,jF hr];exact qP (by omega) D r v hr hv
 |d+1,k,hk,r,y,v,hr,hy,hv=>by
  have hl:=wH h hE hT;have hp:=hE.m.p.pos;have hA:=hE.m.mat k (by omega);rw[yE (x:=x) (by omega)]at hy;cases y with
  |nil=>exact hy.elim
  |cons b y=>
   obtain⟨⟨b0,b1⟩,hy⟩:=hy;change b<at0 x.zA k at b1;rw[yE (x:=exx D x m T) (by omega)];show mul _ (0::(zeros d++r)) (b::(y++v))=_;have e:=zHK h hE hT (k:=k) (by omega) b.toNat hr;rw[show x.zA.length-(k+1)=d from by omega]at e;rw[yY,zBv h hE hT (by omega),if_neg (by omega),e,zF5 hA (by omega) hr,zO8 d (k+1) (by omega) _ y v (wX (by omega)) hy hv,Lo,zUm h hE hT (by omega),←zEJ (pwM h hE hT (by omega)).1];rfl
theorem zLI{k:Nat}(hk:k<x.zA.length)(ih:∀a b,V (suf (exx D x m T) (k+1)) a→V (suf (exx D x m T) (k+1)) b→(mul (suf (exx D x m T) (k+1)) a b).take (x.zA.length-(k+1))=mul (suf x (k+1)) (a.take (x.zA.length-(k+1))) (b.take (x.zA.length-(k+1)))){v:Vec}(hv:V (suf (exx D x m T) (k+1)) v):
  (sig (suf (exx D x m T) (k+1)) (lvl (exx D x m T) k) v).take (x.zA.length-(k+1))=sig (suf x (k+1)) (lvl x k) (v.take (x.zA.length-(k+1))):=by
 have ok:=vW h hE hT (k:=k+1) (by omega);obtain⟨y,u,rfl,hy,hu⟩:=(sD h hE hT (x.zA.length-(k+1)) (k+1) (by omega) _).1 hv;have er:=wY h (by omega) hy;obtain⟨y1,u1,e,ff,cw⟩:=(sD h hE hT (x.zA.length-(k+1)) (k+1) (by omega) _).1 (zHJ h hE hT hk (y:=y));have gK:=wY h (by omega) ff;rw[zBN h hE hT hk hy hu,Js (by grind),Js er];unfold sgG sig;rw[zEI (S:=V (suf (exx D x m T) (k+1))) (n:=mul (suf x (k+1))) (·.take (x.zA.length-(k+1))) (fun a b=>xE ok) ih _ _ _ (zO7 h hE hT hk) (wO ok),zRI h hE hT hk,zAX h hE hT (by omega),Js (zZ _),yN]
theorem zJP:∀(d k:Nat),k+d=x.zA.length→ ∀a b,V (suf (exx D x m T) k) a→V (suf (exx D x m T) k) b→(mul (suf (exx D x m T) k) a b).take d=mul (suf x k) (a.take d) (b.take d)
 |0,k,hk,a,b,_,_=>by rw[vO (x:=x) (by omega),K8];rfl
 |d+1,k,hk,a,b,ha,hb=>by
  have hl:=wH h hE hT;have ih:=zJP d (k+1) (by omega);have hd:d=x.zA.length-(k+1):=by omega
  have ok:=vW h hE hT (k:=k+1) (by omega);have ok0:=vW h hE hT (k:=k) (by omega);rw[hd]at ih;have hs:=fun v hv=>zLI h hE hT (k:=k) (by omega) ih (v:=v) hv
  rw[yE (x:=exx D x m T) (by omega)]at ha hb ok0 ⊢
  rw[yE (x:=x) (by omega)];cases a with
  |nil=>rfl
  |cons a u=>
  cases b with
  |nil=>rfl
  |cons b v=>
   have ef:∀q u,V (suf (exx D x m T) (k+1)) u→(iter q (sig (suf (exx D x m T) (k+1)) (lvl (exx D x m T) k)) u).take d=iter q (sig (suf x (k+1)) (lvl x k)) (u.take d)∧V (suf (exx D x m T) (k+1)) (iter q (sig (suf (exx D x m T) (k+1)) (lvl (exx D x m T) k)) u):=by
    intro q
    induction q with
    |zero=>intro u hu;exact⟨rfl,hu⟩
    |succ q ihq=>
     intro u hu;have:=ihq _ (zCw ok0 hu);rw[hd,hs u hu]at this;rw[hd];exact this
   obtain⟨aw,eO⟩:=ef b.toNat u ha.2;have hm:=xE ok eO hb.2;rw[yY,Ld,Ld,yY,zBv h hE hT (by omega),show(lvl x k).o=at0 x.zA k from rfl];have e1:=ih _ _ eO hb.2;rw[←hd,aw]at e1;split
   ·rw[Ld]
    have e2:=ih _ _ ok0.2.1 hm;rw[←hd,e1]at e2;rw[e2]
    congr 2
    have ht:=(h.tl k (by omega)).1;have hw:=jM ht (by omega);have hwl:(lvl x k).w.length=x.zA.length-(k+1):=wY h (by omega) hw;rw[zHH h hE hT (by omega),Js (by omega)]
   grind
end
end Go.Pl

namespace Go.Pl
open Go Go.Ab Go.Wk Go.Pc
theorem zP8{p:Int}{d:Nat}(hp:2≤p):∀c∈wK d,Row p d c:=fun c hc=>by obtain⟨k,_,rfl⟩:=Jm.1 hc;exact tX hp
theorem zUn{p:Int}(hp:2≤p){d:Nat}{w:Vec}(hw:Row p d w):sig (tlv p d) ⟨p,zeros d,wK d⟩ w=w:=by
 unfold sig;rw[zGt,zDe (S:=Row p d) (m':=adv p d) (by grind[qP]) (fun _ _ _ _=>sZ (by omega)) (wK d) w _ (zP8 hp) (xK (by omega)),zGu (by omega) (wK d) w _ (by rw[hw.1];simp[wK]) (fun i hi=>(hw.2 i (by rw[←hw.1];exact hi)).1) (xK (by omega))]
 conv=>rhs;rw[uA hw.1]
 refine yC fun j hj=>?_
 have eT:(wK d).length=d:=by simp[wK]
 rw[eT,tW,Lo,zAd (k:=j) hj (fun k hk gf=>by rw[zDf hk hj,if_neg (Ne.symm gf),Lb]),zDf hj hj,if_pos rfl,Lt,sX (hw.2 j hj)]
structure LCn (x e:SPr) (k:Nat):Prop where
 c1:∀j,k+1≤j→j<x.zA.length→pw (mul (suf e (k+1))) (zeros (suf e (k+1)).length) ((lvl e k).cs.getD (j-(k+1)) []) (at0 e.zA j).toNat=sig (suf e (k+1)) (lvl e k) ((e.zT.getD j []).drop (k+1))
 c2:∀i,k+1≤i→i<x.zA.length→ ∀j,i+1≤j→j<x.zA.length→
  mul (suf e (k+1)) ((lvl e k).cs.getD (j-(k+1)) []) ((lvl e k).cs.getD (i-(k+1)) [])=mul (suf e (k+1)) ((lvl e k).cs.getD (i-(k+1)) []) (sig (suf e (k+1)) (lvl e k) (((e.zF.getD i []).getD (j-(i+1)) []).drop (k+1)))
 c3:sig (suf e (k+1)) (lvl e k) (lvl e k).w=(lvl e k).w
 c4:∀j,k+1≤j→j<x.zA.length→mul (suf e (k+1)) (lvl e k).w (iter (lvl e k).o.toNat (sig (suf e (k+1)) (lvl e k)) (xI (e.zA.length-(k+1)) (j-(k+1))))=mul (suf e (k+1)) (xI (e.zA.length-(k+1)) (j-(k+1))) (lvl e k).w
section
variable {D:Nat}{x:SPr}{m:zE}{T:Mx} (h:Pres x) (hE:ExB x.zA.length D x m T) (hT:∀i,i<T.length→Row m.Prime D (T.getD i []))
 include h hE hT
theorem zRJ{k j:Nat}(hk:k<x.zA.length)(hj:x.zA.length≤j)(h2:j<x.zA.length+D):(lvl (exx D x m T) k).cs.getD (j-(k+1)) []=zeros (x.zA.length-(k+1))++(m.zH.getD k []).getD (j-x.zA.length) []:=by
 rw[zBM h hE hT hk,J2,J9 (by grind[tO]),tO h hE hT,eC2]
 grind
theorem zHL{k j:Nat}(hk:k<x.zA.length)(hj:k+1≤j)(h2:j<x.zA.length):(lvl (exx D x m T) k).cs.getD (j-(k+1)) []=(lvl x k).cs.getD (j-(k+1)) []++T.getD (base x.zA.length k+(j-(k+1))) []:=by
 rw[zBM h hE hT hk,J2,Ju (by grind[tO]),eC1]
 grind
theorem zD6{i j:Nat}(hi:i<j)(hj:j<x.zA.length):Row m.Prime D (T.getD (base x.zA.length i+(j-(i+1))) []):=by have _:=h;have hn:=hE.hn;have hb:=zBK x.zA.length (by omega) i (by omega);exact hT _ (by rw[hE.t];omega)
theorem zBO{i:Nat}(hi:i<x.zA.length):Row m.Prime D (T.getD i []):=by have _:=h;have hn:=hE.hn;have hb:=uC x.zA.length (by omega);exact hT _ (by rw[hE.t];omega)
theorem zDV{k j:Nat}(hj:k≤j)(h2:j<x.zA.length):((exx D x m T).zT.getD j []).drop (k+1)=(x.zT.getD j []).drop (k+1)++T.getD j []:=by have t1:=(h.tl j h2).1.1.1;have _:=hE;have _:=hT;have hP:(exx D x m T).zT.getD j []=exP x.zA.length D x T j:=xV (by omega);rw[hP,exP,if_pos h2,Kn (by omega)]
theorem zWQ{k j:Nat}(hk:k<x.zA.length)(hj:x.zA.length≤j)(h2:j<x.zA.length+D):((exx D x m T).zT.getD j []).drop (k+1)=zeros (x.zA.length-(k+1))++zeros D:=by
 have _:=h;have _:=hE;have _:=hT;have hP:(exx D x m T).zT.getD j []=exP x.zA.length D x T j:=xV (by omega);rw[hP,exP,if_neg (by omega),Ls]
 grind[zeros,Jk]
theorem zHM{i:Nat}(hi:i<x.zA.length+D):(exx D x m T).zF.getD i []=exC x.zA.length D x m T i:=by
 have _:=h;have _:=hE;have _:=hT;show(gl (x.zA.length+D) (exC x.zA.length D x m T)).getD i []=_
 grind
theorem zF6{k i j:Nat}(hk:k≤i)(hi:i<j)(hj:j<x.zA.length):(((exx D x m T).zF.getD i []).getD (j-(i+1)) []).drop (k+1)=((x.zF.getD i []).getD (j-(i+1)) []).drop (k+1)++T.getD (base x.zA.length i+(j-(i+1))) []:=by obtain⟨_,t2,t3⟩:=h.tl i (by omega);have t:=(t3 (j-(i+1)) (by omega)).1.1;rw[zHM h hE hT (by omega),exC,if_pos (by omega),xV (by omega),exF,if_pos (by omega),Kn (by omega)]
theorem zWR{k i j:Nat}(hk:k<x.zA.length)(hi:i<x.zA.length)(hj:x.zA.length≤j)(h2:j<x.zA.length+D):(((exx D x m T).zF.getD i []).getD (j-(i+1)) []).drop (k+1)=zeros (x.zA.length-(k+1))++(m.zH.getD i []).getD (j-x.zA.length) []:=by rw[zHM h hE hT (by omega),exC,if_pos (by omega),xV (by omega),exF,if_neg (by omega),Kn (by simp;omega),Ls,show j-(i+1)-(x.zA.length-1-i)=j-x.zA.length from by omega];rfl
theorem zWS{k i j:Nat}(hk:k<x.zA.length)(hi:x.zA.length≤i)(hj:i<j)(h2:j<x.zA.length+D):(((exx D x m T).zF.getD i []).getD (j-(i+1)) []).drop (k+1)=zeros (x.zA.length-(k+1))++xI D (j-x.zA.length):=by
 rw[zHM h hE hT (by omega),exC,if_neg (by omega),unC,xV (by omega),kN,zHG,←zLG (by omega),kO]
 grind
theorem zUo(hr:zDS x m D){k:Nat}(hk:k<x.zA.length):pw (PM m.Prime D) (idM D) (m.zH.getD k []) (at0 x.zA k).toNat=aM m D (k+1) (lvl x k).w∧
  ∀i,k<i→i<x.zA.length→PM m.Prime D (m.zH.getD i []) (m.zH.getD k [])=PM m.Prime D (m.zH.getD k []) (aM m D (k+1) ((lvl x k).cs.getD (i-(k+1)) [])):=by
 have R:=zO4 h hE.m hr (x.zA.length-k) k (by omega);rw[yE hk,zLH h hE hT hk]at R;obtain⟨r1,r2,_⟩:=R;refine⟨r1,fun i h1 h2=>?_⟩;have gE:=zAs h.w hk;have hl:=hE.m.len;refine r2 (i-(k+1)) _ _ ?_ ?_
 all_goals grind
theorem zv{k:Nat}(hk:k≤x.zA.length):V (suf x k) (zeros (x.zA.length-k)):=by
 have _:=hE;have _:=hT;have:=wO (h.okAt hk)
 grind[yN]
theorem zRK(hr:zDS x m D){k:Nat}(hk:k<x.zA.length)(hc:LCn x (exx D x m T) k):LC (exx D x m T) k:=by
 have hp:=hE.m.p.pos;have hl:=wH h hE hT;have hA:=hE.m.mat k hk;obtain⟨r1,r2⟩:=zUo h hE hT hr hk;have hz:=zv h hE hT (k:=k+1) (by omega);have aK:Row m.Prime D (zeros D):=xK (by omega);have hw:=(zWD h hk).2;refine⟨fun j h1 h2=>?_,fun i h1 h2 j h3 h4=>?_,hc.c3,fun j h1 h2=>?_⟩
 ·rw[hl]at h2
  rcases Jj j x.zA.length with g|g
  ·exact hc.c1 j h1 g
  ·have hq:=hA.2 (j-x.zA.length) (by omega)
   rw[zRJ h hE hT hk g h2,zWQ h hE hT hk g h2,zGv h hE hT hk aK,zA5,zBL h hE hT g h2,zAX h hE hT (by omega)];have e:=zNm h hE hT (d:=x.zA.length-(k+1)) (k:=k+1) (by omega) [(m.zH.getD k []).getD (j-x.zA.length) []] [m.Prime] _ _ (by grind) hz aK;have e2:iter m.Prime.toNat (fun w=>adv m.Prime D w ((m.zH.getD k []).getD (j-x.zA.length) [])) (zeros D)=zeros D:=zRG (by omega);unfold pw;refine e.trans ?_;show zeros _++iter m.Prime.toNat (fun w=>adv m.Prime D w ((m.zH.getD k []).getD (j-x.zA.length) [])) (zeros D)=_;rw[e2]
 ·rw[hl]at h4
  rcases Jj j x.zA.length with g|g
  ·exact hc.c2 i h1 (by omega) j h3 g
  ·have hq:=hA.2 (j-x.zA.length) (by omega)
   rw[zRJ h hE hT hk g h4];rcases Jj i x.zA.length with gi|gi
   ·have hAi:=hE.m.mat i gi
    have aQ:=hAi.2 (j-x.zA.length) (by omega);have cY:=(kK h hk h1 gi).2.2;have ht:=zD6 h hE hT (i:=k) (j:=i) (by omega) gi;rw[zHL h hE hT hk h1 gi,zWR h hE hT hk gi g h4,zGv h hE hT hk aQ,zO8 h hE hT _ (k+1) (by omega) _ _ _ hq cY ht,zEK h hE hT _ (k+1) (by omega) _ _ _ cY ht (wX (by omega)),tE]
    congr 2
    rw[←zBD (by rw[hA.1];omega),←zBD (by rw[hAi.1];omega),r2 i (by omega) gi]
   ·have aQ:=hA.2 (i-x.zA.length) (by omega)
    rw[zRJ h hE hT hk gi (by omega),zWS h hE hT hk gi (by omega) h4,zGv h hE hT hk (tX (by omega)),zP7 (by omega) hA,zEK h hE hT _ (k+1) (by omega) _ _ _ hz hq aQ,zEK h hE hT _ (k+1) (by omega) _ _ _ hz aQ hq,tE]
 ·rw[hl]at h2 ⊢
  rcases Jj j x.zA.length with g|g
  ·have:=hc.c4 j h1 g
   grind
  ·have ht:=zBO h hE hT hk
   have hu:Row m.Prime D (xI D (j-x.zA.length)):=tX (by omega);rw[show x.zA.length+D-(k+1)=x.zA.length-(k+1)+D from by omega,show j-(k+1)=x.zA.length-(k+1)+(j-x.zA.length)from by omega,zLG (by omega),zBv h hE hT hk,zHK h hE hT hk _ hu,zHH h hE hT hk,zF5 hA (by omega) hu,r1,zO8 h hE hT _ (k+1) (by omega) _ _ _ hu hw ht,zEK h hE hT _ (k+1) (by omega) _ _ _ hw ht (wX (by omega)),tE]
theorem zWT{k:Nat}(hk:x.zA.length≤k)(h2:k<x.zA.length+D):LC (exx D x m T) k:=by
 have hp:=hE.m.p.pos;have hl:=wH h hE hT;have hs:=zAo h hE hT (x.zA.length+D-(k+1)) (k+1) (by omega) (by omega);have hL:=zAo h hE hT (x.zA.length+D-(k+1)+1) k (by omega) (by omega);rw[yE (by omega),hs,tlv]at hL;have bF:lvl (exx D x m T) k=⟨m.Prime,zeros (x.zA.length+D-(k+1)),wK (x.zA.length+D-(k+1))⟩:=(Qv.inj hL).1
 generalize hd:x.zA.length+D-(k+1)=d at*
 have ej:∀w,Row m.Prime d w→sig (tlv m.Prime d) ⟨m.Prime,zeros d,wK d⟩ w=w:=by grind[zUn]
 have bv:Row m.Prime d (zeros d):=xK (by omega);have dh:∀j,(wK d).getD j []=if j<d then xI d j else[]:=fun j=>by
  by_cases g:j<d
  ·rw[if_pos g,zHy g]
  ·rw[if_neg g,J2,K6 (by grind[wK])];rfl
 refine⟨fun j h1 h3=>?_,fun i h1 h3 j h4 h5=>?_,?_,fun j h1 h3=>?_⟩
 ·rw[hl]at h3
  have hP:(exx D x m T).zT.getD j []=exP x.zA.length D x T j:=xV (by omega);rw[hs,bF,zBL h hE hT (by omega) h3,hP,exP,if_neg (by omega),Ls,hd];show pw (mul (tlv m.Prime d)) (zeros (tlv m.Prime d).length) ((wK d).getD (j-(k+1)) []) m.Prime.toNat=sig (tlv m.Prime d) ⟨m.Prime,zeros d,wK d⟩ (zeros d);rw[ej _ bv,dh,if_pos (by omega),zGt];have e:=zDe (S:=Row m.Prime d) (m':=adv m.Prime d) (fun a b ha hb=>qP (by omega) d a b ha hb) (fun _ _ _ _=>sZ (by omega)) [xI d (j-(k+1))] [m.Prime] (zeros d) (by grind[tX]) bv;exact e.trans (zRG (by omega))
 ·rw[hl]at h3 h5
  rw[hs,bF,zHM h hE hT h3,exC,if_neg (by omega),unC,xV (by omega),kN,zHG,hd];have e:(mkv d fun q=>if k+1+q=i+1+(j-(i+1))then(1:Int)else 0)=xI d (j-(k+1)):=by
   rw[kO]
   grind
  rw[e,ej _ (tX (by omega))];show mul (tlv m.Prime d) ((wK d).getD (j-(k+1)) []) ((wK d).getD (i-(k+1)) [])=mul (tlv m.Prime d) ((wK d).getD (i-(k+1)) []) (xI d (j-(k+1)));rw[dh,dh,if_pos (by omega),if_pos (by omega),qP (by omega) d _ _ (tX (by omega)) (tX (by omega)),qP (by omega) d _ _ (tX (by omega)) (tX (by omega)),tE]
 ·grind
 ·rw[hl]at h3 ⊢
  have hu:Row m.Prime d (xI d (j-(k+1))):=tX (by omega);rw[hs,bF,hd,zHE (ej _ hu),qP (by omega) d _ _ bv hu,qP (by omega) d _ _ hu bv,tE]
theorem zHN:∀(d k:Nat),x.zA.length≤k→k+d=x.zA.length+D→wR (suf (exx D x m T) k)
 |0,k,hk,hd=>by rw[vO (by grind[wH])];simp only[wR]
 |d+1,k,hk,hd=>(zA1 (zGs h hE hT) (by rw[wH h hE hT];omega)).2 ⟨zHN d (k+1) (by omega) (by omega),by grind[zWT]⟩
theorem zO9(hr:zDS x m D):wR (suf (exx D x m T) 0)↔ ∀k,k<x.zA.length→LCn x (exx D x m T) k:=by
 have hl:=wH h hE hT;have key:∀(d k:Nat),k+d=x.zA.length→(wR (suf (exx D x m T) k)↔ ∀i,k≤i→i<x.zA.length→LCn x (exx D x m T) i):=by
  intro d
  induction d with
  |zero=>grind[zHN]
  |succ d ih=>
   intro k hk;rw[zA1 (zGs h hE hT) (by omega),ih (k+1) (by omega)];constructor
   ·rintro⟨g1,g2⟩ i h1 h2
    rcases Jj k i with g|g
    ·grind
    ·obtain rfl:i=k:=by omega
     exact⟨fun j a b=>g2.c1 j a (by omega),fun i a b j c d=>g2.c2 i a (by omega) j c (by omega),g2.c3,fun j a b=>g2.c4 j a (by omega)⟩
   grind[zRK]
 simp_all
end
end Go.Pl

namespace Go.Pl
open Go Go.Ab Go.Wk Go.Pc
def prE(x:SPr)(k:Nat)(w:Vec):zI:=⟨fv k (w.take (x.zA.length-k)),w.drop (x.zA.length-k)⟩
theorem qQ{x:SPr}{k:Nat}{y u:Vec}(hy:y.length=x.zA.length-k):prE x k (y++u)=⟨fv k y,u⟩:=by grind[prE]
theorem zBP{α α' β:Type}{body:α×α'×Int→Option ((α×α'×Int)⊕(α×α'))}{S:β→Prop}(e1:β→α)(e2:β→α')(g:β→β)(n:Int)(hn:0≤n)(hS:∀a,S a→S (g a))
  (h:∀a(i:Nat),S a→(i:Int)<n→body (e1 a,e2 a,(i:Int))=i7 (.inl (e1 (g a),e2 (g a),((i+1:Nat):Int))))(he:∀a,S a→body (e1 a,e2 a,n)=i7 (.inr (e1 a,e2 a))){a:β}(ha:S a):
  zJ body (e1 a,e2 a,0)=i7 (e1 (iter n.toNat g a),e2 (iter n.toNat g a)):=by
 have ef:∀k,S (iter k g a):=fun k=>vL (S:=S) hS k ha
 exact zY (body:=body) (r:=(e1 (iter n.toNat g a),e2 (iter n.toNat g a))) (fun i=>(e1 (iter i g a),e2 (iter i g a),(i:Int))) n.toNat (by grind[vB]) (by grind)
structure Mv (D n:Nat) (m0 m:zE):Prop where
 pr:m0.Prime=m.Prime
 mv:∀k,k<n→ ∀u,Row m.Prime D u→zUX m0 u (k:Int)=i7 (wA m.Prime D u (m.zH.getD k []))
section
variable {D:Nat}{x:SPr}{m0 m:zE}{T:Mx} (h:Pres x) (hE:ExB x.zA.length D x m T) (hT:∀i,i<T.length→Row m.Prime D (T.getD i []))
def zRL(D:Nat)(x:SPr)(m0 m:zE)(T:Mx)(k:Nat)(g:zX→Int→zI→zI→Option zI):Prop:=
 ∀a b,V (suf (exx D x m T) k) a→V (suf (exx D x m T) k) b→g ⟨x,m0,T⟩ k (prE x k a) (prE x k b)=i7 (prE x k (mul (suf (exx D x m T) k) a b))
def zRM(D:Nat)(x:SPr)(m0 m:zE)(T:Mx)(k:Nat)(g:zX→Int→zI→Option zI):Prop:=
 ∀v,V (suf (exx D x m T) (k+1)) v→g ⟨x,m0,T⟩ k (prE x (k+1) v)=i7 (prE x (k+1) (sig (suf (exx D x m T) (k+1)) (lvl (exx D x m T) k) v))
 include h hE hT
theorem zOA{k i j:Nat}(hk:k≤i)(hi:i<j)(hj:j<x.zA.length):f_U ⟨x,m0,T⟩ (i:Int) (j:Int)=i7 (prE x (k+1) ((((exx D x m T).zF.getD i []).getD (j-(i+1)) []).drop (k+1)))∧V (suf (exx D x m T) (k+1)) ((((exx D x m T).zF.getD i []).getD (j-(i+1)) []).drop (k+1)):=by
 have hn:=hE.hn;have hb:=zBK x.zA.length (by omega) i (by omega);have ht:=hE.t;obtain⟨_,t2,t3⟩:=h.tl i (by omega);have tt:=t3 (j-(i+1)) (by omega);obtain⟨e1,e2⟩:=zC4 (k:=k+1) tt (by omega) (by omega);have hl:=wY h (by omega) e2;have gE:=h.cl;have hr:=zD6 h hE hT hi hj;refine⟨?_,?_⟩
 ·rw[zF6 h hE hT hk hi hj,qQ hl,←e1]
  unfold f_U;dsimp only
  rw[yX [] (by omega),bs,zC (by omega) (by omega),bs,zC (by omega) (by omega),bs,show(j:Int)-(i:Int)-1=((j-(i+1):Nat):Int)from by omega,yX [] (by omega),bs,zNf x.zA.length (by omega) j hj i hi,bs,yX [] (by omega),bs,show j-i-1=j-(i+1)from by omega]
 ·rw[zF6 h hE hT hk hi hj]
  exact(sD h hE hT (x.zA.length-(k+1)) (k+1) (by omega) _).2 ⟨_,_,rfl,e2,hr⟩
theorem zEL{k j:Nat}(hk:k<j)(hj:j<x.zA.length):f_U ⟨x,m0,T⟩ (k:Int) (j:Int)=i7 (prE x (k+1) ((lvl (exx D x m T) k).cs.getD (j-(k+1)) []))∧V (suf (exx D x m T) (k+1)) ((lvl (exx D x m T) k).cs.getD (j-(k+1)) []):=by
 have e:(lvl (exx D x m T) k).cs.getD (j-(k+1)) []=(((exx D x m T).zF.getD k []).getD (j-(k+1)) []).drop (k+1):=by
  have hC:((exx D x m T).zF.getD k []).length=x.zA.length+D-1-k:=by rw[zHM h hE hT (by omega),exC,if_pos (by omega),vH]
  simp only[lvl];rw[J2,K0,J4 (by omega),J2 (l:=(exx D x m T).zF.getD k []),J4 (by omega)];rfl
 rw[e];exact zOA h hE hT (Ji k) hk hj
theorem zJQ{k j:Nat}(hk:k≤j)(hj:j<x.zA.length):zN4 ⟨x,m0,T⟩ (j:Int)=i7 (prE x (k+1) (((exx D x m T).zT.getD j []).drop (k+1)))∧V (suf (exx D x m T) (k+1)) (((exx D x m T).zT.getD j []).drop (k+1)):=by
 have hn:=hE.hn;have hb:=uC x.zA.length (by omega);have ht:=hE.t;have po:=h.pl;have t1:=(h.tl j hj).1;obtain⟨e1,e2⟩:=zC4 (k:=k+1) t1 (by omega) (by omega);have hl:=wY h (by omega) e2;have hr:=zBO h hE hT hj;refine⟨?_,?_⟩
 ·rw[zDV h hE hT hk hj,qQ hl,←e1]
  grind[zN4,yX]
 ·rw[zDV h hE hT hk hj]
  exact(sD h hE hT (x.zA.length-(k+1)) (k+1) (by omega) _).2 ⟨_,_,rfl,e2,hr⟩
theorem zJR{k:Nat}(hk:k≤x.zA.length)(h0:0<x.zA.length):zMr ⟨x,m0,T⟩=i7 (prE x k (zeros (suf (exx D x m T) k).length)):=by
 have hn:=hE.hn;have h3:=hE.m.d3;have hb:=uC x.zA.length (by omega);have ht:=hE.t;have hr:=zBO h hE hT h0;have fU:=hr.1;unfold zMr;dsimp only
 have e0:ixO T 0=i7 (T.getD 0 []):=by grind[yX]
 rw[ic (by omega),zN,e0,bs,xP (by omega),bs,xP (by omega),bs,zAX h hE hT hk,qQ (zZ _),fU,fv]
 grind[zeros,Jk]
theorem zRN{u v:Vec}(hu:Row m.Prime D u)(hv:Row m.Prime D v):f_w m.Prime u 1 v=i7 (adv m.Prime D u v):=by
 have _:=h;have _:=hT;have h3:=hE.m.d3;rw[tJ hE.m.p hu hv (by omega) (by omega)]
 congr 1
 exact yC (by simp)
theorem prV{k:Nat}(hk:k≤x.zA.length){w:Vec}(hw:V (suf (exx D x m T) k) w):∃y u,w=y++u∧V (suf x k) y∧Row m.Prime D u∧prE x k w=⟨fv k y,u⟩∧y.length=x.zA.length-k:=by obtain⟨y,u,rfl,hy,hu⟩:=(sD h hE hT (x.zA.length-k) k (by omega) _).1 hw;have er:=wY h hk hy;exact⟨y,u,rfl,hy,hu,qQ er,er⟩
variable (hM:Mv D x.zA.length m0 m)
 include hM
theorem zLJ{k:Nat}(hk:k<x.zA.length){g:zX→Int→zI→zI→Option zI}(hg:zRL D x m0 m T (k+1) g):zRM D x m0 m T k (b_h g):=by
 intro v hv;have hn:=hE.hn;have hp:=hE.m.p.pos;have ok:=vW h hE hT (k:=k+1) (by omega);have hA:=hE.m.mat k hk;obtain⟨y,u,rfl,hy,hu,cd,er⟩:=prV h hE hT (k:=k+1) (by omega) hv;obtain⟨_,hyr⟩:=zDO h.os (x.zA.length-(k+1)) (k+1) y (by omega) hy;have gE:=tO h hE hT (k:=k);have gZ:=zO7 h hE hT hk;have hcg:∀i,i<x.zA.length-(k+1)→(eC1 x T k).getD i []=(lvl (exx D x m T) k).cs.getD i []:=fun i hi=>by rw[zBM h hE hT hk,J2,J2,Ju (by omega)]
 obtain⟨A,d6⟩:∃A:Nat→Vec,∀i,A i=img (mul (suf (exx D x m T) (k+1))) ((eC1 x T k).take i) (y.take i) (zeros (suf (exx D x m T) (k+1)).length):=⟨_,fun _=>rfl⟩;have hI:∀i,V (suf (exx D x m T) (k+1)) (A i):=fun i=>by rw[d6];exact qO (xE ok) _ _ (by grind) (wO ok)
 have hA0:A 0=zeros (suf (exx D x m T) (k+1)).length:=by grind[img]
 have hAn:A (x.zA.length-(k+1))=sgG D x m T k y:=by rw[d6,Jr (by omega),Jr (by omega)];rfl
 rw[cd];unfold b_h;dsimp only
 rw[zJR h hE hT (k:=k+1) (by omega) (by omega),bs,zC (by omega) (by omega),bs,cs];have:=zY (body:=zTs g ⟨x,m0,T⟩ k ⟨fv (k+1) y,u⟩) (r:=((prE x (k+1) (sgG D x m T k y)).x,(prE x (k+1) (sgG D x m T k y)).v))
  (fun i=>((prE x (k+1) (A i)).x,(prE x (k+1) (A i)).v,((k+1+i:Nat):Int))) (x.zA.length-(k+1)) (fun i hi=>by
  have hr:=hyr i hi;obtain⟨c1,c2⟩:=zEL h hE hT (k:=k) (j:=k+1+i) (by omega) (by omega);rw[show k+1+i-(k+1)=i from by omega]at c1 c2;unfold zTs;dsimp only
  rw[ic (by grind[zC2]),zN];rw[zBP (S:=V (suf (exx D x m T) (k+1))) (fun w=>(prE x (k+1) w).x) (fun w=>(prE x (k+1) w).v) (fun w=>mul (suf (exx D x m T) (k+1)) w ((lvl (exx D x m T) k).cs.getD i [])) (at0 y i) hr.1 (by grind[xE]) (fun w q hw hq=>by
   unfold zUY;dsimp only
   rw[fv,zLk (by omega),bs,ic hq,zN,zC (by omega) (by omega),bs,c1,bs,cs,show(zI.mk (prE x (k+1) w).x (prE x (k+1) w).v)=prE x (k+1) w from rfl,hg w _ hw c2,bs,zC (by omega) (by omega),bs,cs]) (fun w hw=>by
   unfold zUY;dsimp only
   rw[fv,zLk (by omega),bs,ib (by omega),zS]) (hI i),bs,zC (by omega) (by omega),bs,cs]
  rw[d6 (i+1),zBp _ _ _ _ (by omega) (by omega),hcg i hi,←d6];rfl) (by
  unfold zTs;dsimp only
  rw[ib (by grind[zC2]),zS,hAn])
 rw[hA0,Qd]at this;rw[this,bs,hM.mv k hk _ hu,bs];obtain⟨y1,u1,e,ff,cw,dQ,mr⟩:=prV h hE hT (k:=k+1) (by omega) (zHJ h hE hT hk (y:=y));rw[zBN h hE hT hk hy hu,dQ,e,Js mr,K3 mr,qQ mr];dsimp only
 rw[hM.pr,zRN h hE hT cw (wX (by omega)),bs]
theorem zRO{k:Nat}(hk:k<x.zA.length){g:zX→Int→zI→zI→Option zI}{gi:zX→Int→zI→Option zI}(hg:zRL D x m0 m T (k+1) g)(hi:zRM D x m0 m T k gi):zRL D x m0 m T k (b_d gi g):=by
 have _:=hM;intro a b ha hb;have hn:=hE.hn;have hl:=wH h hE hT;have hp:=(h.os.2 k hk).pos;have ok:=vW h hE hT (k:=k+1) (by omega);have ok0:=vW h hE hT (k:=k) (by omega);obtain⟨al,au,rfl,bj,hau,fI,pB⟩:=prV h hE hT (k:=k) (by omega) ha;obtain⟨bl,bu,rfl,cG,hbu,bD,hbll⟩:=prV h hE hT (k:=k) (by omega) hb;rw[fI,bD];rw[yE (x:=x) hk]at bj cG;rw[yE (x:=exx D x m T) (by omega)]at ok0 ⊢
 obtain⟨a0,a,rfl⟩:∃a0 a',al=a0::a':=by cases al with|nil=>grind|cons p q=>simp
 obtain⟨b0,b,rfl⟩:∃a0 a',bl=a0::a':=by cases bl with|nil=>grind|cons p q=>simp
 obtain⟨⟨a1,a2⟩,bj⟩:=bj;obtain⟨⟨b1,b2⟩,cG⟩:=cG;change a0<at0 x.zA k at a2;change b0<at0 x.zA k at b2;have i3:=wY h (by omega) bj;have ux:=wY h (by omega) cG;have hA:=(sD h hE hT (x.zA.length-(k+1)) (k+1) (by omega) (a++au)).2 ⟨_,_,rfl,bj,hau⟩;have hB:=(sD h hE hT (x.zA.length-(k+1)) (k+1) (by omega) (b++bu)).2 ⟨_,_,rfl,cG,hbu⟩;have own:∀u,V (suf x (k+1)) u→f_y (fv (k+1) u)=i7 (fv (k+1) u):=by grind[qL,zC2]
 have own':∀(c:Int) u,V (suf x (k+1)) u→f_y (fv k (c::u))=i7 (fv k (c::u)):=fun c u hu=>qL (by have:=wY h (by omega) hu;rw[fv,J6,zZ,J7];omega)
 have ej:∀u,V (suf (exx D x m T) (k+1)) u→V (suf (exx D x m T) (k+1)) (sig (suf (exx D x m T) (k+1)) (lvl (exx D x m T) k) u):=by grind[zCw]
 have ef:V (suf (exx D x m T) (k+1)) (iter b0.toNat (sig (suf (exx D x m T) (k+1)) (lvl (exx D x m T) k)) (a++au)):=vL ej _ hA;have ea:(⟨fv (k+1) a,au⟩:zI)=prE x (k+1) (a++au):=(qQ i3).symm;have eb:(⟨fv (k+1) b,bu⟩:zI)=prE x (k+1) (b++bu):=(qQ ux).symm;unfold b_d;dsimp only
 rw[ib (by omega),zS,own' _ _ bj,bs,own' _ _ cG,bs,zC0,bs,zC0,bs,Ja,zD1,zD1,zBC,zBC];have e1:zJ (zPV gi ⟨x,m0,T⟩ k ⟨fv k (b0::b),bu⟩) (zeros (k+1)++a,au,0)=i7 ((prE x (k+1) (iter b0.toNat (sig (suf (exx D x m T) (k+1)) (lvl (exx D x m T) k)) (a++au))).x,(prE x (k+1) (iter b0.toNat (sig (suf (exx D x m T) (k+1)) (lvl (exx D x m T) k)) (a++au))).v):=by
  have:=zBP (body:=zPV gi ⟨x,m0,T⟩ k ⟨fv k (b0::b),bu⟩) (S:=V (suf (exx D x m T) (k+1))) (fun w=>(prE x (k+1) w).x) (fun w=>(prE x (k+1) w).v) (sig (suf (exx D x m T) (k+1)) (lvl (exx D x m T) k)) b0 b1 ej (fun w q hw hq=>by
   unfold zPV;dsimp only
   rw[zC0,bs,ic hq,zN,show(zI.mk (prE x (k+1) w).x (prE x (k+1) w).v)=prE x (k+1) w from rfl,hi w hw,bs,zC (by omega) (by omega),bs,cs]) (fun w hw=>by
   unfold zPV;dsimp only
   rw[zC0,bs,ib (by omega),zS]) hA
  grind
 rw[e1,bs,zC (by omega) (by omega),bs,cs];dsimp only
 rw[show zeros (k+1)++b=fv (k+1) b from rfl,eb,show(zI.mk (prE x (k+1) (iter b0.toNat (sig (suf (exx D x m T) (k+1)) (lvl (exx D x m T) k)) (a++au))).x (prE x (k+1) (iter b0.toNat (sig (suf (exx D x m T) (k+1)) (lvl (exx D x m T) k)) (a++au))).v)=prE x (k+1) (iter b0.toNat (sig (suf (exx D x m T) (k+1)) (lvl (exx D x m T) k)) (a++au))from rfl,hg _ _ ef hB,bs,bs,bs,zC (by omega) (by omega),bs,yW hk,bs];have hm:=xE ok ef hB;show _=i7 (prE x k (mul _ (a0::(a++au)) (b0::(b++bu))));rw[yY,zBv h hE hT hk]
 generalize mul (suf (exx D x m T) (k+1)) (iter b0.toNat (sig (suf (exx D x m T) (k+1)) (lvl (exx D x m T) k)) (a++au)) (b++bu)=r at hm ⊢
 have fin:∀(c:Int) w,V (suf (exx D x m T) (k+1)) w→((f_y (prE x (k+1) w).x).bind fun r22=>(ixO r22 (k:Int)).bind fun _=>i7 (zI.mk (r22.set k c) (prE x (k+1) w).v))=i7 (prE x k (c::w)):=fun c w hw=>by
  obtain⟨w1,w2,rfl,h1,h2,h3,h4⟩:=prV h hE hT (k:=k+1) (by omega) hw;have e3:prE x k (c::(w1++w2))=⟨fv k (c::w1),w2⟩:=by grind[qQ]
  rw[h3,e3];dsimp only
  rw[own _ h1,bs,fv,←zBC,zC0,bs,zD1]
 by_cases hge:a0+b0≥at0 x.zA k
 ·obtain⟨p1,p2⟩:=zJQ h hE hT (k:=k) (j:=k) (Ji k) hk
  change V (suf (exx D x m T) (k+1)) (lvl (exx D x m T) k).w at p2;rw[ic hge,zN,if_pos hge,bs,zC (by omega) (by omega),bs,bs,p1,bs];have e4:=hg _ _ p2 hm;rw[show(((exx D x m T).zT.getD k []).drop (k+1))=(lvl (exx D x m T) k).w from rfl,e4,bs]
  grind[xE]
 ·rw[ib hge,zS,if_neg hge]
  grind
theorem zDW:∀(d k:Nat),k+d=x.zA.length→(∀q,2*d+1≤q→zRL D x m0 m T k (zN6 q))∧(1≤d→ ∀q,2*d≤q→zRM D x m0 m T k (zN5 q))
 |0,k,hk=>by
  refine⟨fun q hq a b ha hb=>?_,fun h=>by omega⟩;have hn:=hE.hn;have hp:=hE.m.p.pos;obtain⟨q,rfl⟩:∃m',q=m'+1:=⟨q-1,by omega⟩;rw[zAo h hE hT D k (by omega) (by omega)]at ha hb ⊢
  have m7:=(zD5 _ _).1 ha;have eP:=(zD5 _ _).1 hb;show b_d _ _ ⟨x,m0,T⟩ k _ _=_;unfold b_d;have e:∀w:Vec,prE x k w=⟨zeros k,w⟩:=fun w=>by rw[prE,show x.zA.length-k=0 from by omega,K8,U9,fv,Je]
  rw[e,e,e];dsimp only
  rw[ic (by omega),zN,xP (by omega),bs,hM.pr,zRN h hE hT m7 eP,bs,qP (by omega) D _ _ m7 eP,show x.zA.length=k from by omega];rfl
 |d+1,k,hk=>by
  obtain⟨h1,h2⟩:=zDW d (k+1) (by omega);have hI:∀q,2*(d+1)≤q→zRM D x m0 m T k (zN5 q):=fun q hq=>by obtain⟨q,rfl⟩:∃m',q=m'+1:=⟨q-1,by omega⟩;exact zLJ h hE hT hM (by omega) (h1 q (by omega))
  refine⟨fun q hq=>?_,fun _=>hI⟩;obtain⟨q,rfl⟩:∃m',q=m'+1:=⟨q-1,by omega⟩;exact zRO h hE hT hM (by omega) (h1 q (by omega)) (hI q (by omega))
theorem zHO{k:Nat}(hk:k≤x.zA.length):zRL D x m0 m T k f_d:=fun a b ha hb=>
 zBm (2*(x.zA.length-k)+1) fun q hq=>(zDW h hE hT hM (x.zA.length-k) k (by omega)).1 q hq a b ha hb
theorem zAI{k:Nat}(hk:k<x.zA.length):zRM D x m0 m T k f_h:=fun v hv=>
 zBm (2*(x.zA.length-k)) fun q hq=>(zDW h hE hT hM (x.zA.length-k) k (by omega)).2 (by omega) q hq v hv
end
end Go.Pl

namespace Go.Pl
open Go Go.Ab Go.Wk Go.Pc
structure GR (p:Int) (D:Nat) (Z:Vec→Prop) (L:Mx) (N:Nat) (C:Prop):Prop where
 len:L.length≤N
 row:∀r∈L,Row p D r
 iff:(∀r∈L,Z r)↔C
theorem GR.nil{p:Int}{D N:Nat}{Z:Vec→Prop}:GR p D Z [] N True:=⟨by simp,by simp,by simp⟩
theorem GR.app{p:Int}{D N M:Nat}{Z:Vec→Prop}{L L':Mx}{C C':Prop}(h:GR p D Z L N C)(h':GR p D Z L' M C'):GR p D Z (L++L') (N+M) (C∧C'):=by
 refine⟨by have:=h.len;have:=h'.len;grind,fun r hr=>?_,?_⟩
 ·rcases Jd.1 hr with g|g
  ·exact h.row r g
  ·exact h'.row r g
 ·rw[←h.iff,←h'.iff]
  grind
theorem GR.one{p:Int}{D:Nat}{Z:Vec→Prop}{r:List Int}{C:Prop}(hr:Row p D r)(h:Z r↔C):GR p D Z [r] 1 C:=
 ⟨by simp,by grind,by grind⟩
theorem GR.to{p:Int}{D N M:Nat}{Z:Vec→Prop}{L:Mx}{C C':Prop}(h:GR p D Z L N C)(hN:N≤M)(hc:C↔C'):GR p D Z L M C':=⟨by have:=h.len;omega,h.row,h.iff.trans hc⟩
def c1E(e:SPr)(k j:Nat):Prop:=pw (mul (suf e (k+1))) (zeros (suf e (k+1)).length) ((lvl e k).cs.getD (j-(k+1)) []) (at0 e.zA j).toNat=sig (suf e (k+1)) (lvl e k) ((e.zT.getD j []).drop (k+1))
def c2E(e:SPr)(k i j:Nat):Prop:=mul (suf e (k+1)) ((lvl e k).cs.getD (j-(k+1)) []) ((lvl e k).cs.getD (i-(k+1)) [])=mul (suf e (k+1)) ((lvl e k).cs.getD (i-(k+1)) []) (sig (suf e (k+1)) (lvl e k) (((e.zF.getD i []).getD (j-(i+1)) []).drop (k+1)))
def c4E(e:SPr)(k j:Nat):Prop:=mul (suf e (k+1)) (lvl e k).w (iter (lvl e k).o.toNat (sig (suf e (k+1)) (lvl e k)) (xI (e.zA.length-(k+1)) (j-(k+1))))=mul (suf e (k+1)) (xI (e.zA.length-(k+1)) (j-(k+1))) (lvl e k).w
def c1Q(Q:Nat→Vec→Vec→Prop)(e:SPr)(k j:Nat):Prop:=Q (k+1) (pw (mul (suf e (k+1))) (zeros (suf e (k+1)).length) ((lvl e k).cs.getD (j-(k+1)) []) (at0 e.zA j).toNat) (sig (suf e (k+1)) (lvl e k) ((e.zT.getD j []).drop (k+1)))
def c2Q(Q:Nat→Vec→Vec→Prop)(e:SPr)(k i j:Nat):Prop:=Q (k+1) (mul (suf e (k+1)) ((lvl e k).cs.getD (j-(k+1)) []) ((lvl e k).cs.getD (i-(k+1)) [])) (mul (suf e (k+1)) ((lvl e k).cs.getD (i-(k+1)) []) (sig (suf e (k+1)) (lvl e k) (((e.zF.getD i []).getD (j-(i+1)) []).drop (k+1))))
def c4Q(Q:Nat→Vec→Vec→Prop)(e:SPr)(k j:Nat):Prop:=Q (k+1) (mul (suf e (k+1)) (lvl e k).w (iter (lvl e k).o.toNat (sig (suf e (k+1)) (lvl e k)) (xI (e.zA.length-(k+1)) (j-(k+1))))) (mul (suf e (k+1)) (xI (e.zA.length-(k+1)) (j-(k+1))) (lvl e k).w)
structure LCQ (Q:Nat→Vec→Vec→Prop) (x e:SPr) (k:Nat):Prop where
 c1:∀j,k+1≤j→j<x.zA.length→c1Q Q e k j
 c2:∀i,k+1≤i→i<x.zA.length→ ∀j,i+1≤j→j<x.zA.length→c2Q Q e k i j
 c3:Q (k+1) (sig (suf e (k+1)) (lvl e k) (lvl e k).w) (lvl e k).w
 c4:∀j,k+1≤j→j<x.zA.length→c4Q Q e k j
section
variable {D:Nat}{x:SPr}{m0 m:zE}{T:Mx} (h:Pres x) (hE:ExB x.zA.length D x m T) (hT:∀i,i<T.length→Row m.Prime D (T.getD i []))
 include h hE hT
theorem zBQ{k:Nat}(hk:k≤x.zA.length){a b:Vec}(ha:V (suf (exx D x m T) k) a)(hb:V (suf (exx D x m T) k) b):(mul (suf (exx D x m T) k) a b).take (x.zA.length-k)=mul (suf x k) (a.take (x.zA.length-k)) (b.take (x.zA.length-k)):=by grind[zJP]
theorem zDX{k:Nat}(hk:k<x.zA.length){v:Vec}(hv:V (suf (exx D x m T) (k+1)) v):(sig (suf (exx D x m T) (k+1)) (lvl (exx D x m T) k) v).take (x.zA.length-(k+1))=sig (suf x (k+1)) (lvl x k) (v.take (x.zA.length-(k+1))):=
 by grind[zLI,zJP]
theorem zF7{k:Nat}(hk:k<x.zA.length){v:Vec}(hv:V (suf (exx D x m T) (k+1)) v):V (suf (exx D x m T) (k+1)) (sig (suf (exx D x m T) (k+1)) (lvl (exx D x m T) k) v):=by
 have gB:=vW h hE hT (k:=k) (by omega);rw[yE (x:=exx D x m T) (by grind[wH])]at gB
 grind[zCw]
theorem zJS{k:Nat}(hk:k<x.zA.length):∀(q:Nat){v:Vec},V (suf (exx D x m T) (k+1)) v→(iter q (sig (suf (exx D x m T) (k+1)) (lvl (exx D x m T) k)) v).take (x.zA.length-(k+1))=iter q (sig (suf x (k+1)) (lvl x k)) (v.take (x.zA.length-(k+1)))
 |0,_,_=>rfl
 |q+1,v,hv=>by have:=zJS hk q (zF7 h hE hT hk hv);rw[zDX h hE hT hk hv]at this;exact this
theorem zUp{k:Nat}(hk:k≤x.zA.length):(zeros (suf (exx D x m T) k).length).take (x.zA.length-k)=zeros (suf x k).length:=by grind[zAX,zZ,yN]
theorem zV4{k:Nat}(hk:k≤x.zA.length){c:Vec}(hc:V (suf (exx D x m T) k) c)(q:Nat):(pw (mul (suf (exx D x m T) k)) (zeros (suf (exx D x m T) k).length) c q).take (x.zA.length-k)=pw (mul (suf x k)) (zeros (suf x k).length) (c.take (x.zA.length-k)) q:=by have ok:=vW h hE hT (k:=k) (by omega);have:=zEI (S:=V (suf (exx D x m T) k)) (n:=mul (suf x k)) (·.take (x.zA.length-k)) (fun a b=>xE ok) (by grind[zBQ]) [c] [(q:Int)] (zeros (suf (exx D x m T) k).length) (by grind) (wO ok);simp only[Jo,Gv,img,Ja]at this;rw[zUp h hE hT hk]at this;exact this
section
variable {k:Nat} (hk:k<x.zA.length)
 include hk
theorem zJe{j:Nat}(h1:k+1≤j)(h2:j<x.zA.length):((lvl (exx D x m T) k).cs.getD (j-(k+1)) []).take (x.zA.length-(k+1))=(lvl x k).cs.getD (j-(k+1)) []:=by rw[zHL h hE hT hk h1 h2,Js (wY h (by omega) (kK h hk h1 h2).2.2)]
theorem zHP{j:Nat}(h1:k≤j)(h2:j<x.zA.length):(((exx D x m T).zT.getD j []).drop (k+1)).take (x.zA.length-(k+1))=(x.zT.getD j []).drop (k+1):=by
 have t1:=(h.tl j h2).1.1.1
 grind[zDV]
theorem zRP{i j:Nat}(h1:k+1≤i)(h2:i<j)(h3:j<x.zA.length):((((exx D x m T).zF.getD i []).getD (j-(i+1)) []).drop (k+1)).take (x.zA.length-(k+1))=((x.zF.getD i []).getD (j-(i+1)) []).drop (k+1):=by rw[zF6 h hE hT (by omega) h2 h3,Js (wY h (by omega) (zRz h hk h1 h2 h3).2.2)]
theorem zRQ{j:Nat}(h1:k+1≤j)(h2:j<x.zA.length):xI ((exx D x m T).zA.length-(k+1)) (j-(k+1))=xI (x.zA.length-(k+1)) (j-(k+1))++zeros D:=by
 rw[wH h hE hT,zAm (by omega),zAm (by omega),Jc,K1]
 grind[zeros,Jk]
end
variable (hM:Mv D x.zA.length m0 m) {Z:Vec→Prop}{Q:Nat→Vec→Vec→Prop} (hZ:∀k,k≤x.zA.length→ ∀a b,V (suf (exx D x m T) k) a→V (suf (exx D x m T) k) b→a.take (x.zA.length-k)=b.take (x.zA.length-k)→(Z (tN m.Prime D (a.drop (x.zA.length-k)) (-1) (b.drop (x.zA.length-k)))↔Q k a b))
 include hM hZ
theorem zJT{k:Nat}(hk:k≤x.zA.length){a b:Vec}(ha:V (suf (exx D x m T) k) a)(hb:V (suf (exx D x m T) k) b)(e:a.take (x.zA.length-k)=b.take (x.zA.length-k)):∃r,f_Y ⟨x,m0,T⟩ (prE x k a) (prE x k b)=i7 r∧Row m.Prime D r∧(Z r↔Q k a b):=by
 have h7:=hE.m.p.pos;have h3:=hE.m.d3;obtain⟨y,u,rfl,hy,hu,cd,er⟩:=prV h hE hT hk ha;obtain⟨z,v,rfl,hz,hv,dP,mo⟩:=prV h hE hT hk hb;have mq:=hZ k hk _ _ ha hb e;rw[K3 er,K3 mo]at mq;unfold f_Y;rw[cd,dP];dsimp only
 rw[hM.pr,zC (by omega) (by omega),bs,tJ hE.m.p hu hv (by omega) (by omega),bs,zDT];exact⟨_,rfl,zA3 hE.m.p,mq⟩
section
variable {k:Nat} (hk:k<x.zA.length) (hc:LC x k)
 include hk
 include hc
theorem zZP{j:Nat}(h1:k+1≤j)(h2:j<x.zA.length){L0 L:Mx}{N:Nat}{C:Prop}(hL:GR m.Prime D Z L N C)(hN:N≤1000){f:Mx→Option (Mx×Int⊕Mx)}:∃L',((zMr ⟨x,m0,T⟩).bind fun r2=>
  (zJ (zPW ⟨x,m0,T⟩ (k:Int) (L0,(j:Int))) (r2.x,r2.v,0)).bind fun r8=>
  (zN4 ⟨x,m0,T⟩ (j:Int)).bind fun r9=>
  (f_h ⟨x,m0,T⟩ (k:Int) r9).bind fun r10=>
  (f_Y ⟨x,m0,T⟩ (zI.mk r8.1 r8.2) r10).bind fun r11=>
  (xW L [r11]).bind f)=f L'∧GR m.Prime D Z L' (N+1) (C∧c1Q Q (exx D x m T) k j):=by
 have ok:=vW h hE hT (k:=k+1) (by omega);have hn:=hE.hn;have hp:=(h.os.2 j h2).pos;have hz:=wO ok;obtain⟨c1,c2⟩:=zEL h hE hT (k:=k) (j:=j) (by omega) h2;obtain⟨p1,p2⟩:=zJQ h hE hT (k:=k) (j:=j) (by omega) h2;have hA:=zHO h hE hT hM (k:=k+1) (by omega);have hI:=zAI h hE hT hM hk;have u7:zJ (zPW ⟨x,m0,T⟩ (k:Int) (L0,(j:Int))) ((prE x (k+1) (zeros (suf (exx D x m T) (k+1)).length)).x,(prE x (k+1) (zeros (suf (exx D x m T) (k+1)).length)).v,0)=i7 ((prE x (k+1) (pw (mul (suf (exx D x m T) (k+1))) (zeros (suf (exx D x m T) (k+1)).length) ((lvl (exx D x m T) k).cs.getD (j-(k+1)) []) (at0 x.zA j).toNat)).x,(prE x (k+1) (pw (mul (suf (exx D x m T) (k+1))) (zeros (suf (exx D x m T) (k+1)).length) ((lvl (exx D x m T) k).cs.getD (j-(k+1)) []) (at0 x.zA j).toNat)).v):=
  zBP (S:=V (suf (exx D x m T) (k+1))) (fun w=>(prE x (k+1) w).x) (fun w=>(prE x (k+1) w).v) (fun w=>mul (suf (exx D x m T) (k+1)) w ((lvl (exx D x m T) k).cs.getD (j-(k+1)) [])) (at0 x.zA j) (by omega) (by grind[xE]) (fun w q hw hq=>by
   unfold zPW;dsimp only
   rw[yW h2,bs,ic hq,zN,zC (by omega) (by omega),bs,c1,bs,cs,show(zI.mk (prE x (k+1) w).x (prE x (k+1) w).v)=prE x (k+1) w from rfl,hA w _ hw c2,bs,zC (by omega) (by omega),bs,cs]) (fun w hw=>by
   simp_all[zPW,yW]) hz
 have dO:V (suf (exx D x m T) (k+1)) (pw (mul (suf (exx D x m T) (k+1))) (zeros (suf (exx D x m T) (k+1)).length) ((lvl (exx D x m T) k).cs.getD (j-(k+1)) []) (at0 x.zA j).toNat):=vL (by grind[xE]) _ hz;obtain⟨r,r1,r2,r3⟩:=zJT h hE hT hM hZ (k:=k+1) (by omega) dO (zF7 h hE hT hk p2) (by rw[zV4 h hE hT (by omega) c2,zDX h hE hT hk p2,zJe h hE hT hk h1 h2,zHP h hE hT hk (by omega) h2];exact hc.c1 j h1 h2)
 have u8:=hL.len;refine⟨L++[r],?_,hL.app (GR.one r2 (r3.trans ?_))⟩
 ·rw[zJR h hE hT (k:=k+1) (by omega) (by omega),bs,u7,bs,p1,bs,hI _ p2,bs]
  dsimp only
  rw[r1,bs,yT (by simp;omega),bs]
 ·unfold c1Q;rw[uZ h hE hT h2]
theorem zZQ{j:Nat}(h1:k+1≤j)(h2:j<x.zA.length){L0 L:Mx}{N:Nat}{C:Prop}(hL:GR m.Prime D Z L N C)(hN:N≤1000):∃L',zJ (zPX ⟨x,m0,T⟩ (k:Int) (L0,(j:Int))) (L,((j+1:Nat):Int))=i7 L'∧GR m.Prime D Z L' (N+(x.zA.length-(j+1))) (C∧ ∀j2,j+1≤j2→j2<x.zA.length→c2Q Q (exx D x m T) k j j2):=by
 have ok:=vW h hE hT (k:=k+1) (by omega);have hn:=hE.hn;have hA:=zHO h hE hT hM (k:=k+1) (by omega);have hI:=zAI h hE hT hM hk;refine tC (fun i(s:Mx×Int)=>s.2=((j+1+i:Nat):Int)∧GR m.Prime D Z s.1 (N+i) (C∧ ∀j2,j+1≤j2→j2<j+1+i→c2Q Q (exx D x m T) k j j2)) (x.zA.length-(j+1)) (fun i s hi ⟨hs,hg⟩=>?_) (fun s ⟨hs,hg⟩=>?_) ⟨rfl,hL.to (by omega) (by grind)⟩
 ·left
  obtain⟨L1,s2⟩:=s;dsimp only at hs hg;subst hs;have g2:j+1+i<x.zA.length:=by omega
  obtain⟨a1,a2⟩:=zEL h hE hT (k:=k) (j:=j) (by omega) h2;obtain⟨b1,b2⟩:=zEL h hE hT (k:=k) (j:=j+1+i) (by omega) g2;obtain⟨d1,d2⟩:=zOA h hE hT (k:=k) (i:=j) (j:=j+1+i) (by omega) (by omega) g2;have hs:=zF7 h hE hT hk d2;obtain⟨r,r1,r2,r3⟩:=zJT h hE hT hM hZ (k:=k+1) (by omega) (xE ok b2 a2) (xE ok a2 hs) (by rw[zBQ h hE hT (by omega) b2 a2,zBQ h hE hT (by omega) a2 hs,zDX h hE hT hk d2,zJe h hE hT hk h1 h2,zJe h hE hT hk (by omega) g2,zRP h hE hT hk h1 (by omega) g2];exact hc.c2 j h1 h2 (j+1+i) (by omega) g2)
  have u8:=hg.len;refine⟨(L1++[r],((j+1+i+1:Nat):Int)),?_,rfl,(hg.app (GR.one r2 r3)).to (by omega) ?_⟩
  ·unfold zPX
   dsimp only
   rw[ic (by omega),zN,a1,bs,b1,bs,d1,bs,hI _ d2,bs,zC (by omega) (by omega),bs,cs,hA _ _ b2 a2,bs,bs,hA _ _ a2 hs,bs,r1,bs,yT (by simp;omega),bs,zC (by omega) (by omega),bs,cs]
  ·constructor
   ·rintro⟨⟨g1,g3⟩,g4⟩
    refine⟨g1,fun j2 e1 e2=>?_⟩;rcases Jj j2 (j+1+i)with e|e
    ·grind
    ·obtain rfl:j2=j+1+i:=by omega
     exact g4
   ·rintro⟨g1,g3⟩
    exact⟨by grind,g3 (j+1+i) (by omega) (by omega)⟩
 ·obtain⟨L1,s2⟩:=s
  dsimp only at hs hg;subst hs;refine⟨L1,?_,hg.to (Ji _) ?_⟩
  ·unfold zPX
   grind
  grind
theorem zZR:∃L',zJ (zTt ⟨x,m0,T⟩ (k:Int)) ([],((k+1:Nat):Int))=i7 L'∧GR m.Prime D Z L' 100 (∀j,k+1≤j→j<x.zA.length→c1Q Q (exx D x m T) k j∧ ∀j2,j+1≤j2→j2<x.zA.length→c2Q Q (exx D x m T) k j j2):=by
 have hn:=hE.hn;refine tC (fun i(s:Mx×Int)=>s.2=((k+1+i:Nat):Int)∧GR m.Prime D Z s.1 (7*i) (∀j,k+1≤j→j<k+1+i→c1Q Q (exx D x m T) k j∧ ∀j2,j+1≤j2→j2<x.zA.length→c2Q Q (exx D x m T) k j j2)) (x.zA.length-(k+1)) (fun i s hi ⟨hs,hg⟩=>?_) (fun s ⟨hs,hg⟩=>?_) ⟨rfl,(GR.nil (N:=0)).to (by omega) (by grind)⟩
 ·left
  obtain⟨L1,s2⟩:=s;dsimp only at hs hg;subst hs;have g2:k+1+i<x.zA.length:=by omega
  obtain⟨L2,e2,hg2⟩:=zZP h hE hT hM hZ hk hc (j:=k+1+i) (by omega) g2 (L0:=L1) hg (by omega) (f:=fun v12=>(rng (((k+1+i:Nat):Int)+1)).bind fun v13=>
   (zJ (zPX ⟨x,m0,T⟩ (k:Int) (L1,((k+1+i:Nat):Int))) (v12,v13)).bind fun r25=>
   (rng (((k+1+i:Nat):Int)+1)).bind fun v26=>i7 (.inl (r25,v26)))
  obtain⟨L3,e3,hg3⟩:=zZQ h hE hT hM hZ hk hc (j:=k+1+i) (by omega) g2 (L0:=L1) hg2 (by omega);refine⟨(L3,((k+1+i+1:Nat):Int)),?_,rfl,hg3.to (by omega) ?_⟩
  ·unfold zTt
   dsimp only
   rw[ic (by omega),zN,e2,zC (by omega) (by omega),bs,cs,e3,bs,bs]
  grind
 ·obtain⟨L1,s2⟩:=s
  dsimp only at hs hg;subst hs;refine⟨L1,?_,hg.to (by omega) ?_⟩
  ·unfold zTt
   grind
  grind
theorem zRR{j:Nat}(h1:k+1≤j)(h2:j<x.zA.length):∃r,zMr ⟨x,m0,T⟩=i7 r∧ixO r.x (j:Int)=i7 0∧r.x.set j 1=(prE x (k+1) (xI (x.zA.length-(k+1)) (j-(k+1))++zeros D)).x∧r.v=(prE x (k+1) (xI (x.zA.length-(k+1)) (j-(k+1))++zeros D)).v:=by
 have _:=hM;have _:=hZ;have _:=hc;have hn:=hE.hn;have eT:(xI (x.zA.length-(k+1)) (j-(k+1))).length=x.zA.length-(k+1):=by rw[kO,yA]
 refine⟨_,zJR h hE hT (k:=k+1) (by omega) (by omega),?_,?_,?_⟩
 ·rw[zAX h hE hT (by omega),qQ (zZ _)]
  dsimp only
  simp only[fv,zeros,Jk];rw[vT,Ke,if_pos (by omega)]
 ·rw[zAX h hE hT (by omega),qQ (zZ _),qQ eT]
  dsimp only
  have e1:fv (k+1) (zeros (x.zA.length-(k+1)))=zeros j++0::zeros (x.zA.length-(k+1)-(j-(k+1)+1)):=by
   simp only[fv,zeros];rw[←Jp,Jk,Jk]
   grind
  rw[e1,zD1,fv,zAm (by omega),←Jc]
  grind[zeros,Jk]
 grind[zAX,qQ,zZ]
theorem zZS{L:Mx}{N:Nat}{C:Prop}(hL:GR m.Prime D Z L N C)(hN:N≤1000):∃L',zJ (zPY ⟨x,m0,T⟩ (k:Int) (prE x (k+1) (((exx D x m T).zT.getD k []).drop (k+1)))) (L,((k+1:Nat):Int))=i7 L'∧GR m.Prime D Z L' (N+(x.zA.length-(k+1))) (C∧ ∀j,k+1≤j→j<x.zA.length→c4Q Q (exx D x m T) k j):=by
 have hn:=hE.hn;have hpk:=(h.os.2 k hk).pos;have h7:=hE.m.p.pos;have ok:=vW h hE hT (k:=k+1) (by omega);have hA:=zHO h hE hT hM (k:=k+1) (by omega);have hI:=zAI h hE hT hM hk;obtain⟨p1,p2⟩:=zJQ (m0:=m0) h hE hT (k:=k) (j:=k) (Ji k) hk;change V (suf (exx D x m T) (k+1)) (lvl (exx D x m T) k).w at p2;change∃L',zJ (zPY ⟨x,m0,T⟩ (k:Int) (prE x (k+1) (lvl (exx D x m T) k).w)) (L,((k+1:Nat):Int))=i7 L'∧_;have di:(lvl (exx D x m T) k).w.take (x.zA.length-(k+1))=(lvl x k).w:=zHP h hE hT hk (Ji k) hk;have ho:(lvl (exx D x m T) k).o=at0 x.zA k:=zBv h hE hT hk;refine tC (fun i(s:Mx×Int)=>s.2=((k+1+i:Nat):Int)∧GR m.Prime D Z s.1 (N+i) (C∧ ∀j,k+1≤j→j<k+1+i→c4Q Q (exx D x m T) k j)) (x.zA.length-(k+1)) (fun i s hi ⟨hs,hg⟩=>?_) (fun s ⟨hs,hg⟩=>?_) ⟨rfl,hL.to (by omega) (by grind)⟩
 ·left
  obtain⟨L1,s2⟩:=s;dsimp only at hs hg;subst hs;have g2:k+1+i<x.zA.length:=by omega
  obtain⟨r33,z1,z2,z3,z4⟩:=zRR h hE hT hM hZ hk hc (j:=k+1+i) (by omega) g2;have hue:=zRQ h hE hT hk (j:=k+1+i) (by omega) g2;have hux:V (suf x (k+1)) (xI (x.zA.length-(k+1)) (k+1+i-(k+1))):=by
   have:=zCv (h.okAt (k:=k+1) (by omega)) (j:=k+1+i-(k+1)) (by grind[yN])
   grind[yN]
  have eT:=wY h (by omega) hux;have bx:V (suf (exx D x m T) (k+1)) (xI (x.zA.length-(k+1)) (k+1+i-(k+1))++zeros D):=(sD h hE hT (x.zA.length-(k+1)) (k+1) (by omega) _).2 ⟨_,_,rfl,hux,xK (by omega)⟩;have ef:V (suf (exx D x m T) (k+1)) (iter (at0 x.zA k).toNat (sig (suf (exx D x m T) (k+1)) (lvl (exx D x m T) k)) (xI (x.zA.length-(k+1)) (k+1+i-(k+1))++zeros D)):=vL (fun w hw=>zF7 h hE hT hk hw) _ bx;have u7:zJ (zTu ⟨x,m0,T⟩ (k:Int)) ((prE x (k+1) (xI (x.zA.length-(k+1)) (k+1+i-(k+1))++zeros D)).x,(prE x (k+1) (xI (x.zA.length-(k+1)) (k+1+i-(k+1))++zeros D)).v,0)=i7 ((prE x (k+1) (iter (at0 x.zA k).toNat (sig (suf (exx D x m T) (k+1)) (lvl (exx D x m T) k)) (xI (x.zA.length-(k+1)) (k+1+i-(k+1))++zeros D))).x,(prE x (k+1) (iter (at0 x.zA k).toNat (sig (suf (exx D x m T) (k+1)) (lvl (exx D x m T) k)) (xI (x.zA.length-(k+1)) (k+1+i-(k+1))++zeros D))).v):=
   zBP (S:=V (suf (exx D x m T) (k+1))) (fun w=>(prE x (k+1) w).x) (fun w=>(prE x (k+1) w).v) (sig (suf (exx D x m T) (k+1)) (lvl (exx D x m T) k)) (at0 x.zA k) (by omega) (fun w hw=>zF7 h hE hT hk hw) (fun w q hw hq=>by
    unfold zTu;dsimp only
    rw[yW hk,bs,ic hq,zN,show(zI.mk (prE x (k+1) w).x (prE x (k+1) w).v)=prE x (k+1) w from rfl,hI w hw,bs,zC (by omega) (by omega),bs,cs]) (fun w hw=>by
    simp_all[zTu,yW]) bx
  obtain⟨r,r1,r2,r3⟩:=zJT h hE hT hM hZ (k:=k+1) (by omega) (xE ok p2 ef) (xE ok bx p2) (by rw[zBQ h hE hT (by omega) p2 ef,zBQ h hE hT (by omega) bx p2,zJS h hE hT hk _ bx,di,Js eT];exact hc.c4 (k+1+i) (by omega) g2)
  have u8:=hg.len;refine⟨(L1++[r],((k+1+i+1:Nat):Int)),?_,rfl,(hg.app (GR.one r2 r3)).to (by omega) ?_⟩
  ·unfold zPY
   dsimp only
   rw[ic (by omega),zN,z1,bs,z2,bs,Ja,z3,z4,u7,bs,zC (by omega) (by omega),bs,cs];dsimp only
   have e1:=hA _ _ p2 ef;have e2:=hA _ _ bx p2;rw[show∀w,(zI.mk (prE x (k+1) w).x (prE x (k+1) w).v)=prE x (k+1) w from fun _=>rfl,show∀w,(zI.mk (prE x (k+1) w).x (prE x (k+1) w).v)=prE x (k+1) w from fun _=>rfl,e1,bs,bs,e2,bs,r1,bs,yT (by simp;omega),bs,zC (by omega) (by omega),bs,cs]
  ·have e4:c4Q Q (exx D x m T) k (k+1+i)↔Q (k+1) (mul (suf (exx D x m T) (k+1)) (lvl (exx D x m T) k).w (iter (at0 x.zA k).toNat (sig (suf (exx D x m T) (k+1)) (lvl (exx D x m T) k)) (xI (x.zA.length-(k+1)) (k+1+i-(k+1))++zeros D))) (mul (suf (exx D x m T) (k+1)) (xI (x.zA.length-(k+1)) (k+1+i-(k+1))++zeros D) (lvl (exx D x m T) k).w):=by
    grind[c4Q]
   rw[←e4];constructor
   ·grind
   grind
 ·obtain⟨L1,s2⟩:=s
  dsimp only at hs hg;subst hs;refine⟨L1,?_,hg.to (Ji _) ?_⟩
  ·unfold zPY
   grind
  grind
theorem zWU:∃L,f_l ⟨x,m0,T⟩ (k:Int)=i7 L∧GR m.Prime D Z L 120 (LCQ Q x (exx D x m T) k):=by
 have hn:=hE.hn;have hI:=zAI h hE hT hM hk;obtain⟨p1,p2⟩:=zJQ h hE hT (k:=k) (j:=k) (Ji k) hk;obtain⟨L1,e1,g1⟩:=zZR h hE hT hM hZ hk hc;have hs:=zF7 h hE hT hk p2;obtain⟨r,r1,r2,r3⟩:=zJT h hE hT hM hZ (k:=k+1) (by omega) hs p2 (by rw[zDX h hE hT hk p2,zHP h hE hT hk (Ji k) hk];exact hc.c3)
 obtain⟨L2,e2,g2⟩:=zZS h hE hT hM hZ hk hc (g1.app (GR.one r2 r3)) (by omega);have u8:=g1.len;refine⟨L2,?_,g2.to (by omega) ?_⟩
 ·unfold f_l
  rw[zC (by omega) (by omega),bs,cs,e1,bs,p1,bs,hI _ p2,bs,r1,bs,yT (by simp;omega),bs,bs,e2,bs]
 ·constructor
  ·rintro⟨⟨a1,a2⟩,a3⟩
   exact⟨by grind,by grind,a2,a3⟩
  ·intro a
   exact⟨⟨fun j b1 b2=>⟨a.c1 j b1 b2,fun j2 b3 b4=>a.c2 j b1 b2 j2 b3 b4⟩,a.c3⟩,a.c4⟩
end
theorem zWV(hx:wR (suf x 0)):∃L,f_M ⟨x,m0,T⟩=i7 L∧GR m.Prime D Z L 1000 (∀k,k<x.zA.length→LCQ Q x (exx D x m T) k):=by
 have hn:=hE.hn;have h3:=hE.m.d3;have mZ:∀k,k<x.zA.length→LC x k:=fun k hk=>((zA1 h.w hk).1 (zBr hx k)).2
 obtain⟨L,e,g⟩:=tC (body:=zPZ ⟨x,m0,T⟩) (Q:=fun L=>GR m.Prime D Z L 1000 (∀k,k<x.zA.length→LCQ Q x (exx D x m T) k)) (fun i(s:Mx×Int)=>s.2=(i:Int)∧GR m.Prime D Z s.1 (120*i) (∀k,k<i→LCQ Q x (exx D x m T) k)) x.zA.length (fun i s hi ⟨hs,hg⟩=>by
  left;obtain⟨L1,s2⟩:=s;dsimp only at hs hg;subst hs;obtain⟨L2,e2,g2⟩:=zWU h hE hT hM hZ hi (mZ i hi);have l1:=hg.len;have l2:=g2.len;refine⟨(L1++L2,((i+1:Nat):Int)),?_,rfl,(hg.app g2).to (by omega) ?_⟩
  ·unfold zPZ
   dsimp only
   rw[xJ hi,zN,e2,bs,yT (by omega),bs,zC (by omega) (by omega),bs,cs]
  grind) (fun s ⟨hs,hg⟩=>by
  obtain⟨L1,s2⟩:=s;dsimp only at hs hg;subst hs;refine⟨L1,?_,hg.to (by omega) Iff.rfl⟩
  simp_all[zPZ]) (s:=([],0)) ⟨rfl,(GR.nil (N:=0)).to (by omega) (by simp)⟩
 grind[f_M]
end
end Go.Pl

namespace Go.Pl
open Go Go.Ab Go.Wk Go.Pc
end Go.Pl

namespace Go.Pl
open Go Go.Ab Go.Wk Go.Pc
end Go.Pl

namespace Go.Pl
open Go Go.Ab Go.Wk Go.Pc
end Go.Pl

namespace Go.Pl
open Go Go.Ab Go.Wk Go.Pc
end Go.Pl

namespace Go.Pl
open Go Go.Ab Go.Wk Go.Pc
end Go.Pl

namespace Go.Pl
open Go Go.Ab Go.Wk Go.Pc
end Go.Pl

namespace Go.Pl
open Go Go.Ab Go.Wk Go.Pc
abbrev zDY:=Nat×List Nat×List Nat
section
variable (x:SPr)
abbrev yH(a:Nat):Nat:=(at0 x.zA a).toNat
abbrev lcj(i j:Nat):List Int:=(x.zF.getD i []).getD (j-(i+1)) []
def swp:List Nat→Option zDY
 |a::b::s=>if b<a then i7 (base x.zA.length b+(a-(b+1)),s,b::(nw 0 (lcj x b a)++s))else i8
 |_=>i8
def pws:List Nat→Option zDY
 |a::w=>if(a::w).take (yH x a)=J1 (yH x a) a then i7 (a,(a::w).drop (yH x a),nw 0 (x.zT.getD a [])++(a::w).drop (yH x a))else i8
 | []=>i8
def hdS(w:List Nat):Option zDY:=match swp x w with
 |some r=>i7 r
 |none=>pws x w
def stS:List Nat→Option zDY
 | []=>i8
 |a::w=>match hdS x (a::w)with
  |some r=>i7 r
  |none=>(stS w).map fun r=>(r.1,r.2.1,a::r.2.2)
end
section
variable {x:SPr}
theorem zUq{w s:List Nat}{r:zDY}(h:swp x w=i7 r):swp x (w++s)=i7 (r.1,r.2.1++s,r.2.2++s):=by
 match w,h with
 | [],h=>cases h
 | [_],h=>cases h
 |a::b::w,h=>
  simp only[swp]at h
  by_cases g:b<a
  ·rw[if_pos g]at h
   cases h;simp only[K1,swp,if_pos g,Jc]
  grind
theorem zBw{w:List Nat}{o a:Nat}(h:w.take o=J1 o a):o≤w.length:=by
 have:=congrArg Jba h
 grind
theorem zUr{w s:List Nat}{r:zDY}(h:pws x w=i7 r):pws x (w++s)=i7 (r.1,r.2.1++s,r.2.2++s):=by
 match w,h with
 | [],h=>cases h
 |a::w,h=>
  simp only[pws]at h
  by_cases g:(a::w).take (yH x a)=J1 (yH x a) a
  ·rw[if_pos g]at h
   cases h;have hl:=zBw g;have e1:(a::(w++s)).take (yH x a)=(a::w).take (yH x a):=by grind
   have e2:(a::(w++s)).drop (yH x a)=(a::w).drop (yH x a)++s:=by grind
   simp only[K1,pws]
   grind
  grind
theorem zEM{a b:Nat}{s s2:List Nat}(h:swp x (a::b::s)=i8):swp x (a::b::s2)=i8:=by
 simp only[swp]at h ⊢
 grind
theorem zOB{w:List Nat}(h:hdS x w=i8):swp x w=i8∧pws x w=i8:=by
 unfold hdS at h
 grind
theorem zRS{w:List Nat}(h1:swp x w=i8)(h2:pws x w=i8):hdS x w=i8:=by grind[hdS]
theorem zWW{w s:List Nat}(hw:∀a∈w,2≤yH x a){r:zDY}(h:hdS x w=i7 r):hdS x (w++s)=i7 (r.1,r.2.1++s,r.2.2++s):=by
 unfold hdS at h ⊢
 cases e:swp x w with
 |some q=>
  grind[zUq]
 |none=>
  rw[e]at h;have e2:swp x (w++s)=i8:=by
   match w,h with
   | [],h=>cases h
   | [a],h=>
    have h2:=hw a (by simp);simp only[pws]at h
    by_cases g:[a].take (yH x a)=J1 (yH x a) a
    ·have h4:=zBw g;grind
    grind
   |a::b::w,h=>exact zEM e
  grind[zUr]
theorem zDZ{k a:Nat}(hk:k<yH x a):∀j,j≤k→ ∀{w:List Nat},(∀b,w.head? =i7 b→a<b)→stS x (J1 j a++w)=(stS x w).map fun r=>(r.1,r.2.1,J1 j a++r.2.2)
 |0,_,w,_=>by simp
 |j+1,hj,w,hw=>by
  have ih:=zDZ hk j (by omega) hw;rw[Jp,K1];have h1:swp x (a::(J1 j a++w))=i8:=by
   cases j with
   |succ j=>simp only[Jp,K1,swp,if_neg (Jbk a)]
   |zero=>
    simp only[Hk,Jt];cases w with
    |nil=>rfl
    |cons b w=>
     have:=hw b rfl;simp only[swp,if_neg (show¬b<a by omega)]
  have h2:pws x (a::(J1 j a++w))=i8:=by
   simp only[pws];refine if_neg fun g=>?_
   have hl:=zBw g;have:=congrArg (fun l=>l[j+1]?) g;rw[Gw (by omega),←K1,←Jp,J9 (by simp),Jf,Kl,Qi (by omega)]at this
   grind[List.head?_eq_getElem?]
  simp only[stS];rw[zRS h1 h2,ih];cases stS x w with
  |none=>rfl
  |some r=>rfl
theorem zWX{k a:Nat}(hk:k<yH x a):stS x (J1 k a)=i8:=by
 have:=zDZ hk k (Ji _) (w:=[]) (by simp)
 grind[stS]
theorem zJU:∀{u s:List Nat},(∀a∈u,2≤yH x a)→ ∀{r:zDY},stS x u=i7 r→stS x (u++s)=i7 (r.1,r.2.1++s,r.2.2++s)
 | [],_,_,_,h=>by cases h
 |a::w,s,hu,r,h=>by
  simp only[stS]at h;rw[K1];simp only[stS];cases e:hdS x (a::w)with
  |some q=>
   grind[zWW]
  |none=>
   rw[e]at h;cases e2:stS x w with
   |none=>grind
   |some q=>
    rw[e2]at h;cases h;obtain⟨n1,n2⟩:=zOB e;have m1:swp x (a::(w++s))=i8:=by
     cases w with
     |nil=>cases e2
     |cons b w=>exact zEM n1
    have m2:pws x (a::(w++s))=i8:=by
     simp only[pws]at n2 ⊢
     refine if_neg fun g=>?_
     by_cases hl:yH x a≤(a::w).length
     ·grind
     ·have:a::w=J1 (a::w).length a:=by
       have g':=congrArg (Jb8 (a::w).length) g
       grind
      grind[zWX]
    rw[zRS m1 m2,zJU (s:=s) (by grind) e2];rfl
theorem zFY{u s:List Nat}(hu:∀a∈u,2≤yH x a)(h:stS x (u++s)=i8):stS x u=i8:=by
 cases e:stS x u with
 |none=>rfl
 |some r=>grind[zJU]
theorem zRT:∀{u:List Nat}{l i:Nat}{z:List Nat},(∀a∈u,i<a)→i<l→stS x (u++[l])=i8→stS x (u++l::i::z)=i7 (base x.zA.length i+(l-(i+1)),z,u++i::(nw 0 (lcj x i l)++z))
 | [],l,i,z,_,hl,_=>by simp only[Jt,stS,hdS,swp,if_pos hl]
 |a::u,l,i,z,hu,hl,hn=>by
  rw[K1]at hn ⊢
  simp only[stS]at hn ⊢
  cases e:hdS x (a::(u++[l]))with
  |some q=>grind
  |none=>
   rw[e]at hn;have mV:stS x (u++[l])=i8:=by simp_all
   obtain⟨n1,n2⟩:=zOB e;have m1:swp x (a::(u++l::i::z))=i8:=by
    cases u with
    |nil=>exact zEM n1
    |cons b u=>exact zEM n1
   have m2:pws x (a::(u++l::i::z))=i8:=by
    simp only[pws]at n2 ⊢
    refine if_neg fun g=>?_
    have ea:a::(u++l::i::z)=(a::(u++[l]))++i::z:=by simp
    by_cases ho:yH x a≤(a::(u++[l])).length
    ·grind
    ·have g':=congrArg (fun w=>w[(a::(u++[l])).length]?) g
     rw[Gw (by omega),ea,J9 (Ji _),Kl,Qi (by omega)]at g';have:i=a:=by grind
     simp_all
   rw[zRS m1 m2,zRT (by grind) hl mV];rfl
theorem zV5{a:Nat}(ha:2≤yH x a)(w:List Nat):stS x (J1 (yH x a) a++w)=i7 (a,w,nw 0 (x.zT.getD a [])++w):=by
 obtain⟨k,hk⟩:∃k,yH x a=k+2:=⟨yH x a-2,by omega⟩;have e:J1 (yH x a) a++w=a::a::(J1 k a++w):=by grind
 have h1:swp x (J1 (yH x a) a++w)=i8:=by rw[e];simp only[swp,if_neg (Jbk a)]
 have h2:pws x (J1 (yH x a) a++w)=i7 (a,w,nw 0 (x.zT.getD a [])++w):=by
  have et:(J1 (yH x a) a++w).take (yH x a)=J1 (yH x a) a:=by simp
  have ed:(J1 (yH x a) a++w).drop (yH x a)=w:=by simp
  rw[e]at et ed ⊢
  simp only[pws]
  grind
 have h3:hdS x (J1 (yH x a) a++w)=i7 (a,w,nw 0 (x.zT.getD a [])++w):=by grind[hdS]
 grind[stS]
end
end Go.Pl

namespace Go.Pl
open Go Go.Ab Go.Wk Go.Pc
theorem zDg{p:Int}{D:Nat}{u v w:List Int}:adv p D (adv p D u v) w=adv p D u (adv p D v w):=by
 refine yC fun j hj=>?_
 grind[yG,Jbc]
theorem zEN{p:Int}{D:Nat}{u v:List Int}{A:Mx}:wA p D (adv p D u v) A=adv p D (wA p D u A) (wA p D v A):=by
 refine yC fun j hj=>?_
 rw[wA,wA,yG hj,yG hj,←Kc,←zC6];refine kL fun l hl=>?_
 rw[yG hl,←Qo,Jq,Jy,←Jq]
theorem zLK{α:Type}(m:α→α→α)(z:α):∀(cs:List α)(j n:Nat)(acc:α),j<cs.length→j<n→img m cs (xI n j) acc=m acc (cs.getD j z)
 | [],_,_,_,h,_=>by simp at h
 |c::cs,0,n+1,acc,_,_=>by grind[zCW,img,iter,sW]
 |c::cs,j+1,n+1,acc,h,h2=>by rw[zFt];show img m cs (xI n j) (iter (0:Int).toNat (fun v=>m v c) acc)=_;rw[show iter (0:Int).toNat (fun v=>m v c) acc=acc from rfl,zLK m z cs j n acc (by grind) (by omega),Uz]
 |_::_,0,0,_,_,h=>by omega
 |_::_,_+1,0,_,_,h=>by omega
theorem zF8(n d:Nat):zeros (n+d)=zeros n++zeros d:=by grind[zeros,Jk]
theorem zRU{n d j:Nat}(hj:j<n):xI (n+d) j=xI n j++zeros d:=by grind[xI,zF8,zZ]
def fo(e:SPr)(k:Nat)(u:Vec)(w:List Nat):Vec:=w.foldl (fun u a=>mul (suf e k) u (xI (e.zA.length-k) (a-k))) u
theorem zCE{e:SPr}{k:Nat}{u:Vec}{v w:List Nat}:fo e k u (v++w)=fo e k (fo e k u v) w:=by simp[fo,Gm]
theorem sE{e:SPr}{k:Nat}{u:Vec}{a:Nat}{w:List Nat}:fo e k u (a::w)=fo e k (mul (suf e k) u (xI (e.zA.length-k) (a-k))) w:=rfl
theorem zWY{e:SPr}{k a:Nat}(ha:k<a)(hn:a<e.zA.length){b:Int}{y:Vec}(hb:b<at0 e.zA k):mul (suf e k) (b::y) (xI (e.zA.length-k) (a-k))=b::mul (suf e (k+1)) y (xI (e.zA.length-(k+1)) (a-(k+1))):=by obtain⟨t,ht⟩:∃t,a-k=t+1:=⟨a-(k+1),by omega⟩;obtain⟨s,hs⟩:∃s,e.zA.length-k=s+1:=⟨e.zA.length-(k+1),by omega⟩;rw[yE (x:=e) (by omega),ht,hs,zFt,yY,if_neg (by show¬(b+0≥at0 e.zA k);omega),show a-(k+1)=t from by omega,show e.zA.length-(k+1)=s from by omega,Ly];rfl
theorem zWZ{e:SPr}{k:Nat}(hn:k<e.zA.length){b:Int}{y:Vec}:mul (suf e k) (b::y) (xI (e.zA.length-k) (k-k))=if b+1≥at0 e.zA k then(b+1-at0 e.zA k)::mul (suf e (k+1)) (lvl e k).w (mul (suf e (k+1)) (sig (suf e (k+1)) (lvl e k) y) (zeros (e.zA.length-(k+1))))else(b+1)::mul (suf e (k+1)) (sig (suf e (k+1)) (lvl e k) y) (zeros (e.zA.length-(k+1))):=by obtain⟨s,hs⟩:∃s,e.zA.length-k=s+1:=⟨e.zA.length-(k+1),by omega⟩;rw[yE (x:=e) hn,hs,Kl,zCW,yY,show e.zA.length-(k+1)=s from by omega];rfl
section
variable {D:Nat}{x:SPr}{m:zE}{T:Mx} (h:Pres x) (hE:ExB x.zA.length D x m T) (hT:∀i,i<T.length→Row m.Prime D (T.getD i []))
 include h hE hT
theorem zXa{k:Nat}(hk:k≤x.zA.length){e:Vec}(he:V (suf (exx D x m T) k) e):mul (suf (exx D x m T) k) e (zeros ((exx D x m T).zA.length-k))=e:=by have hp:=hE.m.p.pos;obtain⟨y,u,rfl,hy,hu⟩:=(sD h hE hT (x.zA.length-k) k (by omega) _).1 he;have:=zEK h hE hT (x.zA.length-k) k (by omega) y u (zeros D) hy hu (xK (by omega));rw[zA4 hu]at this;rw[wH h hE hT,show x.zA.length+D-k=(x.zA.length-k)+D from by omega,zF8];exact this
def adK(p:Int)(D N:Nat)(e d:Vec):Vec:=e.take N++adv p D (e.drop N) d
theorem zJV{k:Nat}(hk:k≤x.zA.length){e d:Vec}(he:V (suf (exx D x m T) k) e)(hd:Row m.Prime D d):adK m.Prime D (x.zA.length-k) e d=mul (suf (exx D x m T) k) e (zeros (x.zA.length-k)++d):=by
 obtain⟨y,u,rfl,hy,hu⟩:=(sD h hE hT (x.zA.length-k) k (by omega) _).1 he
 grind[wY,zEK,adK]
theorem zXb{k:Nat}(hk:k≤x.zA.length){e d:Vec}(he:V (suf (exx D x m T) k) e):V (suf (exx D x m T) k) (adK m.Prime D (x.zA.length-k) e d):=by have hp:=hE.m.p.pos;obtain⟨y,u,rfl,hy,hu⟩:=(sD h hE hT (x.zA.length-k) k (by omega) _).1 he;have er:=wY h (by omega) hy;rw[adK,Js er,K3 er];exact(sD h hE hT (x.zA.length-k) k (by omega) _).2 ⟨y,_,rfl,hy,sZ (by omega)⟩
theorem zV6{k:Nat}(hk:k≤x.zA.length){e d d':Vec}(he:V (suf (exx D x m T) k) e):adK m.Prime D (x.zA.length-k) (adK m.Prime D (x.zA.length-k) e d) d'=adK m.Prime D (x.zA.length-k) e (adv m.Prime D d d'):=by obtain⟨y,u,rfl,hy,hu⟩:=(sD h hE hT (x.zA.length-k) k (by omega) _).1 he;have er:=wY h (by omega) hy;simp only[adK,Js er,K3 er,zDg]
theorem zAJ{k:Nat}(hk:k<x.zA.length){b:Int}{e d:Vec}:adK m.Prime D (x.zA.length-k) (b::e) d=b::adK m.Prime D (x.zA.length-(k+1)) e d:=by have _:=h;have _:=hE;have _:=hT;rw[show x.zA.length-k=x.zA.length-(k+1)+1 from by omega];rfl
theorem zD{k:Nat}(hk:k≤x.zA.length){d:Vec}(hd:Row m.Prime D d):V (suf (exx D x m T) k) (zeros (x.zA.length-k)++d):=
 (sD h hE hT (x.zA.length-k) k (by omega) _).2 ⟨_,d,rfl,zv h hE hT hk,hd⟩
theorem zV7{k a:Nat}(hk:k≤a)(ha:a<x.zA.length):V (suf x k) (xI (x.zA.length-k) (a-k)):=by
 have _:=hE;have _:=hT;have:=zCv (h.okAt (k:=k) (by omega)) (j:=a-k) (by grind[yN])
 grind[yN]
theorem zP9{k a:Nat}(hk:k≤a)(ha:a<x.zA.length):xI ((exx D x m T).zA.length-k) (a-k)=xI (x.zA.length-k) (a-k)++zeros D:=by rw[wH h hE hT,show x.zA.length+D-k=x.zA.length-k+D from by omega,zRU (by omega)]
theorem zCF{k a:Nat}(hk:k≤a)(ha:a<x.zA.length):V (suf (exx D x m T) k) (xI ((exx D x m T).zA.length-k) (a-k)):=by have hp:=hE.m.p.pos;rw[zP9 h hE hT hk ha];exact(sD h hE hT (x.zA.length-k) k (by omega) _).2 ⟨_,_,rfl,zV7 h hE hT hk ha,xK (by omega)⟩
theorem zUs{k a:Nat}(hk:k≤a)(ha:a<x.zA.length):aM m D k (xI (x.zA.length-k) (a-k))=m.zH.getD a []:=by have _:=h;have _:=hT;have hA:=hE.m.mat a ha;have hl:=hE.m.len;unfold aM;rw[zLK (PM m.Prime D) [] _ _ _ _ (by grind) (by omega),J2,He,show k+(a-k)=a from by omega,←J2,zBF hA]
variable {k:Nat} (hk:k<x.zA.length) (hc:wR (suf (exx D x m T) (k+1)))
 include hk hc
theorem zV8{a:Nat}(h1:k+1≤a)(ha:a<x.zA.length){e d:Vec}(he:V (suf (exx D x m T) (k+1)) e)(hd:Row m.Prime D d):
  mul (suf (exx D x m T) (k+1)) (adK m.Prime D (x.zA.length-(k+1)) e d) (xI ((exx D x m T).zA.length-(k+1)) (a-(k+1)))=adK m.Prime D (x.zA.length-(k+1)) (mul (suf (exx D x m T) (k+1)) e (xI ((exx D x m T).zA.length-(k+1)) (a-(k+1)))) (wA m.Prime D d (m.zH.getD a [])):=by
 have hp:=hE.m.p.pos;have gB:=vW h hE hT (k:=k+1) (by omega);have G:=(zCx _ gB hc).toMon;have hg:=zCF h hE hT h1 ha;have hgv:=zV7 h hE hT h1 ha;have hz:=zD h hE hT (k:=k+1) (by omega) hd;have eJ:=zD h hE hT (k:=k+1) (by omega) (wX (p:=m.Prime) (D:=D) (r:=d) (B:=m.zH.getD a []) (by omega));rw[zJV h hE hT (by omega) he hd,G.assoc he hz hg,zP9 h hE hT h1 ha,zO8 h hE hT _ (k+1) (by omega) _ _ _ hd hgv (xK (by omega)),zA4 (wX (by omega)),zUs h hE hT h1 ha,←zP9 h hE hT h1 ha,zJV h hE hT (by omega) (G.cl he hg) (wX (by omega)),G.assoc he hg eJ,zP9 h hE hT h1 ha,zEK h hE hT _ (k+1) (by omega) _ _ _ hgv (xK (by omega)) (wX (by omega)),vR (wX (by omega))]
 omit hc in
theorem zHQ{e d:Vec}(he:V (suf (exx D x m T) (k+1)) e)(_hd:Row m.Prime D d):
    sig (suf (exx D x m T) (k+1)) (lvl (exx D x m T) k) (adK m.Prime D (x.zA.length-(k+1)) e d)=adK m.Prime D (x.zA.length-(k+1)) (sig (suf (exx D x m T) (k+1)) (lvl (exx D x m T) k) e) (wA m.Prime D d (m.zH.getD k [])):=by
  have hp:=hE.m.p.pos;obtain⟨y,u,rfl,hy,hu⟩:=(sD h hE hT (x.zA.length-(k+1)) (k+1) (by omega) _).1 he;have er:=wY h (by omega) hy;obtain⟨y1,u1,e,ff,cw⟩:=(sD h hE hT (x.zA.length-(k+1)) (k+1) (by omega) _).1 (zHJ h hE hT hk (y:=y));have gK:=wY h (by omega) ff;have e0:adK m.Prime D (x.zA.length-(k+1)) (y++u) d=y++adv m.Prime D u d:=by grind[adK]
  rw[e0,zBN h hE hT hk hy (sZ (by omega)),zBN h hE hT hk hy hu,e,Js gK,K3 gK,adK,Js gK,K3 gK,zEN,zDg]
theorem zLL{z d:Vec}(hz:V (suf (exx D x m T) (k+1)) z)(hd:Row m.Prime D d){w:Vec}(hw:V (suf (exx D x m T) (k+1)) w):
  mul (suf (exx D x m T) (k+1)) w (adK m.Prime D (x.zA.length-(k+1)) z d)=adK m.Prime D (x.zA.length-(k+1)) (mul (suf (exx D x m T) (k+1)) w z) d:=by
 have gB:=vW h hE hT (k:=k+1) (by omega);have G:=(zCx _ gB hc).toMon;rw[zJV h hE hT (by omega) hz hd,zJV h hE hT (by omega) (G.cl hw hz) hd,G.assoc hw hz (by grind[zD])]
 omit hc in
theorem zPA:V (suf (exx D x m T) (k+1)) (lvl (exx D x m T) k).w:=by
  have gB:=vW h hE hT (k:=k) (by omega);rw[yE (x:=exx D x m T) (by grind[wH])]at gB;exact gB.2.1
 omit hc in
theorem zA6{e:Vec}(he:V (suf (exx D x m T) (k+1)) e):V (suf (exx D x m T) (k+1)) (sig (suf (exx D x m T) (k+1)) (lvl (exx D x m T) k) e):=by
  have gB:=vW h hE hT (k:=k) (by omega);rw[yE (x:=exx D x m T) (by grind[wH])]at gB
  grind[zCw]
theorem zFZ{b:Int}{e:Vec}(he:V (suf (exx D x m T) (k+1)) e):mul (suf (exx D x m T) k) (b::e) (xI ((exx D x m T).zA.length-k) (k-k))=if b+1≥at0 x.zA k then(b+1-at0 x.zA k)::mul (suf (exx D x m T) (k+1)) (lvl (exx D x m T) k).w (sig (suf (exx D x m T) (k+1)) (lvl (exx D x m T) k) e)else(b+1)::sig (suf (exx D x m T) (k+1)) (lvl (exx D x m T) k) e:=by have _:=hc;rw[zWZ (by grind[wH]),zXa h hE hT (by omega) (zA6 h hE hT hk he),uZ h hE hT hk]
theorem zLM{a:Nat}(h1:k<a)(ha:a<x.zA.length){b:Int}(hb:b<at0 x.zA k){e:Vec}:mul (suf (exx D x m T) k) (b::e) (xI ((exx D x m T).zA.length-k) (a-k))=b::mul (suf (exx D x m T) (k+1)) e (xI ((exx D x m T).zA.length-(k+1)) (a-(k+1))):=by have _:=hc;grind[zWY,wH,uZ]
theorem zZT{a:Nat}(h1:k≤a)(ha:a<x.zA.length){b:Int}(hb:b<at0 x.zA k){e d:Vec}(he:V (suf (exx D x m T) (k+1)) e)(hd:Row m.Prime D d):
  mul (suf (exx D x m T) k) (b::adK m.Prime D (x.zA.length-(k+1)) e d) (xI ((exx D x m T).zA.length-k) (a-k))=adK m.Prime D (x.zA.length-k) (mul (suf (exx D x m T) k) (b::e) (xI ((exx D x m T).zA.length-k) (a-k))) (wA m.Prime D d (m.zH.getD a [])):=by
 have hp:=hE.m.p.pos;rcases Jj k a with g|g
 ·rw[zLM h hE hT hk hc g ha hb,zLM h hE hT hk hc g ha hb,zV8 h hE hT hk hc g ha he hd,zAJ h hE hT hk]
 ·obtain rfl:a=k:=by omega
  rw[zFZ h hE hT hk hc (by grind[zXb]),zFZ h hE hT hk hc he,zHQ h hE hT hk he hd];split
  ·rw[zLL h hE hT hk hc (zA6 h hE hT hk he) (wX (by omega)) (zPA h hE hT hk),zAJ h hE hT hk]
  grind[zAJ]
theorem zYU{a:Nat}(h1:k≤a)(ha:a<x.zA.length){e:Vec}(he:V (suf (exx D x m T) k) e):V (suf (exx D x m T) k) (mul (suf (exx D x m T) k) e (xI ((exx D x m T).zA.length-k) (a-k))):=by have _:=hc;grind[xE,vW,zCF]
theorem zZU:∀{w:List Nat},(∀a∈w,k≤a∧a<x.zA.length)→ ∀{e:Vec},V (suf (exx D x m T) k) e→V (suf (exx D x m T) k) (fo (exx D x m T) k e w)
 | [],_,_,he=>he
 |a::w,hw,e,he=>by rw[sE];exact zZU (by grind) (by grind[zYU])
theorem zOC:∀{w:List Nat},(∀a∈w,k≤a∧a<x.zA.length)→ ∀{e d:Vec},V (suf (exx D x m T) k) e→Row m.Prime D d→fo (exx D x m T) k (adK m.Prime D (x.zA.length-k) e d) w=adK m.Prime D (x.zA.length-k) (fo (exx D x m T) k e w) (wA m.Prime D d (wM m.Prime D m.zH w (idM D)))
 | [],_,e,d,_,hd=>by show adK _ _ _ e d=adK _ _ _ e (wA m.Prime D d (idM D));rw[jF hd]
 |a::w,hw,e,d,he,hd=>by
  have hp:=hE.m.p.pos;obtain⟨a1,a2⟩:=hw a (by simp);have hA:=hE.m.mat a a2;have uk:=he;rw[yE (x:=exx D x m T) (by grind[wH])]at uk;cases e with
  |nil=>exact uk.elim
  |cons b e=>
   obtain⟨⟨b0,b1⟩,he1⟩:=uk;have b2:b<at0 x.zA k:=by rw[←uZ h hE hT hk];exact b1
   rw[sE,sE,zAJ h hE hT hk,zZT h hE hT hk hc a1 a2 b2 he1 hd,zOC (by grind) (by grind[zYU]) (wX (by omega)),zEJ hA.1]
   congr 2
   show PM _ _ _ (wM m.Prime D m.zH w (idM D))=wM m.Prime D m.zH w (PM m.Prime D (idM D) (m.zH.getD a []));rw[←zH7 (by omega) hA.1 w (tM (by omega)),zC8 hA,zBF hA]
end
end Go.Pl

namespace Go.Pl
open Go Go.Ab Go.Wk Go.Pc
inductive Col (x:SPr) (k:Nat):List Nat→List (Nat×List Nat)→List Nat→Prop where
 |refl (w:List Nat):Col x k w [] w
 |step {w w1 w' s:List Nat}{r:Nat}{tr:List (Nat×List Nat)} (hw:∀a∈w,k≤a∧a<x.zA.length) (hs:stS x w=i7 (r,s,w1)) (h:Col x k w1 tr w'):Col x k w ((r,s)::tr) w'
theorem Col.trans{x:SPr}{k:Nat}{w w1 w2:List Nat}{t1 t2:List (Nat×List Nat)}(h:Col x k w t1 w1)(h2:Col x k w1 t2 w2):Col x k w (t1++t2) w2:=by
 induction h with
 |refl w=>exact h2
 |step hw hs _ ih=>exact .step hw hs (ih h2)
def tv(p:Int)(D:Nat)(m:zE)(T:Mx):List (Nat×List Nat)→Vec
 | []=>zeros D
 |(r,s)::t=>adv p D (wA p D (T.getD r []) (wM p D m.zH s (idM D))) (tv p D m T t)
section
variable {p:Int}{D:Nat}{m:zE}{T:Mx} (hp:2≤p)
 include hp
theorem zJW:∀t,Row p D (tv p D m T t)
 | []=>xK (by omega)
 |(_,_)::_=>sZ (by omega)
theorem zHR:∀t u,tv p D m T (t++u)=adv p D (tv p D m T t) (tv p D m T u)
 | [],u=>(vR (zJW hp u)).symm
 |(r,s)::t,u=>by show adv p D _ (tv p D m T (t++u))=adv p D (adv p D _ _) _;rw[zHR t u,zDg]
theorem zXc{A:List Mx}{u v:List Nat}:wM p D A (u++v) (idM D)=PM p D (wM p D A u (idM D)) (wM p D A v (idM D)):=by have hu:=zBG (D:=D) (A:=A) (show 0<p by omega) u (tM hp);rw[zDa,←zH7 (by omega) hu.1 v (tM hp),zC8 hu]
theorem zEO{A:List Mx}{u v:List Nat}{r:Vec}:wA p D r (wM p D A (u++v) (idM D))=wA p D (wA p D r (wM p D A u (idM D))) (wM p D A v (idM D)):=by have hu:=zBG (D:=D) (A:=A) (show 0<p by omega) u (tM hp);rw[zXc hp,zEJ hu.1]
theorem zRV(z:List Nat):∀t,tv p D m T (t.map fun q=>(q.1,q.2++z))=wA p D (tv p D m T t) (wM p D m.zH z (idM D))
 | []=>zA5.symm
 |(r,s)::t=>by show adv p D (wA p D (T.getD r []) (wM p D m.zH (s++z) (idM D))) (tv p D m T (t.map fun q=>(q.1,q.2++z)))=wA p D (adv p D _ (tv p D m T t)) _;rw[zRV z t,zEN,zEO hp]
end
section
variable {x:SPr} (h:Pres x)
 include h
theorem zJX{a:Nat}(ha:a<x.zA.length):2≤yH x a:=by
 have:=(h.os.2 a ha).pos
 grind
theorem sP{v:List Int}{i:Nat}(hv:Exp x.zA v i)(hi:i<x.zA.length):nw 0 v=nw (i+1) (v.drop (i+1))∧ ∀a∈nw 0 v,i+1≤a∧a<x.zA.length:=by
 have _:=h;have e:=zAr hv hi;have e1:nw 0 v=nw (i+1) (v.drop (i+1)):=by rw[e,zCZ,zCD,zZ,Jt,Jb,K3 (by rw[zZ])]
 refine⟨e1,fun a ha=>?_⟩;rw[e1]at ha;refine⟨?_,zLx (n:=x.zA.length) (i+1) _ (by rw[Jz,hv.1.1];omega) a ha⟩
 clear e e1 hv
 generalize v.drop (i+1)=y at ha
 generalize i+1=o at ha ⊢
 clear hi
 induction y generalizing o with
 |nil=>grind[nw]
 |cons b y ih=>
  grind[nw]
theorem uD{i j:Nat}(hi:i<j)(hj:j<x.zA.length):Exp x.zA (lcj x i j) i:=by have g:=(h.tl i (by omega)).2.1;exact(h.tl i (by omega)).2.2 (j-(i+1)) (by omega)
theorem jG{i:Nat}(hi:i<x.zA.length):Exp x.zA (x.zT.getD i []) i:=(h.tl i hi).1
theorem zRW:∀(o:Nat)(y:Vec),∀a∈nw o y,o≤a
 |_,[],a,ha=>by grind[nw]
 |o,b::y,a,ha=>by
  have _:=h;simp only[nw,Jd]at ha;rcases ha with ha|ha
  ·grind
  ·have:=zRW (o+1) y a ha;omega
theorem zOD{k:Nat}{y:Vec}(hk:k≤x.zA.length)(hy:V (suf x k) y):∀a∈nw k y,k≤a∧a<x.zA.length:=fun a ha=>
 ⟨zRW h k y a ha,zLx (n:=x.zA.length) k y (by grind[wY]) a ha⟩
theorem zF9:∀(d k:Nat),k+d=x.zA.length→ ∀y,V (suf x k) y→stS x (nw k y)=i8
 |0,k,hk,y,hy=>by rw[vO (x:=x) (k:=k) (by omega)]at hy;obtain rfl:y=[]:=hy;rfl
 |d+1,k,hk,y,hy=>by
  rw[yE (x:=x) (by omega)]at hy;cases y with
  |nil=>rfl
  |cons b y=>
   obtain⟨⟨b0,b1⟩,hy⟩:=hy;change b<at0 x.zA k at b1;simp only[nw];have gD:b.toNat<yH x k:=by grind
   rw[zDZ gD b.toNat (Ji _) fun a ha=>?_,zF9 d (k+1) (by omega) y hy]
   ·rfl
   ·have:=zRW h (k+1) y a (by grind[Jb1])
    omega
theorem Col.ctx{i a:Nat}(hi:i<x.zA.length)(ha:a<yH x i){s:List Nat}(hs:∀b∈s,i≤b∧b<x.zA.length){w w':List Nat}{tr:List (Nat×List Nat)}(hc:Col x (i+1) w tr w'):
  Col x i (J1 a i++(w++s)) (tr.map fun q=>(q.1,q.2++s)) (J1 a i++(w'++s)):=by
 induction hc with
 |refl w=>exact .refl _
 | @step w w1 w' s1 r tr hw gA _ ih=>
  refine .step (fun b hb=>?_) ?_ ih
  ·grind
  ·rw[zDZ ha a (Ji _) fun b hb=>?_,zJU (by grind[zJX]) gA]
   ·rfl
   ·cases w with
    |nil=>cases gA
    |cons c w=>
     simp only[K1,Qj,Lq.injEq]at hb;have:=hw c (by simp);omega
def cwd(x:SPr)(i:Nat):List Nat→List Nat
 | []=>[]
 |l::ur=>cwd x i ur++nw 0 (lcj x i l)
def mtr(x:SPr)(i:Nat):List Nat→List Nat→List (Nat×List Nat)
 | [],_=>[]
 |l::ur,z=>(base x.zA.length i+(l-(i+1)),z)::mtr x i ur (nw 0 (lcj x i l)++z)
theorem zJY{i:Nat}:∀{ur:List Nat},(∀b∈ur,i+1≤b∧b<x.zA.length)→ ∀b∈cwd x i ur,i+1≤b∧b<x.zA.length
 | [],_,b,hb=>by grind[cwd]
 |l::ur,hu,b,hb=>by
  simp only[cwd,Jd]at hb;obtain⟨l1,l2⟩:=hu l (by simp);rcases hb with hb|hb
  ·exact zJY (by grind) b hb
  ·exact(sP h (uD h (by omega) l2) (by omega)).2 b hb
theorem Col.move{i a:Nat}(hi:i<x.zA.length)(ha:a<yH x i):∀{ur:List Nat},(∀b∈ur,i+1≤b∧b<x.zA.length)→stS x ur.reverse=i8→ ∀{z:List Nat},(∀b∈z,i≤b∧b<x.zA.length)→
  Col x i (J1 a i++(ur.reverse++i::z)) (mtr x i ur z) (J1 (a+1) i++(cwd x i ur++z))
 | [],_,_,z,_=>by
  have e:J1 a i++(([]:List Nat).reverse++i::z)=J1 (a+1) i++(cwd x i []++z):=by grind[Lu,cwd]
  rw[e];exact .refl _
 |l::ur,hu,hn,z,hz=>by
  obtain⟨l1,l2⟩:=hu l (by simp);have fM:∀b∈ur,i+1≤b∧b<x.zA.length:=by grind
  have cM:=sP h (uD h (show i<l by omega) l2) hi;rw[Ug]at hn ⊢
  have mV:=zFY (by grind[zJX]) hn;have eJ:∀b∈nw 0 (lcj x i l)++z,i≤b∧b<x.zA.length:=by grind
  have ih:=Col.move hi ha fM mV eJ;rw[show cwd x i (l::ur)++z=cwd x i ur++(nw 0 (lcj x i l)++z)from by simp[cwd]];have e1:ur.reverse++[l]++i::z=ur.reverse++l::i::z:=by simp
  rw[e1];refine .step (fun b hb=>?_) ?_ ih
  ·simp only[Jd,J8,Jbv]at hb
   rcases hb with hb|hb|hb|hb|hb
   ·grind
   ·grind
   ·omega
   all_goals grind
  ·rw[zDZ ha a (Ji _) fun b hb=>?_,zRT (by grind) (by omega) hn]
   ·rfl
   ·have:b∈ur.reverse++l::i::z:=by grind[Jb1]
    cases e:ur.reverse with
    |nil=>grind
    |cons c t=>
     grind
end
end Go.Pl

namespace Go.Pl
open Go Go.Ab Go.Wk Go.Pc
theorem zHS{α:Type}(m:α→α→α)(c:Nat→α)(z:α):∀(cs:List α)(v:Vec)(o:Nat)(acc:α),(∀j,j<cs.length→cs.getD j z=c (o+j))→v.length≤cs.length→img m cs v acc=(nw o v).foldl (fun acc j=>m acc (c j)) acc
 |cs,[],o,acc,_,_=>by cases cs<;>rfl
 | [],_::_,_,_,_,h=>by simp at h
 |a::cs,b::v,o,acc,hc,hl=>by
  have h0:=hc 0 (by simp);simp only[Hf,Qd]at h0;have e:∀(k:Nat)(u:α),(J1 k o).foldl (fun acc j=>m acc (c j)) u=iter k (fun v=>m v a) u:=by
   intro k
   induction k with
   |zero=>intro u;rfl
   |succ k ih=>intro u;rw[Jp,G1,ih,h0];rfl
  show img m cs v (iter b.toNat (fun v=>m v a) acc)=_;simp only[nw,Gm];rw[e,zHS m c z cs v (o+1) _ (fun j hj=>by have:=hc (j+1) (by grind);grind) (by grind)]
theorem map_drop{l:List (List Int)}{n i:Nat}:(l.map (·.drop n)).getD i []=(l.getD i []).drop n:=by grind
section
variable {D:Nat}{x:SPr}{m:zE}{T:Mx} (h:Pres x) (hE:ExB x.zA.length D x m T) (hT:∀i,i<T.length→Row m.Prime D (T.getD i []))
 include h hE hT
theorem zUt{k:Nat}(hk:k<x.zA.length)(hc:wR (suf (exx D x m T) k)):wR (suf (exx D x m T) (k+1)):=by rw[yE (x:=exx D x m T) (by grind[wH])]at hc;exact hc.1
theorem zNn{k:Nat}(hk:k≤x.zA.length):V (suf (exx D x m T) k) (zeros ((exx D x m T).zA.length-k)):=by grind[wO,vW,yN]
theorem zHT{k:Nat}(hk:k≤x.zA.length):zeros ((exx D x m T).zA.length-k)=zeros (x.zA.length-k)++zeros D:=by rw[wH h hE hT,show x.zA.length+D-k=x.zA.length-k+D from by omega,zF8]
theorem zDr{k:Nat}(hk:k≤x.zA.length){y u:Vec}(hy:V (suf x k) y)(hu:Row m.Prime D u):V (suf (exx D x m T) k) (y++u):=
 (sD h hE hT (x.zA.length-k) k (by omega) _).2 (by grind)
theorem jY{k:Nat}(hk:k≤x.zA.length){y u d:Vec}(hy:V (suf x k) y):adK m.Prime D (x.zA.length-k) (y++u) d=y++adv m.Prime D u d:=by have _:=hE;have _:=hT;have er:=wY h hk hy;rw[adK,Js er,K3 er]
theorem zHU:∀(d k:Nat),k+d=x.zA.length→wR (suf (exx D x m T) k)→ ∀y,V (suf x k) y→fo (exx D x m T) k (zeros ((exx D x m T).zA.length-k)) (nw k y)=y++zeros D
 |0,k,hk,_,y,hy=>by rw[vO (x:=x) (k:=k) (by omega)]at hy;obtain rfl:y=[]:=hy;rw[zHT h hE hT (by omega),show x.zA.length-k=0 from by omega];rfl
 |d+1,k,hk,hc,y,hy=>by
  have fb:=zUt h hE hT (by omega) hc;have ih:=zHU d (k+1) (by omega) fb;rw[yE (x:=x) (by omega)]at hy;cases y with
  |nil=>exact hy.elim
  |cons b y=>
   obtain⟨⟨b0,b1⟩,hy⟩:=hy;change b<at0 x.zA k at b1;have pH:k<x.zA.length:=by omega
   have hz:=zNn h hE hT (k:=k+1) (by omega);simp only[nw];rw[zCE];have e1:∀c:Nat,(c:Int)<at0 x.zA k→fo (exx D x m T) k (zeros ((exx D x m T).zA.length-k)) (J1 c k)=(c:Int)::zeros ((exx D x m T).zA.length-(k+1)):=by
    intro c
    induction c with
    |zero=>
     intro _;have hl:=wH h hE hT;rw[show(exx D x m T).zA.length-k=(exx D x m T).zA.length-(k+1)+1 from by omega];rfl
    |succ c ihc=>
     intro gE;rw[Lu,zCE,ihc (by omega)];show mul _ _ _=_;rw[zFZ h hE hT pH fb hz,if_neg (by omega)];have:sig (suf (exx D x m T) (k+1)) (lvl (exx D x m T) k) (zeros ((exx D x m T).zA.length-(k+1)))=zeros ((exx D x m T).zA.length-(k+1)):=by grind[sig,sW,yN]
     grind
   have e2:∀(w:List Nat)(e:Vec),(∀a∈w,k+1≤a∧a<x.zA.length)→fo (exx D x m T) k (b::e) w=b::fo (exx D x m T) (k+1) e w:=by
    intro w
    induction w with
    |nil=>intro e _;rfl
    |cons a w ihw=>
     intro e hw;rw[sE,zLM h hE hT pH fb (hw a (by simp)).1 (hw a (by simp)).2 b1,ihw _ (by grind)];rfl
   have:=e1 b.toNat (by omega);rw[this,show((b.toNat:Nat):Int)=b from by omega,e2 _ _ fun a ha=>zOD h (by omega) hy a ha,ih y hy];rfl
variable {k:Nat} (hk:k<x.zA.length) (hc:wR (suf (exx D x m T) (k+1)))
 include hk hc
theorem zHV{b:Int}(hb:b<at0 x.zA k):∀(w:List Nat)(e:Vec),(∀a∈w,k+1≤a∧a<x.zA.length)→fo (exx D x m T) k (b::e) w=b::fo (exx D x m T) (k+1) e w
 | [],e,_=>rfl
 |a::w,e,hw=>by rw[sE,zLM h hE hT hk hc (hw a (by simp)).1 (hw a (by simp)).2 hb,zHV hb w _ (by grind)];rfl
 omit hc in
theorem zPB:∀{w:List Nat},(∀a∈w,k+1≤a∧a<x.zA.length)→ ∀{e:Vec},V (suf (exx D x m T) (k+1)) e→V (suf (exx D x m T) (k+1)) (fo (exx D x m T) (k+1) e w)
  | [],_,_,he=>he
  |a::w,hw,e,he=>by rw[sE];exact zPB (fun b hb=>hw b (by simp[hb])) (xE (vW h hE hT (by omega)) he (zCF h hE hT (hw a (by simp)).1 (hw a (by simp)).2))
theorem zRX:∀{w:List Nat},(∀a∈w,k+1≤a∧a<x.zA.length)→ ∀{e d:Vec},V (suf (exx D x m T) (k+1)) e→Row m.Prime D d→fo (exx D x m T) (k+1) (adK m.Prime D (x.zA.length-(k+1)) e d) w=adK m.Prime D (x.zA.length-(k+1)) (fo (exx D x m T) (k+1) e w) (wA m.Prime D d (wM m.Prime D m.zH w (idM D)))
 | [],_,e,d,_,hd=>by show adK _ _ _ e d=adK _ _ _ e (wA m.Prime D d (idM D));rw[jF hd]
 |a::w,hw,e,d,he,hd=>by
  have hp:=hE.m.p.pos;obtain⟨a1,a2⟩:=hw a (by simp);have hA:=hE.m.mat a a2;rw[sE,sE,zV8 h hE hT hk hc a1 a2 he hd,zRX (by grind) (by grind[xE,vW,zCF]) (wX (by omega)),zEJ hA.1]
  congr 2
  show PM _ _ _ (wM m.Prime D m.zH w (idM D))=wM m.Prime D m.zH w (PM m.Prime D (idM D) (m.zH.getD a []));rw[←zH7 (by omega) hA.1 w (tM (by omega)),zC8 hA,zBF hA]
theorem zRY:∀{w:List Nat},(∀a∈w,k+1≤a∧a<x.zA.length)→ ∀{e f:Vec},V (suf (exx D x m T) (k+1)) e→V (suf (exx D x m T) (k+1)) f→fo (exx D x m T) (k+1) (mul (suf (exx D x m T) (k+1)) e f) w=mul (suf (exx D x m T) (k+1)) e (fo (exx D x m T) (k+1) f w)
 | [],_,_,_,_,_=>rfl
 |a::w,hw,e,f,he,hf=>by have gB:=vW h hE hT (k:=k+1) (by omega);have G:=(zCx _ gB hc).toMon;have hg:=zCF h hE hT (hw a (by simp)).1 (hw a (by simp)).2;rw[sE,sE,G.assoc he hf hg,zRY (by grind) he (G.cl hf hg)]
theorem zHW{w:List Nat}(hw:∀a∈w,k+1≤a∧a<x.zA.length){e:Vec}(he:V (suf (exx D x m T) (k+1)) e):fo (exx D x m T) (k+1) e w=mul (suf (exx D x m T) (k+1)) e (fo (exx D x m T) (k+1) (zeros ((exx D x m T).zA.length-(k+1))) w):=by rw[←zRY h hE hT hk hc hw he (by grind[zNn]),zXa h hE hT (by omega) he]
def dm(p:Int)(D:Nat)(x:SPr)(m:zE)(T:Mx)(k:Nat):List Nat→Vec
 | []=>zeros D
 |l::ur=>adv p D (wA p D (dm p D x m T k ur) (wM p D m.zH (nw 0 (lcj x k l)) (idM D))) (T.getD (base x.zA.length k+(l-(k+1))) [])
 omit h hE hT hk hc in
theorem zNo(hp:2≤m.Prime):∀ur,Row m.Prime D (dm m.Prime D x m T k ur)
  | []=>xK (by omega)
  |_::_=>sZ (by omega)
 omit h hE hT hk hc in
theorem zNp(hp:2≤m.Prime):∀(ur:List Nat)(z:List Nat),tv m.Prime D m T (mtr x k ur z)=wA m.Prime D (dm m.Prime D x m T k ur) (wM m.Prime D m.zH z (idM D))
  | [],z=>zA5.symm
  |l::ur,z=>by show adv m.Prime D _ (tv m.Prime D m T (mtr x k ur (nw 0 (lcj x k l)++z)))=wA m.Prime D (adv m.Prime D _ _) _;rw[zNp hp ur,zEN,zEO hp,tE]
theorem zRZ:∀{ur:List Nat},(∀b∈ur,k+1≤b∧b<x.zA.length)→ur.reverse.foldl (fun acc j=>mul (suf (exx D x m T) (k+1)) acc ((lvl (exx D x m T) k).cs.getD (j-(k+1)) [])) (zeros ((exx D x m T).zA.length-(k+1)))=
  adK m.Prime D (x.zA.length-(k+1)) (fo (exx D x m T) (k+1) (zeros ((exx D x m T).zA.length-(k+1))) (cwd x k ur)) (dm m.Prime D x m T k ur)
 | [],_=>by have hp:=hE.m.p.pos;show zeros _=adK _ _ _ (zeros _) (zeros D);rw[zHT h hE hT (by omega),jY h hE hT (by omega) (by grind[zv]),vR (xK (by omega))]
 |l::ur,hu=>by
  have hp:=hE.m.p.pos;obtain⟨l1,l2⟩:=hu l (by simp);have fM:∀b∈ur,k+1≤b∧b<x.zA.length:=by grind
  have gB:=vW h hE hT (k:=k+1) (by omega);have G:=(zCx _ gB hc).toMon;have hz:=zNn h hE hT (k:=k+1) (by omega);have cX:=zJY h fM;have hF:=zPB h hE hT hk cX hz;have cM:=sP h (uD h (show k<l by omega) l2) hk;have gE:V (suf x (k+1)) ((lcj x k l).drop (k+1)):=by grind[jM,uD]
  have mZ:(lvl x k).cs.getD (l-(k+1)) []=(lcj x k l).drop (k+1):=map_drop;have ht:=zD6 h hE hT (show k<l by omega) l2;have hd:=zNo (D:=D) (x:=x) (m:=m) (T:=T) (k:=k) (by omega) ur;have ug:=zHU h hE hT (x.zA.length-(k+1)) (k+1) (by omega) hc _ gE;have cE:=zDr h hE hT (k:=k+1) (by omega) gE (xK (p:=m.Prime) (D:=D) (by omega));rw[Ug,Gm,zRZ fM];show mul _ (adK _ _ _ _ _) ((lvl (exx D x m T) k).cs.getD (l-(k+1)) [])=_;rw[zHL h hE hT hk l1 l2,mZ];have e1:(lcj x k l).drop (k+1)++T.getD (base x.zA.length k+(l-(k+1))) []=adK m.Prime D (x.zA.length-(k+1)) ((lcj x k l).drop (k+1)++zeros D) (T.getD (base x.zA.length k+(l-(k+1))) []):=by grind[jY,vR]
  have gU:∀b∈nw (k+1) ((lcj x k l).drop (k+1)),k+1≤b∧b<x.zA.length:=by grind
  have fc:=zXb h hE hT (k:=k+1) (by omega) hF (d:=dm m.Prime D x m T k ur);rw[e1,zLL h hE hT hk hc cE ht fc,←ug,←zHW h hE hT hk hc gU fc,zRX h hE hT hk hc gU hF hd,zV6 h hE hT (by omega) (zPB h hE hT hk gU hF),←zCE,←cM.1];rfl
theorem zOE{y:Vec}(hy:V (suf x (k+1)) y):sig (suf (exx D x m T) (k+1)) (lvl (exx D x m T) k) (y++zeros D)=adK m.Prime D (x.zA.length-(k+1)) (fo (exx D x m T) (k+1) (zeros ((exx D x m T).zA.length-(k+1))) (cwd x k (nw (k+1) y).reverse)) (dm m.Prime D x m T k (nw (k+1) y).reverse):=by have hp:=hE.m.p.pos;have er:=wY h (by omega) hy;have gU:=zOD h (by omega) hy;rw[←zRZ h hE hT hk hc (by grind),Ki,zBN h hE hT hk hy (xK (by omega)),zA5];obtain⟨y1,u1,e,ff,cw⟩:=(sD h hE hT (x.zA.length-(k+1)) (k+1) (by omega) _).1 (zHJ h hE hT hk (y:=y));have gK:=wY h (by omega) ff;rw[e,Js gK,K3 gK,zA4 cw,←e];unfold sgG;rw[yN];refine zHS _ (fun j=>(lvl (exx D x m T) k).cs.getD (j-(k+1)) []) [] _ _ _ _ (fun j hj=>?_) (by grind[tO]);rw[tO h hE hT]at hj;rw[show k+1+j-(k+1)=j from by omega,zBM h hE hT hk,J2,J2,Ju (by grind[tO])]
end
end Go.Pl

namespace Go.Pl
open Go Go.Ab Go.Wk Go.Pc
section
variable {x:SPr} (h:Pres x)
 include h
theorem zLN{D:Nat}{m:zE}{T:Mx}(hE:ExB x.zA.length D x m T)(hT:∀i,i<T.length→Row m.Prime D (T.getD i [])){k:Nat}(hk:k≤x.zA.length)(hc:wR (suf (exx D x m T) k)):wR (suf (exx D x m T) (k+1)):=by have hl:=wH h hE hT;have:=hE.m.d1;rw[yE (x:=exx D x m T) (by omega)]at hc;exact hc.1
structure qH (x:SPr) (k:Nat) (z:List Nat) (tr:List (Nat×List Nat)) (y:Vec):Prop where
 col:Col x k z tr (nw k y)
 v:V (suf x k) y
 val:∀(D:Nat)(m:zE)(T:Mx),ExB x.zA.length D x m T→(∀i,i<T.length→Row m.Prime D (T.getD i []))→wR (suf (exx D x m T) (k+1))→fo (exx D x m T) k (zeros ((exx D x m T).zA.length-k)) z=y++tv m.Prime D m T tr
theorem zOF{k:Nat}(hk:k<x.zA.length)(P:∀v:List Nat,(∀a∈v,k+1≤a∧a<x.zA.length)→ ∃tr y,qH x (k+1) v tr y):∀(z:List Nat),(∀a∈z,k≤a∧a<x.zA.length)→ ∀(a:Nat),a<yH x k→ ∀(v:List Nat),(∀a∈v,k+1≤a∧a<x.zA.length)→
  ∃tr y,Col x k (J1 a k++(v++z)) tr (nw k y)∧V (suf x k) y∧ ∀(D:Nat)(m:zE)(T:Mx),ExB x.zA.length D x m T→(∀i,i<T.length→Row m.Prime D (T.getD i []))→wR (suf (exx D x m T) (k+1))→
   fo (exx D x m T) k ((a:Int)::fo (exx D x m T) (k+1) (zeros ((exx D x m T).zA.length-(k+1))) v) z=y++tv m.Prime D m T tr
 | [],_,a,ha,v,hv=>by
  obtain⟨tr,y,c1,c2,c3⟩:=P v hv;have hc:=Col.ctx h hk ha (s:=[]) (by simp) c1;rw[show(fun q:Nat×List Nat=>(q.1,q.2++[]))=id from by grind,List.map_id,Je,Je]at hc;refine⟨tr,(a:Int)::y,?_,?_,fun D m T hE hT hc=>?_⟩
  ·grind[nw]
  ·rw[yE hk]
   refine⟨⟨by omega,?_⟩,c2⟩;show(a:Int)<at0 x.zA k
   grind
  ·rw[c3 D m T hE hT (by grind[zLN])];rfl
 |l::z,hz,a,ha,v,hv=>by
  have eJ:∀b∈z,k≤b∧b<x.zA.length:=by grind
  obtain⟨l1,l2⟩:=hz l (by simp);have m7:(a:Int)<at0 x.zA k:=by grind
  rcases Jj k l with g|g
  ·obtain⟨tr,y,c1,c2,c3⟩:=zOF hk P z eJ a ha (v++[l]) (by grind)
   refine⟨tr,y,by grind,c2,fun D m T hE hT hc=>?_⟩;rw[←c3 D m T hE hT hc,sE,zLM h hE hT hk hc g l2 m7,zCE];rfl
  ·obtain rfl:l=k:=by omega
   obtain⟨tr1,y1,c1,c2,c3⟩:=P v hv;have gU:=zOD h (by omega) c2;have cP:∀b∈(nw (l+1) y1).reverse,l+1≤b∧b<x.zA.length:=by grind
   have k1:=Col.ctx h hk ha (s:=l::z) hz c1;have k2:=Col.move h hk ha cP (by rw[Ki];exact zF9 h _ _ (by omega:l+1+(x.zA.length-(l+1))=x.zA.length) y1 c2) eJ;rw[Ki]at k2;have cX:=zJY h cP;have val:∀(D:Nat)(m:zE)(T:Mx)(hE:ExB x.zA.length D x m T)(hT:∀i,i<T.length→Row m.Prime D (T.getD i []))(hc:wR (suf (exx D x m T) (l+1))),
     fo (exx D x m T) l ((a:Int)::fo (exx D x m T) (l+1) (zeros ((exx D x m T).zA.length-(l+1))) v) (l::z)=adK m.Prime D (x.zA.length-l) (fo (exx D x m T) l (mul (suf (exx D x m T) l) ((a:Int)::(y1++zeros D)) (xI ((exx D x m T).zA.length-l) (l-l))) z) (tv m.Prime D m T (tr1.map fun q=>(q.1,q.2++l::z))):=by
    intro D m T hE hT hc;have hp:=hE.m.p.pos;have ht:=zJW (D:=D) (m:=m) (T:=T) (p:=m.Prime) (by omega) tr1;have bP:=zDr h hE hT (k:=l+1) (by omega) c2 (xK (p:=m.Prime) (D:=D) (by omega));have aI:V (suf (exx D x m T) l) ((a:Int)::(y1++zeros D)):=by rw[yE (x:=exx D x m T) (by rw[wH h hE hT];omega)];refine⟨⟨by omega,?_⟩,bP⟩;show(a:Int)<at0 (exx D x m T).zA l;rw[uZ h hE hT hk];exact m7
    rw[c3 D m T hE hT (zLN h hE hT (by omega) hc),show y1++tv m.Prime D m T tr1=adK m.Prime D (x.zA.length-(l+1)) (y1++zeros D) (tv m.Prime D m T tr1)from by rw[jY h hE hT (by omega) c2,vR ht],←zAJ h hE hT hk,zOC h hE hT hk hc hz aI ht,zRV (by omega)];rfl
   have foV:∀(D:Nat)(m:zE)(T:Mx)(hE:ExB x.zA.length D x m T)(hT:∀i,i<T.length→Row m.Prime D (T.getD i []))(_hc:wR (suf (exx D x m T) (l+1))),V (suf (exx D x m T) (l+1)) (fo (exx D x m T) (l+1) (zeros ((exx D x m T).zA.length-(l+1))) (cwd x l (nw (l+1) y1).reverse)):=fun D m T hE hT _hc=>zPB h hE hT hk cX (zNn h hE hT (by omega))
   rcases Jj (a+1) (yH x l)with g2|g2
   ·obtain⟨tr2,y2,d1,d2,d3⟩:=zOF hk P z eJ (a+1) g2 (cwd x l (nw (l+1) y1).reverse) cX
    refine⟨_,y2,k1.trans (k2.trans d1),d2,fun D m T hE hT hc=>?_⟩;have hp:=hE.m.p.pos;have bP:=zDr h hE hT (k:=l+1) (by omega) c2 (xK (p:=m.Prime) (D:=D) (by omega));have g3:(a:Int)+1<at0 x.zA l:=by have:a+1<(at0 x.zA l).toNat:=g2;omega
    have hF:=foV D m T hE hT hc;have aI:V (suf (exx D x m T) l) (((a:Int)+1)::fo (exx D x m T) (l+1) (zeros ((exx D x m T).zA.length-(l+1))) (cwd x l (nw (l+1) y1).reverse)):=by rw[yE (x:=exx D x m T) (by rw[wH h hE hT];omega)];refine⟨⟨by omega,?_⟩,hF⟩;show(a:Int)+1<at0 (exx D x m T).zA l;rw[uZ h hE hT hk];exact g3
    have hd:=zNo (D:=D) (x:=x) (m:=m) (T:=T) (k:=l) (by omega) (nw (l+1) y1).reverse;have d3':=d3 D m T hE hT hc;rw[show(((a+1:Nat):Int))=(a:Int)+1 from by omega]at d3';rw[val D m T hE hT hc,zFZ h hE hT hk hc bP,if_neg (by omega),zOE h hE hT hk hc c2,←zAJ h hE hT hk,zOC h hE hT hk hc eJ aI hd,d3',jY h hE hT (by omega) d2,jY h hE hT (by omega) d2,←zNp (by omega),zHR (by omega),zHR (by omega),tE,tE (u:=tv m.Prime D m T tr2)]
   ·have g4:a+1=yH x l:=by omega
    have cV:=jG h hk;have pu:=sP h cV hk;have aN:∀b∈nw 0 (x.zT.getD l [])++cwd x l (nw (l+1) y1).reverse,l+1≤b∧b<x.zA.length:=fun b hb=>by
     simp only[Jd]at hb;rcases hb with hb|hb
     ·exact pu.2 b hb
     ·exact cX b hb
    obtain⟨tr2,y2,d1,d2,d3⟩:=zOF hk P z eJ 0 (by omega) _ aN;rw[Hk,Jt,Jc]at d1;have k3:Col x l (J1 (a+1) l++(cwd x l (nw (l+1) y1).reverse++z)) ((l,cwd x l (nw (l+1) y1).reverse++z)::tr2) (nw l y2):=by
     refine .step (fun b hb=>?_) (by rw[g4];exact zV5 (zJX h hk) _) d1;simp only[Jd]at hb;rcases hb with hb|hb|hb
     ·have:=Kb hb;omega
     ·have:=cX b hb;omega
     ·exact eJ b hb
    refine⟨_,y2,k1.trans (k2.trans k3),d2,fun D m T hE hT hc=>?_⟩;have hp:=hE.m.p.pos;have bP:=zDr h hE hT (k:=l+1) (by omega) c2 (xK (p:=m.Prime) (D:=D) (by omega));have g3:(a:Int)+1=at0 x.zA l:=by have:a+1=(at0 x.zA l).toNat:=g4;omega
    have hF:=foV D m T hE hT hc;have hd:=zNo (D:=D) (x:=x) (m:=m) (T:=T) (k:=l) (by omega) (nw (l+1) y1).reverse;have eu:=zBO h hE hT hk;have ct:V (suf x (l+1)) ((x.zT.getD l []).drop (l+1)):=jM cV hk;have pE:=zDr h hE hT (k:=l+1) (by omega) ct (xK (p:=m.Prime) (D:=D) (by omega));have hw:(lvl (exx D x m T) l).w=adK m.Prime D (x.zA.length-(l+1)) ((x.zT.getD l []).drop (l+1)++zeros D) (T.getD l []):=by rw[zHH h hE hT hk,jY h hE hT (by omega) ct,vR eu];rfl
    have fO:=zPA h hE hT hk;have hFw:=zPB h hE hT hk aN (zNn h hE hT (by omega));have em:mul (suf (exx D x m T) (l+1)) (lvl (exx D x m T) l).w (fo (exx D x m T) (l+1) (zeros ((exx D x m T).zA.length-(l+1))) (cwd x l (nw (l+1) y1).reverse))=adK m.Prime D (x.zA.length-(l+1)) (fo (exx D x m T) (l+1) (zeros ((exx D x m T).zA.length-(l+1))) (nw 0 (x.zT.getD l [])++cwd x l (nw (l+1) y1).reverse)) (wA m.Prime D (T.getD l []) (wM m.Prime D m.zH (cwd x l (nw (l+1) y1).reverse) (idM D))):=by rw[←zHW h hE hT hk hc cX fO,hw,zRX h hE hT hk hc cX pE eu,←zHU h hE hT _ (l+1) (by omega:l+1+(x.zA.length-(l+1))=x.zA.length) hc _ ct,←zCE,←pu.1]
    have aI:V (suf (exx D x m T) l) ((0:Int)::fo (exx D x m T) (l+1) (zeros ((exx D x m T).zA.length-(l+1))) (nw 0 (x.zT.getD l [])++cwd x l (nw (l+1) y1).reverse)):=by rw[yE (x:=exx D x m T) (by rw[wH h hE hT];omega)];refine⟨⟨by omega,?_⟩,hFw⟩;show(0:Int)<at0 (exx D x m T).zA l;rw[uZ h hE hT hk];omega
    have d3':=d3 D m T hE hT hc;rw[show(((0:Nat):Int))=0 from rfl]at d3';rw[val D m T hE hT hc,zFZ h hE hT hk hc bP,if_pos (by omega),zOE h hE hT hk hc c2,zLL h hE hT hk hc hF hd fO,em,zV6 h hE hT (by omega) hFw,g3,Int.sub_self,←zAJ h hE hT hk,zOC h hE hT hk hc eJ aI (sZ (by omega)),d3',jY h hE hT (by omega) d2,jY h hE hT (by omega) d2,zEN,←zNp (by omega),←zEO (by omega),zHR (by omega),zHR (by omega)];show y2++adv m.Prime D (adv m.Prime D (tv m.Prime D m T tr2) (adv m.Prime D _ _)) _=y2++adv m.Prime D _ (adv m.Prime D _ (adv m.Prime D _ (tv m.Prime D m T tr2)));rw[tE,tE (u:=tv m.Prime D m T tr2),tE (u:=wA m.Prime D (T.getD l []) _),zDg]
theorem zUu:∀(d k:Nat),k+d=x.zA.length→ ∀z:List Nat,(∀a∈z,k≤a∧a<x.zA.length)→ ∃tr y,qH x k z tr y
 |0,k,hk,z,hz=>by
  have:z=[]:=by
   cases z with
   |nil=>rfl
   |cons a z=>have:=hz a (by simp);omega
  subst this;refine⟨[],[],.refl _,by rw[vO (x:=x) (k:=k) (by omega)];rfl,fun D m T hE hT _=>?_⟩;show zeros _=[]++zeros D;rw[zHT h hE hT (by omega),show x.zA.length-k=0 from by omega];rfl
 |d+1,k,hk,z,hz=>by have ho:=zJX h (show k<x.zA.length by omega);obtain⟨tr,y,c1,c2,c3⟩:=zOF h (by omega) (zUu d (k+1) (by omega)) z hz 0 (by omega) [] (by simp);refine⟨tr,y,by grind,c2,fun D m T hE hT hc=>?_⟩;rw[←c3 D m T hE hT hc];have hl:=wH h hE hT;rw[show(exx D x m T).zA.length-k=(exx D x m T).zA.length-(k+1)+1 from by omega];rfl
end
end Go.Pl

namespace Go.Pl
open Go Go.Ab Go.Wk Go.Pc
section
variable {D:Nat}{x:SPr}{m:zE}{T:Mx} (h:Pres x) (hE:ExB x.zA.length D x m T) (hT:∀i,i<T.length→Row m.Prime D (T.getD i []))
 include h hE hT
variable {k:Nat} (hk:k<x.zA.length) (hc:wR (suf (exx D x m T) (k+1)))
 include hk hc
theorem zGw{w1 w2:List Nat}{t1 t2:List (Nat×List Nat)}{y1 y2:Vec}(k1:qH x k w1 t1 y1)(k2:qH x k w2 t2 y2){r1 r2:Nat}{s1 s2:List Nat}{b:Int}{A1 A2:Vec}(hA1:V (suf (exx D x m T) (k+1)) A1)(hA2:V (suf (exx D x m T) (k+1)) A2)
  (v1:fo (exx D x m T) k (zeros ((exx D x m T).zA.length-k)) w1=b::A1)(v2:fo (exx D x m T) k (zeros ((exx D x m T).zA.length-k)) w2=b::A2)
  (eu:(adK m.Prime D (x.zA.length-(k+1)) A1 (wA m.Prime D (T.getD r1 []) (wM m.Prime D m.zH s1 (idM D)))).take (x.zA.length-(k+1))=(adK m.Prime D (x.zA.length-(k+1)) A2 (wA m.Prime D (T.getD r2 []) (wM m.Prime D m.zH s2 (idM D)))).take (x.zA.length-(k+1))):
  tv m.Prime D m T ((r1,s1)::t1)=tv m.Prime D m T ((r2,s2)::t2)↔adK m.Prime D (x.zA.length-(k+1)) A1 (wA m.Prime D (T.getD r1 []) (wM m.Prime D m.zH s1 (idM D)))=adK m.Prime D (x.zA.length-(k+1)) A2 (wA m.Prime D (T.getD r2 []) (wM m.Prime D m.zH s2 (idM D))):=by
 have _:=hA1;have _:=hA2;have key:∀(w:List Nat)(t:List (Nat×List Nat))(y:Vec)(A:Vec)(r:Nat)(s:List Nat),qH x k w t y→fo (exx D x m T) k (zeros ((exx D x m T).zA.length-k)) w=b::A→
   b::adK m.Prime D (x.zA.length-(k+1)) A (wA m.Prime D (T.getD r []) (wM m.Prime D m.zH s (idM D)))=y++tv m.Prime D m T ((r,s)::t):=by
  intro w t y A r s kc v;rw[←zAJ h hE hT hk,←v,kc.val D m T hE hT hc,jY h hE hT (by omega) kc.v,tE];rfl
 have e1:=key w1 t1 y1 A1 r1 s1 k1 v1;have e2:=key w2 t2 y2 A2 r2 s2 k2 v2;have l1:=wY h (by omega) k1.v;have l2:=wY h (by omega) k2.v;have hy:y1=y2:=by
  have a1:=congrArg (Jb8 (x.zA.length-(k+1)+1)) e1;have a2:=congrArg (Jb8 (x.zA.length-(k+1)+1)) e2
  grind
 subst hy;constructor
 all_goals grind[List.append_cancel_left]
theorem zEa{v:List Nat}(hv:∀a∈v,k+1≤a∧a<x.zA.length){z:List Nat}:fo (exx D x m T) k (zeros ((exx D x m T).zA.length-k)) (v++k::z)=fo (exx D x m T) k ((1:Int)::sig (suf (exx D x m T) (k+1)) (lvl (exx D x m T) k) (fo (exx D x m T) (k+1) (zeros ((exx D x m T).zA.length-(k+1))) v)) z:=by
 have ho:=(h.os.2 k hk).pos;have hl:=wH h hE hT;have hF:=zPB h hE hT hk hv (zNn h hE hT (by omega));rw[show zeros ((exx D x m T).zA.length-k)=0::zeros ((exx D x m T).zA.length-(k+1))from by rw[show(exx D x m T).zA.length-k=(exx D x m T).zA.length-(k+1)+1 from by omega];rfl,zCE,zHV h hE hT hk hc (by omega) v _ hv,sE,zFZ h hE hT hk hc hF,if_neg (by omega)];rfl
 omit hc in
theorem zEP{y:Vec}(hy:V (suf x (k+1)) y):sig (suf (exx D x m T) (k+1)) (lvl (exx D x m T) k) (y++zeros D)=(nw (k+1) y).foldl (fun acc j=>mul (suf (exx D x m T) (k+1)) acc ((lvl (exx D x m T) k).cs.getD (j-(k+1)) [])) (zeros ((exx D x m T).zA.length-(k+1))):=by
  have hp:=hE.m.p.pos;have er:=wY h (by omega) hy;rw[zBN h hE hT hk hy (xK (by omega)),zA5];obtain⟨y1,u1,e,ff,cw⟩:=(sD h hE hT (x.zA.length-(k+1)) (k+1) (by omega) _).1 (zHJ h hE hT hk (y:=y));have gK:=wY h (by omega) ff;rw[e,Js gK,K3 gK,zA4 cw,←e];unfold sgG;rw[yN];refine zHS _ (fun j=>(lvl (exx D x m T) k).cs.getD (j-(k+1)) []) [] _ _ _ _ (fun j hj=>?_) (by grind[tO])
  grind[zBM]
 omit hc in
theorem zLO{j:Nat}(h1:k+1≤j)(h2:j<x.zA.length):V (suf (exx D x m T) (k+1)) ((lvl (exx D x m T) k).cs.getD (j-(k+1)) []):=by
  have gE:V (suf x (k+1)) ((lcj x k j).drop (k+1)):=by grind[jM,uD]
  rw[zHL h hE hT hk h1 h2,show(lvl x k).cs.getD (j-(k+1)) []=(lcj x k j).drop (k+1)from map_drop]
  grind[zDr,zD6]
theorem zLP:∀{v:List Nat},(∀a∈v,k+1≤a∧a<x.zA.length)→ ∀{e f:Vec},V (suf (exx D x m T) (k+1)) e→V (suf (exx D x m T) (k+1)) f→v.foldl (fun acc j=>mul (suf (exx D x m T) (k+1)) acc ((lvl (exx D x m T) k).cs.getD (j-(k+1)) [])) (mul (suf (exx D x m T) (k+1)) e f)=mul (suf (exx D x m T) (k+1)) e (v.foldl (fun acc j=>mul (suf (exx D x m T) (k+1)) acc ((lvl (exx D x m T) k).cs.getD (j-(k+1)) [])) f)
 | [],_,_,_,_,_=>rfl
 |a::w,hw,e,f,he,hf=>by have gB:=vW h hE hT (k:=k+1) (by omega);have G:=(zCx _ gB hc).toMon;have hg:=zLO h hE hT hk (hw a (by simp)).1 (hw a (by simp)).2;simp only[G1];rw[G.assoc he hf hg,zLP (by grind) he (G.cl hf hg)]
theorem csE{j:Nat}(h1:k+1≤j)(h2:j<x.zA.length):V (suf x (k+1)) ((lcj x k j).drop (k+1))∧(lvl (exx D x m T) k).cs.getD (j-(k+1)) []=adK m.Prime D (x.zA.length-(k+1)) ((lcj x k j).drop (k+1)++zeros D) (T.getD (base x.zA.length k+(j-(k+1))) [])∧
  fo (exx D x m T) (k+1) (zeros ((exx D x m T).zA.length-(k+1))) (nw 0 (lcj x k j))=(lcj x k j).drop (k+1)++zeros D∧(∀a∈nw 0 (lcj x k j),k+1≤a∧a<x.zA.length):=by
 have gE:V (suf x (k+1)) ((lcj x k j).drop (k+1)):=by grind[jM,uD]
 have cM:=sP h (uD h (show k<j by omega) h2) hk;refine⟨gE,?_,?_,cM.2⟩
 ·rw[zHL h hE hT hk h1 h2,show(lvl x k).cs.getD (j-(k+1)) []=(lcj x k j).drop (k+1)from map_drop,jY h hE hT (by omega) gE,vR (zD6 h hE hT (by omega) h2)]
 ·rw[cM.1];exact zHU h hE hT _ (k+1) (by omega:k+1+(x.zA.length-(k+1))=x.zA.length) hc _ gE
theorem wE:V (suf x (k+1)) ((x.zT.getD k []).drop (k+1))∧(lvl (exx D x m T) k).w=adK m.Prime D (x.zA.length-(k+1)) ((x.zT.getD k []).drop (k+1)++zeros D) (T.getD k [])∧
  fo (exx D x m T) (k+1) (zeros ((exx D x m T).zA.length-(k+1))) (nw 0 (x.zT.getD k []))=(x.zT.getD k []).drop (k+1)++zeros D∧(∀a∈nw 0 (x.zT.getD k []),k+1≤a∧a<x.zA.length):=by
 have ct:V (suf x (k+1)) ((x.zT.getD k []).drop (k+1)):=jM (jG h hk) hk;have pu:=sP h (jG h hk) hk;refine⟨ct,?_,?_,pu.2⟩
 ·rw[zHH h hE hT hk,jY h hE hT (by omega) ct,vR (zBO h hE hT hk)];rfl
 ·rw[pu.1];exact zHU h hE hT _ (k+1) (by omega:k+1+(x.zA.length-(k+1))=x.zA.length) hc _ ct
 omit hc in
theorem zJZ{a:Nat}(ha:a<x.zA.length):wM m.Prime D m.zH [a] (idM D)=m.zH.getD a []:=by have _:=h;have _:=hT;have _:=hk;show PM m.Prime D (idM D) (m.zH.getD a [])=_;exact zBF (hE.m.mat a ha)
theorem zV9(hL:LC x k){t1 t2:List (Nat×List Nat)}{y1 y2:Vec}(k1:qH x k (nw 0 (x.zT.getD k [])++[k]) t1 y1)(k2:qH x k (k::nw 0 (x.zT.getD k [])) t2 y2):
  tv m.Prime D m T ((k,[k])::t1)=tv m.Prime D m T ((k,[])::t2)↔sig (suf (exx D x m T) (k+1)) (lvl (exx D x m T) k) (lvl (exx D x m T) k).w=(lvl (exx D x m T) k).w:=by
 have hp:=hE.m.p.pos;have ho:=(h.os.2 k hk).pos;obtain⟨w1,w2,w3,w4⟩:=wE h hE hT hk hc;have eu:=zBO h hE hT hk;have pE:=zDr h hE hT (k:=k+1) (by omega) w1 (xK (p:=m.Prime) (D:=D) (by omega));have fO:=zPA h hE hT hk;have v1:=zEa h hE hT hk hc w4 (z:=[]);rw[w3]at v1;have v2:=zEa h hE hT hk hc (v:=[]) (by simp) (z:=nw 0 (x.zT.getD k []));have hz:fo (exx D x m T) (k+1) (zeros ((exx D x m T).zA.length-(k+1))) []=zeros ((exx D x m T).zA.length-(k+1)):=rfl;have hs:sig (suf (exx D x m T) (k+1)) (lvl (exx D x m T) k) (zeros ((exx D x m T).zA.length-(k+1)))=zeros ((exx D x m T).zA.length-(k+1)):=by grind[sig,sW,yN]
 rw[hz,hs,zHV h hE hT hk hc (by omega) _ _ w4,w3]at v2;have e1:adK m.Prime D (x.zA.length-(k+1)) (sig (suf (exx D x m T) (k+1)) (lvl (exx D x m T) k) ((x.zT.getD k []).drop (k+1)++zeros D)) (wA m.Prime D (T.getD k []) (wM m.Prime D m.zH [k] (idM D)))=sig (suf (exx D x m T) (k+1)) (lvl (exx D x m T) k) (lvl (exx D x m T) k).w:=by grind[zJZ,zHQ]
 have e2:adK m.Prime D (x.zA.length-(k+1)) ((x.zT.getD k []).drop (k+1)++zeros D) (wA m.Prime D (T.getD k []) (wM m.Prime D m.zH [] (idM D)))=(lvl (exx D x m T) k).w:=by rw[show wM m.Prime D m.zH [] (idM D)=idM D from rfl,jF eu,w2]
 have:=zGw h hE hT hk hc k1 k2 (r1:=k) (r2:=k) (s1:=[k]) (s2:=[]) (zA6 h hE hT hk pE) pE v1 v2 (by rw[e1,e2,zDX h hE hT hk fO,zHH h hE hT hk,Js (by have:=wY h (by omega) w1;exact this)];exact hL.c3)
 grind
end
end Go.Pl

namespace Go.Pl
open Go Go.Ab Go.Wk Go.Pc
theorem zVA:∀(a o:Nat)(b:Int)(c:Vec),nw o (zeros a++b::c)=J1 b.toNat (o+a)++nw (o+a+1) c
 |0,o,b,c=>rfl
 |a+1,o,b,c=>by rw[show zeros (a+1)++b::c=0::(zeros a++b::c)from rfl];simp only[nw,Gl,Hk,Jt];rw[zVA a (o+1) b c,show o+1+a=o+(a+1)from by omega]
theorem zKa{os v:List Int}{j k:Nat}(hv:Exp os v j)(hk:k≤j):Exp os v k:=⟨hv.1,fun i hi=>hv.2 i (by omega)⟩
section
variable {x:SPr} (h:Pres x)
 include h
theorem zVB:∀(a k:Nat){b:Int}{c:Vec},k+a<x.zA.length→0≤b→b<at0 x.zA (k+a)→V (suf x (k+a+1)) c→V (suf x k) (zeros a++b::c)
 |0,k,b,c,ha,h0,h1,hc=>by rw[yE (x:=x) (by omega)];exact⟨⟨h0,h1⟩,hc⟩
 |a+1,k,b,c,ha,h0,h1,hc=>by
  have:=(h.os.2 k (by omega)).pos;rw[yE (x:=x) (by omega)];refine⟨⟨Int.le_refl 0,?_⟩,?_⟩
  ·show(0:Int)<at0 x.zA k
   omega
  ·exact zVB a (k+1) (by omega) h0 (by grind) (by grind)
end
section
variable {D:Nat}{x:SPr}{m:zE}{T:Mx} (h:Pres x) (hE:ExB x.zA.length D x m T) (hT:∀i,i<T.length→Row m.Prime D (T.getD i []))
 include h hE hT
variable {k:Nat} (hk:k<x.zA.length) (hc:wR (suf (exx D x m T) (k+1)))
 include hk hc
theorem zNq{j:Nat}(h1:k+1≤j)(h2:j<x.zA.length){b:Int}(h0:0≤b)(hb:b<at0 x.zA j){c:Vec}(cY:V (suf x (j+1)) c):V (suf x (k+1)) (zeros (j-(k+1))++b::c)∧nw (k+1) (zeros (j-(k+1))++b::c)=J1 b.toNat j++nw (j+1) c∧
  fo (exx D x m T) (k+1) (zeros ((exx D x m T).zA.length-(k+1))) (J1 b.toNat j++nw (j+1) c)=(zeros (j-(k+1))++b::c)++zeros D:=by
 have e:k+1+(j-(k+1))=j:=by omega
 have hv:V (suf x (k+1)) (zeros (j-(k+1))++b::c):=by grind[zVB]
 have hn:nw (k+1) (zeros (j-(k+1))++b::c)=J1 b.toNat j++nw (j+1) c:=by rw[zVA,e]
 refine⟨hv,hn,?_⟩;rw[←hn];exact zHU h hE hT _ (k+1) (by omega:k+1+(x.zA.length-(k+1))=x.zA.length) hc _ hv
theorem zOG{e:Vec}(he:V (suf (exx D x m T) (k+1)) e):mul (suf (exx D x m T) (k+1)) (zeros ((exx D x m T).zA.length-(k+1))) e=e:=by
 have G:=(zCx _ (vW h hE hT (k:=k+1) (by omega)) hc).toMon;have:=G.onel he
 grind[yN]
theorem zOH{j:Nat}(h1:k+1≤j)(h2:j<x.zA.length):fo (exx D x m T) (k+1) (zeros ((exx D x m T).zA.length-(k+1))) [j]=xI ((exx D x m T).zA.length-(k+1)) (j-(k+1))∧sig (suf (exx D x m T) (k+1)) (lvl (exx D x m T) k) (xI ((exx D x m T).zA.length-(k+1)) (j-(k+1)))=(lvl (exx D x m T) k).cs.getD (j-(k+1)) []:=by
 have ho:=(h.os.2 j h2).pos;have hz:V (suf x (j+1)) (zeros (x.zA.length-(j+1))):=by have:=wO (h.okAt (k:=j+1) (by omega));grind[yN]
 obtain⟨v1,v2,v3⟩:=zNq h hE hT hk hc h1 h2 (b:=1) (by omega) (by omega) hz;have hn:nw (j+1) (zeros (x.zA.length-(j+1)))=[]:=zCD _ _;rw[hn]at v2 v3;have hf:fo (exx D x m T) (k+1) (zeros ((exx D x m T).zA.length-(k+1))) [j]=xI ((exx D x m T).zA.length-(k+1)) (j-(k+1)):=zOG h hE hT hk hc (zCF h hE hT h1 h2);refine⟨hf,?_⟩;rw[←hf];have v3':fo (exx D x m T) (k+1) (zeros ((exx D x m T).zA.length-(k+1))) [j]=_:=v3
 grind[zEP,zOG,zLO]
theorem zVC(hL:LC x k){j:Nat}(h1:k+1≤j)(h2:j<x.zA.length){t1 t2:List (Nat×List Nat)}{y1 y2:Vec}(k1:qH x k (nw 0 (x.zT.getD j [])++[k]) t1 y1)(k2:qH x k (J1 (yH x j-1) j++k::nw 0 (lcj x k j)) t2 y2):
  tv m.Prime D m T ((j,[k])::t1)=tv m.Prime D m T ((base x.zA.length k+(j-(k+1)),[])::t2)↔c1E (exx D x m T) k j:=by
 have hp:=hE.m.p.pos;have ho:=(h.os.2 k hk).pos;have hj:=(h.os.2 j h2).pos;have cV:=zKa (jG h h2) (show k≤j by omega);have ct:V (suf x (k+1)) ((x.zT.getD j []).drop (k+1)):=jM cV hk;have pu:=sP h cV hk;have te:=zBO h hE hT h2;have pE:=zDr h hE hT (k:=k+1) (by omega) ct (xK (p:=m.Prime) (D:=D) (by omega));obtain⟨c1,c2,c3,c4⟩:=csE h hE hT hk hc h1 h2;have cE:=zDr h hE hT (k:=k+1) (by omega) c1 (xK (p:=m.Prime) (D:=D) (by omega));have hcV:=zLO h hE hT hk h1 h2;have eu:=zD6 h hE hT (show k<j by omega) h2;have mq:V (suf x (j+1)) (zeros (x.zA.length-(j+1))):=by have:=wO (h.okAt (k:=j+1) (by omega));rwa [yN]at this
 obtain⟨u1,u2,u3⟩:=zNq h hE hT hk hc h1 h2 (b:=at0 x.zA j-1) (by omega) (by omega) mq;rw[zCD,Je,show(at0 x.zA j-1).toNat=yH x j-1 from by show _=(at0 x.zA j).toNat-1;omega]at u2 u3;have gB:=vW h hE hT (k:=k+1) (by omega);have G:=(zCx _ gB hc).toMon;have v1:=zEa h hE hT hk hc pu.2 (z:=[]);rw[pu.1,zHU h hE hT _ (k+1) (by omega:k+1+(x.zA.length-(k+1))=x.zA.length) hc _ ct,←pu.1]at v1;have hr:∀a∈J1 (yH x j-1) j,k+1≤a∧a<x.zA.length:=fun a ha=>by have:=Kb ha;omega
 have v2:=zEa h hE hT hk hc hr (z:=nw 0 (lcj x k j));have dO:∀q(e:Vec),(J1 q j).foldl (fun acc j=>mul (suf (exx D x m T) (k+1)) acc ((lvl (exx D x m T) k).cs.getD (j-(k+1)) [])) e=iter q (fun v=>mul (suf (exx D x m T) (k+1)) v ((lvl (exx D x m T) k).cs.getD (j-(k+1)) [])) e:=by
  intro q
  induction q with
  |zero=>intro e;rfl
  |succ q ih=>intro e;rw[Jp,G1,ih];rfl
 have hpq:sig (suf (exx D x m T) (k+1)) (lvl (exx D x m T) k) (fo (exx D x m T) (k+1) (zeros ((exx D x m T).zA.length-(k+1))) (J1 (yH x j-1) j))=pw (mul (suf (exx D x m T) (k+1))) (zeros (suf (exx D x m T) (k+1)).length) ((lvl (exx D x m T) k).cs.getD (j-(k+1)) []) (yH x j-1):=by rw[u3,zEP h hE hT hk u1,u2,dO,yN];rfl
 have dV:V (suf (exx D x m T) (k+1)) (pw (mul (suf (exx D x m T) (k+1))) (zeros (suf (exx D x m T) (k+1)).length) ((lvl (exx D x m T) k).cs.getD (j-(k+1)) []) (yH x j-1)):=tI G hcV _;rw[hpq,zHV h hE hT hk hc (by omega) _ _ c4,zHW h hE hT hk hc c4 dV,c3]at v2;have e1:adK m.Prime D (x.zA.length-(k+1)) (sig (suf (exx D x m T) (k+1)) (lvl (exx D x m T) k) ((x.zT.getD j []).drop (k+1)++zeros D)) (wA m.Prime D (T.getD j []) (wM m.Prime D m.zH [k] (idM D)))=sig (suf (exx D x m T) (k+1)) (lvl (exx D x m T) k) (((exx D x m T).zT.getD j []).drop (k+1)):=by rw[zJZ h hE hT hk hk,zDV h hE hT (by omega) h2,←zHQ h hE hT hk pE te,jY h hE hT (by omega) ct,vR te]
 have e2:adK m.Prime D (x.zA.length-(k+1)) (mul (suf (exx D x m T) (k+1)) (pw (mul (suf (exx D x m T) (k+1))) (zeros (suf (exx D x m T) (k+1)).length) ((lvl (exx D x m T) k).cs.getD (j-(k+1)) []) (yH x j-1)) ((lcj x k j).drop (k+1)++zeros D)) (wA m.Prime D (T.getD (base x.zA.length k+(j-(k+1))) []) (wM m.Prime D m.zH [] (idM D)))=pw (mul (suf (exx D x m T) (k+1))) (zeros (suf (exx D x m T) (k+1)).length) ((lvl (exx D x m T) k).cs.getD (j-(k+1)) []) (at0 (exx D x m T).zA j).toNat:=by
  rw[show wM m.Prime D m.zH [] (idM D)=idM D from rfl,jF eu,←zLL h hE hT hk hc cE eu dV,←c2,uZ h hE hT h2,show(at0 x.zA j).toNat=(yH x j-1)+1 from by show _=(at0 x.zA j).toNat-1+1;omega]
  conv=>rhs;rw[pw,vB]
  rfl
 have eH:V (suf (exx D x m T) (k+1)) (((exx D x m T).zT.getD j []).drop (k+1)):=by rw[zDV h hE hT (by omega) h2];exact zDr h hE hT (by omega) ct te
 have:=zGw h hE hT hk hc k1 k2 (r1:=j) (r2:=base x.zA.length k+(j-(k+1))) (s1:=[k]) (s2:=[]) (zA6 h hE hT hk pE) (xE gB dV cE) v1 v2 (by rw[e1,e2,zDX h hE hT hk eH,zHP h hE hT hk (by omega) h2,zV4 h hE hT (by omega) hcV,zJe h hE hT hk h1 h2,uZ h hE hT h2];exact(hL.c1 j h1 h2).symm)
 rw[e1,e2]at this;rw[this];exact eq_comm
theorem zVD(hL:LC x k){i j:Nat}(h1:k+1≤i)(gM:i<j)(h2:j<x.zA.length){t1 t2:List (Nat×List Nat)}{y1 y2:Vec}(k1:qH x k (i::(nw 0 (lcj x i j)++[k])) t1 y1)(k2:qH x k (j::k::nw 0 (lcj x k i)) t2 y2):
  tv m.Prime D m T ((base x.zA.length i+(j-(i+1)),[k])::t1)=tv m.Prime D m T ((base x.zA.length k+(i-(k+1)),[])::t2)↔c2E (exx D x m T) k i j:=by
 have hp:=hE.m.p.pos;have ho:=(h.os.2 k hk).pos;have hi:=(h.os.2 i (by omega)).pos;have b9:=uD h gM h2;have d4:=zKa b9 (show k≤i by omega);have bJ:V (suf x (k+1)) ((lcj x i j).drop (k+1)):=jM d4 hk;have hci:V (suf x (i+1)) ((lcj x i j).drop (i+1)):=jM b9 (by omega);have hn:=sP h d4 hk;have hni:=sP h b9 (by omega);have tf:=zD6 h hE hT gM h2;have d8:=zDr h hE hT (k:=k+1) (by omega) bJ (xK (p:=m.Prime) (D:=D) (by omega));obtain⟨c1,c2,c3,c4⟩:=csE h hE hT hk hc h1 (show i<x.zA.length by omega);have cE:=zDr h hE hT (k:=k+1) (by omega) c1 (xK (p:=m.Prime) (D:=D) (by omega));have ck:=zLO h hE hT hk h1 (show i<x.zA.length by omega);have pX:=zLO h hE hT hk (show k+1≤j by omega) h2;have eu:=zD6 h hE hT (show k<i by omega) (show i<x.zA.length by omega);have gB:=vW h hE hT (k:=k+1) (by omega);obtain⟨u1,u2,u3⟩:=zNq h hE hT hk hc h1 (show i<x.zA.length by omega) (b:=1) (by omega) (by omega) hci;rw[←hni.1,show J1 (1:Int).toNat i++nw 0 (lcj x i j)=i::nw 0 (lcj x i j)from rfl]at u2 u3;have hr:∀a∈i::nw 0 (lcj x i j),k+1≤a∧a<x.zA.length:=fun a ha=>by
  simp only[J8]at ha;rcases ha with rfl|ha
  ·omega
  ·exact hn.2 a ha
 have v1:=zEa h hE hT hk hc hr (z:=[]);have es:sig (suf (exx D x m T) (k+1)) (lvl (exx D x m T) k) (fo (exx D x m T) (k+1) (zeros ((exx D x m T).zA.length-(k+1))) (i::nw 0 (lcj x i j)))=mul (suf (exx D x m T) (k+1)) ((lvl (exx D x m T) k).cs.getD (i-(k+1)) []) (sig (suf (exx D x m T) (k+1)) (lvl (exx D x m T) k) ((lcj x i j).drop (k+1)++zeros D)):=by rw[u3,zEP h hE hT hk u1,u2,G1,zOG h hE hT hk hc ck,zEP h hE hT hk bJ,←hn.1];have:=zLP h hE hT hk hc hn.2 ck (zNn h hE hT (k:=k+1) (by omega));rw[zXa h hE hT (by omega) ck]at this;exact this
 rw[es]at v1;have v2:=zEa h hE hT hk hc (v:=[j]) (fun a ha=>by simp only[List.mem_singleton]at ha;omega) (z:=nw 0 (lcj x k i));obtain⟨g1,g2⟩:=zOH h hE hT hk hc (show k+1≤j by omega) h2;rw[g1,g2,zHV h hE hT hk hc (by omega) _ _ c4,zHW h hE hT hk hc c4 pX,c3]at v2;have cU:=zA6 h hE hT hk d8;have eC:((((exx D x m T).zF.getD i []).getD (j-(i+1)) []).drop (k+1))=adK m.Prime D (x.zA.length-(k+1)) ((lcj x i j).drop (k+1)++zeros D) (T.getD (base x.zA.length i+(j-(i+1))) []):=by rw[zF6 h hE hT (by omega) gM h2,jY h hE hT (by omega) bJ,vR tf]
 have e1:adK m.Prime D (x.zA.length-(k+1)) (mul (suf (exx D x m T) (k+1)) ((lvl (exx D x m T) k).cs.getD (i-(k+1)) []) (sig (suf (exx D x m T) (k+1)) (lvl (exx D x m T) k) ((lcj x i j).drop (k+1)++zeros D))) (wA m.Prime D (T.getD (base x.zA.length i+(j-(i+1))) []) (wM m.Prime D m.zH [k] (idM D)))=mul (suf (exx D x m T) (k+1)) ((lvl (exx D x m T) k).cs.getD (i-(k+1)) []) (sig (suf (exx D x m T) (k+1)) (lvl (exx D x m T) k) ((((exx D x m T).zF.getD i []).getD (j-(i+1)) []).drop (k+1))):=by rw[zJZ h hE hT hk hk,←zLL h hE hT hk hc cU (wX (by omega)) ck,←zHQ h hE hT hk d8 tf,←eC]
 have e2:adK m.Prime D (x.zA.length-(k+1)) (mul (suf (exx D x m T) (k+1)) ((lvl (exx D x m T) k).cs.getD (j-(k+1)) []) ((lcj x k i).drop (k+1)++zeros D)) (wA m.Prime D (T.getD (base x.zA.length k+(i-(k+1))) []) (wM m.Prime D m.zH [] (idM D)))=mul (suf (exx D x m T) (k+1)) ((lvl (exx D x m T) k).cs.getD (j-(k+1)) []) ((lvl (exx D x m T) k).cs.getD (i-(k+1)) []):=by rw[show wM m.Prime D m.zH [] (idM D)=idM D from rfl,jF eu,←zLL h hE hT hk hc cE eu pX,←c2]
 have aD:V (suf (exx D x m T) (k+1)) ((((exx D x m T).zF.getD i []).getD (j-(i+1)) []).drop (k+1)):=by rw[eC];exact zXb h hE hT (by omega) d8
 have:=zGw h hE hT hk hc k1 k2 (r1:=base x.zA.length i+(j-(i+1))) (r2:=base x.zA.length k+(i-(k+1))) (s1:=[k]) (s2:=[]) (xE gB ck cU) (xE gB pX cE) v1 v2 (by rw[e1,e2,zBQ h hE hT (by omega) ck (zA6 h hE hT hk aD),zBQ h hE hT (by omega) pX ck,zDX h hE hT hk aD,zJe h hE hT hk h1 (by omega),zJe h hE hT hk (by omega) h2,zRP h hE hT hk h1 gM h2];exact(hL.c2 i h1 (by omega) j (by omega) h2).symm)
 rw[e1,e2]at this;rw[this];exact eq_comm
end
end Go.Pl

namespace Go.Pl
open Go Go.Ab Go.Wk Go.Pc
section
variable {D:Nat}{x:SPr}{m:zE}{T:Mx} (h:Pres x) (hE:ExB x.zA.length D x m T) (hT:∀i,i<T.length→Row m.Prime D (T.getD i []))
 include h hE hT
variable {k:Nat} (hk:k<x.zA.length) (hc:wR (suf (exx D x m T) (k+1)))
 include hk hc
 omit hc in
theorem zNr:∀(q:Nat){e:Vec},V (suf (exx D x m T) (k+1)) e→V (suf (exx D x m T) (k+1)) (iter q (sig (suf (exx D x m T) (k+1)) (lvl (exx D x m T) k)) e)
  |0,_,he=>he
  |q+1,_,he=>zNr q (zA6 h hE hT hk he)
 omit hc in
theorem zVE:∀(q:Nat){e d:Vec},V (suf (exx D x m T) (k+1)) e→Row m.Prime D d→iter q (sig (suf (exx D x m T) (k+1)) (lvl (exx D x m T) k)) (adK m.Prime D (x.zA.length-(k+1)) e d)=adK m.Prime D (x.zA.length-(k+1)) (iter q (sig (suf (exx D x m T) (k+1)) (lvl (exx D x m T) k)) e) (wA m.Prime D d (wM m.Prime D m.zH (J1 q k) (idM D)))
  |0,e,d,_,hd=>by show adK _ _ _ e d=adK _ _ _ e (wA m.Prime D d (idM D));rw[jF hd]
  |q+1,e,d,he,hd=>by have hp:=hE.m.p.pos;show iter q _ (sig _ _ (adK _ _ _ e d))=adK _ _ _ (iter q _ (sig _ _ e)) _;rw[zHQ h hE hT hk he hd,zVE q (zA6 h hE hT hk he) (wX (by omega)),Jp,show k::J1 q k=[k]++J1 q k from rfl,zEO (by omega),zJZ h hE hT hk hk]
theorem zSa:∀(q:Nat){c:Int}{e:Vec},0≤c→c+(q:Int)<at0 x.zA k→V (suf (exx D x m T) (k+1)) e→fo (exx D x m T) k (c::e) (J1 q k)=(c+(q:Int))::iter q (sig (suf (exx D x m T) (k+1)) (lvl (exx D x m T) k)) e
 |0,c,e,_,_,_=>by
  show c::e=(c+((0:Nat):Int))::e
  congr 1;omega
 |q+1,c,e,h0,h1,he=>by
  rw[Jp,sE,zFZ h hE hT hk hc he,if_neg (by omega),zSa q (by omega) (by omega) (zA6 h hE hT hk he)];show(c+1+(q:Int))::iter q _ (sig _ _ e)=(c+((q+1:Nat):Int))::iter q _ (sig _ _ e)
  congr 1;omega
theorem zVF(hL:LC x k){j:Nat}(h1:k+1≤j)(h2:j<x.zA.length){t1 t2:List (Nat×List Nat)}{y1 y2:Vec}(k1:qH x k (k::(nw 0 (lcj x k j)++J1 (yH x k-1) k)) t1 y1)(k2:qH x k (j::nw 0 (x.zT.getD k [])) t2 y2):
  tv m.Prime D m T ((base x.zA.length k+(j-(k+1)),J1 (yH x k-1) k)::t1)=tv m.Prime D m T ((k,[])::t2)↔c4E (exx D x m T) k j:=by
 have hp:=hE.m.p.pos;have ho:=(h.os.2 k hk).pos;have hon:(yH x k:Int)=at0 x.zA k:=by show(((at0 x.zA k).toNat:Nat):Int)=_;omega
 obtain⟨w1,w2,w3,w4⟩:=wE h hE hT hk hc;have pE:=zDr h hE hT (k:=k+1) (by omega) w1 (xK (p:=m.Prime) (D:=D) (by omega));have fO:=zPA h hE hT hk;have eu:=zBO h hE hT hk;obtain⟨c1,c2,c3,c4⟩:=csE h hE hT hk hc h1 h2;have cE:=zDr h hE hT (k:=k+1) (by omega) c1 (xK (p:=m.Prime) (D:=D) (by omega));have te:=zD6 h hE hT (show k<j by omega) h2;have gB:=vW h hE hT (k:=k+1) (by omega);have hg:=zCF h hE hT h1 h2;obtain⟨g1,g2⟩:=zOH h hE hT hk hc h1 h2;have hz:fo (exx D x m T) (k+1) (zeros ((exx D x m T).zA.length-(k+1))) []=zeros ((exx D x m T).zA.length-(k+1)):=rfl;have hs:sig (suf (exx D x m T) (k+1)) (lvl (exx D x m T) k) (zeros ((exx D x m T).zA.length-(k+1)))=zeros ((exx D x m T).zA.length-(k+1)):=by unfold sig;rw[sW,yN]
 have hl:=wH h hE hT;have v1:=zEa h hE hT hk hc (v:=[]) (fun a ha=>by simp at ha) (z:=nw 0 (lcj x k j)++J1 (yH x k-1) k);rw[hz,hs]at v1;have v0:=v1.trans (zCE (e:=exx D x m T) (k:=k) (u:=(1:Int)::zeros ((exx D x m T).zA.length-(k+1))) (v:=nw 0 (lcj x k j)) (w:=J1 (yH x k-1) k));rw[zHV h hE hT hk hc (by omega) _ _ c4,c3]at v0;have ef:=zNr h hE hT hk (yH x k-2) cE;have v1':fo (exx D x m T) k (zeros ((exx D x m T).zA.length-k)) (k::(nw 0 (lcj x k j)++J1 (yH x k-1) k))=0::mul (suf (exx D x m T) (k+1)) (lvl (exx D x m T) k).w (iter (yH x k-1) (sig (suf (exx D x m T) (k+1)) (lvl (exx D x m T) k)) ((lcj x k j).drop (k+1)++zeros D)):=by
  refine v0.trans ?_;rw[show yH x k-1=(yH x k-2)+1 from by omega,Lu,zCE,zSa h hE hT hk hc (yH x k-2) (by omega) (by omega) cE];show mul _ _ _=_;rw[zFZ h hE hT hk hc ef,if_pos (by omega),vB]
  congr 1;omega
 have hr:∀a∈j::nw 0 (x.zT.getD k []),k+1≤a∧a<x.zA.length:=fun a ha=>by
  simp only[J8]at ha;rcases ha with rfl|ha
  ·omega
  ·exact w4 a ha
 have v2:fo (exx D x m T) k (zeros ((exx D x m T).zA.length-k)) (j::nw 0 (x.zT.getD k []))=0::mul (suf (exx D x m T) (k+1)) (xI ((exx D x m T).zA.length-(k+1)) (j-(k+1))) ((x.zT.getD k []).drop (k+1)++zeros D):=by rw[show zeros ((exx D x m T).zA.length-k)=0::zeros ((exx D x m T).zA.length-(k+1))from by rw[show(exx D x m T).zA.length-k=(exx D x m T).zA.length-(k+1)+1 from by omega];rfl,zHV h hE hT hk hc (by omega) _ _ hr,sE,zOG h hE hT hk hc hg,zHW h hE hT hk hc w4 hg,w3]
 have e1:adK m.Prime D (x.zA.length-(k+1)) (mul (suf (exx D x m T) (k+1)) (lvl (exx D x m T) k).w (iter (yH x k-1) (sig (suf (exx D x m T) (k+1)) (lvl (exx D x m T) k)) ((lcj x k j).drop (k+1)++zeros D))) (wA m.Prime D (T.getD (base x.zA.length k+(j-(k+1))) []) (wM m.Prime D m.zH (J1 (yH x k-1) k) (idM D)))=mul (suf (exx D x m T) (k+1)) (lvl (exx D x m T) k).w (iter (lvl (exx D x m T) k).o.toNat (sig (suf (exx D x m T) (k+1)) (lvl (exx D x m T) k)) (xI ((exx D x m T).zA.length-(k+1)) (j-(k+1)))):=by rw[←zLL h hE hT hk hc (zNr h hE hT hk _ cE) (wX (by omega)) fO,←zVE h hE hT hk _ cE te,←c2,←g2,zBv h hE hT hk,show(at0 x.zA k).toNat=(yH x k-1)+1 from by show _=(at0 x.zA k).toNat-1+1;omega];rfl
 have e2:adK m.Prime D (x.zA.length-(k+1)) (mul (suf (exx D x m T) (k+1)) (xI ((exx D x m T).zA.length-(k+1)) (j-(k+1))) ((x.zT.getD k []).drop (k+1)++zeros D)) (wA m.Prime D (T.getD k []) (wM m.Prime D m.zH [] (idM D)))=mul (suf (exx D x m T) (k+1)) (xI ((exx D x m T).zA.length-(k+1)) (j-(k+1))) (lvl (exx D x m T) k).w:=by rw[show wM m.Prime D m.zH [] (idM D)=idM D from rfl,jF eu,←zLL h hE hT hk hc pE eu hg,←w2]
 have di:(lvl (exx D x m T) k).w.take (x.zA.length-(k+1))=(lvl x k).w:=zHP h hE hT hk (Ji k) hk;have eT:(xI (x.zA.length-(k+1)) (j-(k+1))).length=x.zA.length-(k+1):=by simp[xI,zeros]
 have:=zGw h hE hT hk hc k1 k2 (r1:=base x.zA.length k+(j-(k+1))) (r2:=k) (s1:=J1 (yH x k-1) k) (s2:=[]) (xE gB fO (zNr h hE hT hk _ cE)) (xE gB hg pE) v1' v2 (by rw[e1,e2,zBQ h hE hT (by omega) fO (zNr h hE hT hk _ hg),zBQ h hE hT (by omega) hg fO,zJS h hE hT hk _ hg,di,zRQ h hE hT hk h1 h2,Js eT,zBv h hE hT hk];exact hL.c4 j h1 h2)
 rw[e1,e2]at this;exact this
end
structure zKb (x:SPr) (k:Nat) (r1:Nat) (s1 w1:List Nat) (r2:Nat) (s2 w2:List Nat) (t1 t2:List (Nat×List Nat)):Prop where
 a:∃u1 y1,t1=(r1,s1)::u1∧qH x k w1 u1 y1
 b:∃u2 y2,t2=(r2,s2)::u2∧qH x k w2 u2 y2
structure zVG (x:SPr) (D:Nat) (m:zE) (T:Mx):Prop where
 p1:∀k j,k<j→j<x.zA.length→ ∀t1 t2,zKb x k j [k] (nw 0 (x.zT.getD j [])++[k]) (base x.zA.length k+(j-(k+1))) [] (J1 (yH x j-1) j++k::nw 0 (lcj x k j)) t1 t2→tv m.Prime D m T t1=tv m.Prime D m T t2
 p2:∀k i j,k<i→i<j→j<x.zA.length→ ∀t1 t2,zKb x k (base x.zA.length i+(j-(i+1))) [k] (i::(nw 0 (lcj x i j)++[k])) (base x.zA.length k+(i-(k+1))) [] (j::k::nw 0 (lcj x k i)) t1 t2→tv m.Prime D m T t1=tv m.Prime D m T t2
 p3:∀k,k<x.zA.length→ ∀t1 t2,zKb x k k [k] (nw 0 (x.zT.getD k [])++[k]) k [] (k::nw 0 (x.zT.getD k [])) t1 t2→tv m.Prime D m T t1=tv m.Prime D m T t2
 p4:∀k j,k<j→j<x.zA.length→ ∀t1 t2,zKb x k (base x.zA.length k+(j-(k+1))) (J1 (yH x k-1) k) (k::(nw 0 (lcj x k j)++J1 (yH x k-1) k)) k [] (j::nw 0 (x.zT.getD k [])) t1 t2→tv m.Prime D m T t1=tv m.Prime D m T t2
end Go.Pl

namespace Go.Pl
open Go Go.Ab Go.Wk Go.Pc
section
variable {D:Nat}{x:SPr}{m:zE}{T:Mx} (h:Pres x) (hE:ExB x.zA.length D x m T) (hT:∀i,i<T.length→Row m.Prime D (T.getD i []))
 include h hE hT
theorem zJf{k:Nat}(hk:k<x.zA.length)(hL:LC x k)(hc:wR (suf (exx D x m T) (k+1))):LCn x (exx D x m T) k↔
  (∀j,k<j→j<x.zA.length→ ∀t1 t2,zKb x k j [k] (nw 0 (x.zT.getD j [])++[k]) (base x.zA.length k+(j-(k+1))) [] (J1 (yH x j-1) j++k::nw 0 (lcj x k j)) t1 t2→tv m.Prime D m T t1=tv m.Prime D m T t2)∧
  (∀i j,k<i→i<j→j<x.zA.length→ ∀t1 t2,zKb x k (base x.zA.length i+(j-(i+1))) [k] (i::(nw 0 (lcj x i j)++[k])) (base x.zA.length k+(i-(k+1))) [] (j::k::nw 0 (lcj x k i)) t1 t2→tv m.Prime D m T t1=tv m.Prime D m T t2)∧
  (∀t1 t2,zKb x k k [k] (nw 0 (x.zT.getD k [])++[k]) k [] (k::nw 0 (x.zT.getD k [])) t1 t2→tv m.Prime D m T t1=tv m.Prime D m T t2)∧
  (∀j,k<j→j<x.zA.length→ ∀t1 t2,zKb x k (base x.zA.length k+(j-(k+1))) (J1 (yH x k-1) k) (k::(nw 0 (lcj x k j)++J1 (yH x k-1) k)) k [] (j::nw 0 (x.zT.getD k [])) t1 t2→tv m.Prime D m T t1=tv m.Prime D m T t2):=by
 have hC:=fun(w:List Nat)(hw:∀a∈w,k≤a∧a<x.zA.length)=>zUu h (x.zA.length-k) k (by omega) w hw
 have eC:∀i j,i<j→j<x.zA.length→ ∀a∈nw 0 (lcj x i j),i+1≤a∧a<x.zA.length:=fun i j hi hj=>(sP h (uD h hi hj) (by omega)).2
 have eH:∀i,i<x.zA.length→ ∀a∈nw 0 (x.zT.getD i []),i+1≤a∧a<x.zA.length:=fun i hi=>(sP h (jG h hi) hi).2
 constructor
 ·intro g
  refine⟨?_,?_,?_,?_⟩
  ·rintro j h1 h2 t1 t2 ⟨⟨u1,y1,rfl,k1⟩,⟨u2,y2,rfl,k2⟩⟩
   exact(zVC h hE hT hk hc hL (by omega) h2 k1 k2).2 (g.c1 j (by omega) h2)
  ·rintro i j h1 gM h2 t1 t2 ⟨⟨u1,y1,rfl,k1⟩,⟨u2,y2,rfl,k2⟩⟩
   exact(zVD h hE hT hk hc hL (by omega) gM h2 k1 k2).2 (g.c2 i (by omega) (by omega) j (by omega) h2)
  ·rintro t1 t2 ⟨⟨u1,y1,rfl,k1⟩,⟨u2,y2,rfl,k2⟩⟩
   exact(zV9 h hE hT hk hc hL k1 k2).2 g.c3
  ·rintro j h1 h2 t1 t2 ⟨⟨u1,y1,rfl,k1⟩,⟨u2,y2,rfl,k2⟩⟩
   exact(zVF h hE hT hk hc hL (by omega) h2 k1 k2).2 (g.c4 j (by omega) h2)
 ·rintro⟨g1,g2,g3,g4⟩
  refine⟨fun j h1 h2=>?_,fun i h1 hi j gM h2=>?_,?_,fun j h1 h2=>?_⟩
  ·obtain⟨u1,y1,k1⟩:=hC (nw 0 (x.zT.getD j [])++[k]) (fun a ha=>by
    simp only[Jd,List.mem_singleton]at ha;rcases ha with ha|rfl
    ·have:=eH j h2 a ha;omega
    ·omega)
   obtain⟨u2,y2,k2⟩:=hC (J1 (yH x j-1) j++k::nw 0 (lcj x k j)) (fun a ha=>by
    simp only[Jd,J8]at ha;rcases ha with ha|rfl|ha
    ·have:=Kb ha;omega
    ·omega
    ·have:=eC k j (by omega) h2 a ha;omega)
   exact(zVC h hE hT hk hc hL h1 h2 k1 k2).1 (g1 j (by omega) h2 _ _ ⟨⟨u1,y1,rfl,k1⟩,⟨u2,y2,rfl,k2⟩⟩)
  ·obtain⟨u1,y1,k1⟩:=hC (i::(nw 0 (lcj x i j)++[k])) (fun a ha=>by
    simp only[Jd,J8,Jar,or_false]at ha;rcases ha with rfl|ha|rfl
    ·omega
    ·have:=eC i j (by omega) h2 a ha;omega
    ·omega)
   obtain⟨u2,y2,k2⟩:=hC (j::k::nw 0 (lcj x k i)) (fun a ha=>by
    simp only[J8]at ha;rcases ha with rfl|rfl|ha
    ·omega
    ·omega
    ·have:=eC k i (by omega) hi a ha;omega)
   exact(zVD h hE hT hk hc hL h1 (by omega) h2 k1 k2).1 (g2 i j (by omega) (by omega) h2 _ _ ⟨⟨u1,y1,rfl,k1⟩,⟨u2,y2,rfl,k2⟩⟩)
  ·obtain⟨u1,y1,k1⟩:=hC (nw 0 (x.zT.getD k [])++[k]) (fun a ha=>by
    simp only[Jd,List.mem_singleton]at ha;rcases ha with ha|rfl
    ·have:=eH k hk a ha;omega
    ·omega)
   obtain⟨u2,y2,k2⟩:=hC (k::nw 0 (x.zT.getD k [])) (fun a ha=>by
    simp only[J8]at ha;rcases ha with rfl|ha
    ·omega
    ·have:=eH k hk a ha;omega)
   exact(zV9 h hE hT hk hc hL k1 k2).1 (g3 _ _ ⟨⟨u1,y1,rfl,k1⟩,⟨u2,y2,rfl,k2⟩⟩)
  ·obtain⟨u1,y1,k1⟩:=hC (k::(nw 0 (lcj x k j)++J1 (yH x k-1) k)) (fun a ha=>by
    simp only[Jd,J8]at ha;rcases ha with rfl|ha|ha
    ·omega
    ·have:=eC k j (by omega) h2 a ha;omega
    ·have:=Kb ha;omega)
   obtain⟨u2,y2,k2⟩:=hC (j::nw 0 (x.zT.getD k [])) (fun a ha=>by
    simp only[J8]at ha;rcases ha with rfl|ha
    ·omega
    ·have:=eH k hk a ha;omega)
   exact(zVF h hE hT hk hc hL h1 h2 k1 k2).1 (g4 j (by omega) h2 _ _ ⟨⟨u1,y1,rfl,k1⟩,⟨u2,y2,rfl,k2⟩⟩)
theorem zPC(hx:wR (suf x 0))(hr:zDS x m D):zVG x D m T↔wR (suf (exx D x m T) 0):=by
 have hl:=wH h hE hT;have mZ:∀k,k<x.zA.length→LC x k:=fun k hk=>((zA1 h.w hk).1 (zBr hx k)).2
 constructor
 ·intro g
  have key:∀(d k:Nat),k+d=x.zA.length→wR (suf (exx D x m T) k):=by
   intro d
   induction d with
   |zero=>intro k hk;exact zHN h hE hT D k (by omega) (by omega)
   |succ d ih=>
    intro k hk;have hc:=ih (k+1) (by omega);refine(zA1 (zGs h hE hT) (by omega)).2 ⟨hc,zRK h hE hT hr (by omega) ((zJf h hE hT (by omega) (mZ k (by omega)) hc).2 ⟨?_,?_,?_,?_⟩)⟩
    ·exact fun j h1 h2 t1 t2 b=>g.p1 k j h1 h2 t1 t2 b
    ·exact fun i j h1 gM h2 t1 t2 b=>g.p2 k i j h1 gM h2 t1 t2 b
    ·exact fun t1 t2 b=>g.p3 k (by omega) t1 t2 b
    ·exact fun j h1 h2 t1 t2 b=>g.p4 k j h1 h2 t1 t2 b
  exact key x.zA.length 0 (by omega)
 ·intro g
  have g0:=(zO9 h hE hT hr).1 g;have hck:∀k,k<x.zA.length→wR (suf (exx D x m T) (k+1)):=fun k _=>zBr g (k+1)
  have key:=fun k(hk:k<x.zA.length)=>(zJf h hE hT hk (mZ k hk) (hck k hk)).1 (g0 k hk)
  exact⟨fun k j h1 h2=>(key k (by omega)).1 j h1 h2,fun k i j h1 gM h2=>(key k (by omega)).2.1 i j h1 gM h2,fun k hk=>(key k hk).2.2.1,fun k j h1 h2=>(key k (by omega)).2.2.2 j h1 h2⟩
end
theorem Col.det{x:SPr}{k k':Nat}{w:List Nat}{t1 t2:List (Nat×List Nat)}{w1 w2:List Nat}(h1:Col x k w t1 w1)(h2:Col x k' w t2 w2)(n1:stS x w1=i8)(n2:stS x w2=i8):t1=t2∧w1=w2:=by
 induction h1 generalizing t2 with
 |refl w=>
  cases h2 with
  |refl=>exact⟨rfl,rfl⟩
  |step _ hs _=>rw[n1]at hs;cases hs
 |step hw hs hc ih=>
  cases h2 with
  |refl=>rw[n2]at hs;cases hs
  |step _ bB fa=>
   rw[hs]at bB;cases bB;obtain⟨rfl,rfl⟩:=ih fa n1;exact⟨rfl,rfl⟩
end Go.Pl

namespace Go.Pl
open Go Go.Ab Go.Wk Go.Pc
structure Fh (n D D2:Nat) (m m2:zE) (T T2:Mx) (φ:Vec→Vec):Prop where
 pr:m2.Prime=m.Prime
 row:∀u,Row m.Prime D u→Row m.Prime D2 (φ u)
 z:φ (zeros D)=zeros D2
 add:∀u v,Row m.Prime D u→Row m.Prime D v→φ (adv m.Prime D u v)=adv m.Prime D2 (φ u) (φ v)
 act:∀k,k<n→ ∀u,Row m.Prime D u→φ (wA m.Prime D u (m.zH.getD k []))=wA m.Prime D2 (φ u) (m2.zH.getD k [])
 t:∀r,r<base n n→φ (T.getD r [])=T2.getD r []
def Fm(φ:Vec→Vec)(N:Nat)(e:Vec):Vec:=e.take N++φ (e.drop N)
theorem zA7{φ:Vec→Vec}{N:Nat}{y u:Vec}(hy:y.length=N):Fm φ N (y++u)=y++φ u:=by rw[Fm,Js hy,K3 hy]
theorem zGx{φ:Vec→Vec}{N:Nat}{b:Int}{e:Vec}:Fm φ (N+1) (b::e)=b::Fm φ N e:=by simp only[Fm,Ld,List.drop_succ_cons,K1]
section
variable {D D2:Nat}{x:SPr}{m m2:zE}{T T2:Mx}{φ:Vec→Vec} (h:Pres x) (hE:ExB x.zA.length D x m T) (hT:∀i,i<T.length→Row m.Prime D (T.getD i [])) (gL:ExB x.zA.length D2 x m2 T2) (gQ:∀i,i<T2.length→Row m2.Prime D2 (T2.getD i [])) (hF:Fh x.zA.length D D2 m m2 T T2 φ)
 include h hE hT gL gQ hF
theorem zYV{k:Nat}(hk:k≤x.zA.length):Fm φ (x.zA.length-k) (zeros (suf (exx D x m T) k).length)=zeros (suf (exx D2 x m2 T2) k).length:=by rw[zAX h hE hT hk,zAX h gL gQ hk,zA7 (zZ _),hF.z]
theorem zOI{k j:Nat}(h1:k+1≤j)(h2:j<x.zA.length):Fm φ (x.zA.length-(k+1)) ((lvl (exx D x m T) k).cs.getD (j-(k+1)) [])=(lvl (exx D2 x m2 T2) k).cs.getD (j-(k+1)) []:=by have hn:=hE.hn;have hb:=zBK x.zA.length (by omega) k (by omega);have gE:V (suf x (k+1)) ((lcj x k j).drop (k+1)):=jM (uD h (by omega) h2) (by omega);rw[zHL h hE hT (by omega) h1 h2,zHL h gL gQ (by omega) h1 h2,show(lvl x k).cs.getD (j-(k+1)) []=(lcj x k j).drop (k+1)from map_drop,zA7 (wY h (by omega) gE),hF.t _ (by omega)]
theorem zXd{k:Nat}(hk:k<x.zA.length):Fm φ (x.zA.length-(k+1)) (lvl (exx D x m T) k).w=(lvl (exx D2 x m2 T2) k).w:=by have hn:=hE.hn;have hb:=uC x.zA.length (by omega);have ct:V (suf x (k+1)) ((x.zT.getD k []).drop (k+1)):=jM (jG h hk) hk;rw[zHH h hE hT hk,zHH h gL gQ hk,show(lvl x k).w=(x.zT.getD k []).drop (k+1)from rfl,zA7 (wY h (by omega) ct),hF.t _ (by omega)]
theorem zSb{k:Nat}(hk:k<x.zA.length)(ih:∀a b,V (suf (exx D x m T) (k+1)) a→V (suf (exx D x m T) (k+1)) b→Fm φ (x.zA.length-(k+1)) (mul (suf (exx D x m T) (k+1)) a b)=mul (suf (exx D2 x m2 T2) (k+1)) (Fm φ (x.zA.length-(k+1)) a) (Fm φ (x.zA.length-(k+1)) b)){v:Vec}(hv:V (suf (exx D x m T) (k+1)) v):
  Fm φ (x.zA.length-(k+1)) (sig (suf (exx D x m T) (k+1)) (lvl (exx D x m T) k) v)=sig (suf (exx D2 x m2 T2) (k+1)) (lvl (exx D2 x m2 T2) k) (Fm φ (x.zA.length-(k+1)) v):=by
 have hp:=hE.m.p.pos;have ok:=vW h hE hT (k:=k+1) (by omega);obtain⟨y,u,rfl,hy,hu⟩:=(sD h hE hT (x.zA.length-(k+1)) (k+1) (by omega) _).1 hv;have er:=wY h (by omega) hy;have fM:Row m2.Prime D2 (φ u):=by rw[hF.pr];exact hF.row u hu
 have hsg:Fm φ (x.zA.length-(k+1)) (sgG D x m T k y)=sgG D2 x m2 T2 k y:=by
  unfold sgG;rw[zEI (S:=V (suf (exx D x m T) (k+1))) (n:=mul (suf (exx D2 x m2 T2) (k+1))) (Fm φ (x.zA.length-(k+1))) (fun a b=>xE ok) ih _ _ _ (zO7 h hE hT hk) (wO ok),zYV h hE hT gL gQ hF (by omega)]
  congr 1
  apply Qg
  ·rw[Jh,tO h hE hT,tO h gL gQ]
  ·intro i h1 h2
   rw[Jh,tO h hE hT]at h1;have e1:(eC1 x T k)[i]'(by rw[tO h hE hT];exact h1)=(lvl (exx D x m T) k).cs.getD (k+1+i-(k+1)) []:=by rw[show k+1+i-(k+1)=i from by omega,zBM h hE hT hk,J2,Ju (by rw[tO h hE hT];exact h1),J4 (by rw[tO h hE hT];exact h1)];rfl
   have e2:(eC1 x T2 k)[i]'h2=(lvl (exx D2 x m2 T2) k).cs.getD (k+1+i-(k+1)) []:=by rw[show k+1+i-(k+1)=i from by omega,zBM h gL gQ hk,J2,Ju h2,J4 h2];rfl
   rw[Jbw,e1,e2,zOI h hE hT gL gQ hF (by omega) (by omega)]
 obtain⟨y1,u1,e,ff,cw⟩:=(sD h hE hT (x.zA.length-(k+1)) (k+1) (by omega) _).1 (zHJ h hE hT hk (y:=y));have gK:=wY h (by omega) ff;rw[e,zA7 gK]at hsg;rw[zBN h hE hT hk hy hu,e,Js gK,K3 gK,zA7 gK,zA7 er,zBN h gL gQ hk hy fM,←hsg,Js gK,K3 gK,hF.pr,hF.add _ _ cw (wX (by omega)),hF.act k hk u hu]
theorem zKc{k:Nat}(hk:k<x.zA.length)(ih:∀a b,V (suf (exx D x m T) (k+1)) a→V (suf (exx D x m T) (k+1)) b→Fm φ (x.zA.length-(k+1)) (mul (suf (exx D x m T) (k+1)) a b)=mul (suf (exx D2 x m2 T2) (k+1)) (Fm φ (x.zA.length-(k+1)) a) (Fm φ (x.zA.length-(k+1)) b)):∀(q:Nat){v:Vec},V (suf (exx D x m T) (k+1)) v→
  Fm φ (x.zA.length-(k+1)) (iter q (sig (suf (exx D x m T) (k+1)) (lvl (exx D x m T) k)) v)=iter q (sig (suf (exx D2 x m2 T2) (k+1)) (lvl (exx D2 x m2 T2) k)) (Fm φ (x.zA.length-(k+1)) v)
 |0,_,_=>rfl
 |q+1,v,hv=>by show Fm φ _ (iter q _ (sig _ _ v))=iter q _ (sig _ _ (Fm φ _ v));rw[zKc hk ih q (zA6 h hE hT hk hv),zSb h hE hT gL gQ hF hk ih hv]
theorem zNs:∀(d k:Nat),k+d=x.zA.length→ ∀a b,V (suf (exx D x m T) k) a→V (suf (exx D x m T) k) b→Fm φ (x.zA.length-k) (mul (suf (exx D x m T) k) a b)=mul (suf (exx D2 x m2 T2) k) (Fm φ (x.zA.length-k) a) (Fm φ (x.zA.length-k) b)
 |0,k,hk,a,b,ha,hb=>by
  have hp:=hE.m.p.pos;have a9:=gL.m.p.pos;rw[zAo h hE hT D k (by omega) (by omega)]at ha hb ⊢
  rw[zAo h gL gQ D2 k (by omega) (by omega)];have m7:=(zD5 _ _).1 ha;have eP:=(zD5 _ _).1 hb;have e:∀w:Vec,Fm φ (x.zA.length-k) w=φ w:=fun w=>by rw[Fm,show x.zA.length-k=0 from by omega];rfl
  rw[e,e,e,qP (by omega) D _ _ m7 eP,hF.add _ _ m7 eP,hF.pr,qP (by omega) D2 _ _ (hF.row _ m7) (hF.row _ eP)]
 |d+1,k,hk,a,b,ha,hb=>by
  have pH:k<x.zA.length:=by omega
  have ih:=zNs d (k+1) (by omega);have hl:=wH h hE hT;have ap:=wH h gL gQ;have ok:=vW h hE hT (k:=k+1) (by omega);have fO:=zPA h hE hT pH;rw[yE (x:=exx D x m T) (by omega)]at ha hb ⊢
  rw[yE (x:=exx D2 x m2 T2) (by omega)];cases a with
  |nil=>exact ha.elim
  |cons a u=>
  cases b with
  |nil=>exact hb.elim
  |cons b v=>
   obtain⟨_,ha⟩:=ha;obtain⟨_,hb⟩:=hb;have ef:=zNr h hE hT pH b.toNat ha;have hm:=xE ok ef hb;rw[show x.zA.length-k=x.zA.length-(k+1)+1 from by omega,zGx,zGx,yY,yY,zBv h hE hT pH,zBv h gL gQ pH,←zKc h hE hT gL gQ hF pH ih _ ha,←ih _ _ ef hb]
   by_cases g:a+b≥at0 x.zA k
   ·rw[if_pos g,if_pos g,zGx,ih _ _ fO hm,zXd h hE hT gL gQ hF pH]
   ·rw[if_neg g,if_neg g,zGx]
end
end Go.Pl

namespace Go.Pl
open Go Go.Ab Go.Wk Go.Pc
section
variable {D D2:Nat}{x:SPr}{m m2:zE}{T T2:Mx}{φ:Vec→Vec} (h:Pres x) (hE:ExB x.zA.length D x m T) (hT:∀i,i<T.length→Row m.Prime D (T.getD i [])) (gL:ExB x.zA.length D2 x m2 T2) (gQ:∀i,i<T2.length→Row m2.Prime D2 (T2.getD i [])) (hF:Fh x.zA.length D D2 m m2 T T2 φ)
 include h hE hT gL gQ hF
theorem zVH{k:Nat}(hk:k<x.zA.length){c:Vec}(hc:V (suf (exx D x m T) (k+1)) c):∀q,Fm φ (x.zA.length-(k+1)) (pw (mul (suf (exx D x m T) (k+1))) (zeros (suf (exx D x m T) (k+1)).length) c q)=pw (mul (suf (exx D2 x m2 T2) (k+1))) (zeros (suf (exx D2 x m2 T2) (k+1)).length) (Fm φ (x.zA.length-(k+1)) c) q
 |0=>zYV h hE hT gL gQ hF (by omega)
 |q+1=>by have ok:=vW h hE hT (k:=k+1) (by omega);have hq:V (suf (exx D x m T) (k+1)) (pw (mul (suf (exx D x m T) (k+1))) (zeros (suf (exx D x m T) (k+1)).length) c q):=vL (fun w hw=>xE ok hw hc) q (wO ok);have ih:=zVH hk hc q;rw[pw,vB,pw,vB];show Fm φ _ (mul _ (pw _ _ c q) c)=mul _ (pw _ _ (Fm φ _ c) q) (Fm φ _ c);rw[zNs h hE hT gL gQ hF _ (k+1) (by omega:k+1+(x.zA.length-(k+1))=x.zA.length) _ _ hq hc,ih]
theorem zXe{k j:Nat}(hk:k≤j)(hj:j<x.zA.length):V (suf (exx D x m T) (k+1)) (((exx D x m T).zT.getD j []).drop (k+1))∧Fm φ (x.zA.length-(k+1)) (((exx D x m T).zT.getD j []).drop (k+1))=((exx D2 x m2 T2).zT.getD j []).drop (k+1):=by have hn:=hE.hn;have hb:=uC x.zA.length (by omega);have hpx:V (suf x (k+1)) ((x.zT.getD j []).drop (k+1)):=jM (zKa (jG h hj) hk) (by omega);rw[zDV h hE hT hk hj,zDV h gL gQ hk hj];exact⟨zDr h hE hT (by omega) hpx (zBO h hE hT hj),by rw[zA7 (wY h (by omega) hpx),hF.t _ (by omega)]⟩
theorem zXf{k i j:Nat}(hk:k≤i)(hi:i<j)(hj:j<x.zA.length):V (suf (exx D x m T) (k+1)) ((((exx D x m T).zF.getD i []).getD (j-(i+1)) []).drop (k+1))∧Fm φ (x.zA.length-(k+1)) ((((exx D x m T).zF.getD i []).getD (j-(i+1)) []).drop (k+1))=(((exx D2 x m2 T2).zF.getD i []).getD (j-(i+1)) []).drop (k+1):=by have hn:=hE.hn;have hb:=zBK x.zA.length (by omega) i (by omega);have bJ:V (suf x (k+1)) ((lcj x i j).drop (k+1)):=jM (zKa (uD h hi hj) hk) (by omega);rw[zF6 h hE hT hk hi hj,zF6 h gL gQ hk hi hj];exact⟨zDr h hE hT (by omega) bJ (zD6 h hE hT hi hj),by rw[zA7 (wY h (by omega) bJ),hF.t _ (by omega)]⟩
theorem zUv{k j:Nat}(h1:k+1≤j)(h2:j<x.zA.length):Fm φ (x.zA.length-(k+1)) (xI ((exx D x m T).zA.length-(k+1)) (j-(k+1)))=xI ((exx D2 x m2 T2).zA.length-(k+1)) (j-(k+1)):=by rw[zP9 h hE hT h1 h2,zP9 h gL gQ h1 h2,zA7 (by simp[xI,zeros]),hF.z]
theorem zOJ{k:Nat}(hk:k<x.zA.length):LCQ (fun k a b=>Fm φ (x.zA.length-k) a=Fm φ (x.zA.length-k) b) x (exx D x m T) k↔LCn x (exx D2 x m2 T2) k:=by
 have hl:=wH h hE hT;have ok:=vW h hE hT (k:=k+1) (by omega);have cN:=zNs h hE hT gL gQ hF _ (k+1) (by omega:k+1+(x.zA.length-(k+1))=x.zA.length);have ej:=fun v hv=>zSb h hE hT gL gQ hF hk cN (v:=v) hv
 have fO:=zPA h hE hT hk;have e1:∀j,k+1≤j→j<x.zA.length→(c1Q (fun k a b=>Fm φ (x.zA.length-k) a=Fm φ (x.zA.length-k) b) (exx D x m T) k j↔c1E (exx D2 x m2 T2) k j):=fun j h1 h2=>by obtain⟨p1,p2⟩:=zXe h hE hT gL gQ hF (k:=k) (j:=j) (by omega) h2;unfold c1Q c1E;show Fm φ _ _=Fm φ _ _↔_;rw[zVH h hE hT gL gQ hF hk (zLO h hE hT hk h1 h2),zOI h hE hT gL gQ hF h1 h2,ej _ p1,p2,uZ h hE hT h2,uZ h gL gQ h2]
 have e2:∀i j,k+1≤i→i<j→j<x.zA.length→(c2Q (fun k a b=>Fm φ (x.zA.length-k) a=Fm φ (x.zA.length-k) b) (exx D x m T) k i j↔c2E (exx D2 x m2 T2) k i j):=fun i j h1 gM h2=>by obtain⟨p1,p2⟩:=zXf h hE hT gL gQ hF (k:=k) (by omega) gM h2;have ci:=zLO h hE hT hk h1 (show i<x.zA.length by omega);have cj:=zLO h hE hT hk (show k+1≤j by omega) h2;unfold c2Q c2E;show Fm φ _ _=Fm φ _ _↔_;rw[cN _ _ cj ci,cN _ _ ci (zA6 h hE hT hk p1),zOI h hE hT gL gQ hF h1 (by omega),zOI h hE hT gL gQ hF (by omega) h2,ej _ p1,p2]
 have e3:Fm φ (x.zA.length-(k+1)) (sig (suf (exx D x m T) (k+1)) (lvl (exx D x m T) k) (lvl (exx D x m T) k).w)=Fm φ (x.zA.length-(k+1)) (lvl (exx D x m T) k).w↔sig (suf (exx D2 x m2 T2) (k+1)) (lvl (exx D2 x m2 T2) k) (lvl (exx D2 x m2 T2) k).w=(lvl (exx D2 x m2 T2) k).w:=by rw[ej _ fO,zXd h hE hT gL gQ hF hk]
 have e4:∀j,k+1≤j→j<x.zA.length→(c4Q (fun k a b=>Fm φ (x.zA.length-k) a=Fm φ (x.zA.length-k) b) (exx D x m T) k j↔c4E (exx D2 x m2 T2) k j):=fun j h1 h2=>by have hg:=zCF h hE hT h1 h2;unfold c4Q c4E;show Fm φ _ _=Fm φ _ _↔_;rw[cN _ _ fO (zNr h hE hT hk _ hg),cN _ _ hg fO,zKc h hE hT gL gQ hF hk cN _ hg,zUv h hE hT gL gQ hF h1 h2,zXd h hE hT gL gQ hF hk,zBv h hE hT hk,zBv h gL gQ hk]
 constructor
 ·intro g
  exact⟨fun j h1 h2=>(e1 j h1 h2).1 (g.c1 j h1 h2),fun i h1 hi j gM h2=>(e2 i j h1 (by omega) h2).1 (g.c2 i h1 hi j gM h2),e3.1 g.c3,fun j h1 h2=>(e4 j h1 h2).1 (g.c4 j h1 h2)⟩
 ·intro g
  exact⟨fun j h1 h2=>(e1 j h1 h2).2 (g.c1 j h1 h2),fun i h1 hi j gM h2=>(e2 i j h1 (by omega) h2).2 (g.c2 i h1 hi j gM h2),e3.2 g.c3,fun j h1 h2=>(e4 j h1 h2).2 (g.c4 j h1 h2)⟩
theorem zSc{m0:zE}(hM:Mv D x.zA.length m0 m)(hx:wR (suf x 0))(hr:zDS x m2 D2):∃L,f_M ⟨x,m0,T⟩=i7 L∧L.length≤1000∧(∀r∈L,Row m.Prime D r)∧((∀r∈L,φ r=zeros D2)↔wR (suf (exx D2 x m2 T2) 0)):=by
 have hp:=hE.m.p.pos;have a9:=gL.m.p.pos;obtain⟨L,e,g⟩:=zWV h hE hT hM (Z:=fun r=>φ r=zeros D2) (Q:=fun k a b=>Fm φ (x.zA.length-k) a=Fm φ (x.zA.length-k) b) (fun k hk a b ha hb e=>by
  obtain⟨y,u,rfl,hy,hu,_,er⟩:=prV h hE hT hk ha;obtain⟨z,v,rfl,hz,hv,_,mo⟩:=prV h hE hT hk hb;rw[Js er,Js mo]at e;subst e;rw[K3 er,K3 er,zA7 er,zA7 er,List.append_cancel_left_eq];have ha:=zA3 (p:=m.Prime) (D:=D) (r:=u) (s:=v) (k:=-1) hE.m.p;have hs:adv m.Prime D (tN m.Prime D u (-1) v) v=u:=by refine Eq.trans (yC (g:=fun j=>at0 u j) fun j hj=>?_) (uA hu.1).symm;have hr:=hu.2 j hj;rw[tN,yG hj,Int.emod_add_emod,show at0 u j+ -1*at0 v j+at0 v j=at0 u j from by omega,K5 (by omega) (by omega)]
  have hφ:=hF.add _ _ ha hv;rw[hs]at hφ;have hra:=hF.row _ ha;have hrv:=hF.row _ hv;constructor
  ·intro g
   rw[hφ,g,vR hrv]
  ·intro g
   rw[hφ,tE]at g;have:=(zUl (u:=φ v) hra (xK (p:=m.Prime) (D:=D2) (by omega))).1 (by rw[g,zA4 hrv]);exact this) hx
 refine⟨L,e,g.len,g.row,g.iff.trans ?_⟩;rw[zO9 h gL gQ hr];exact⟨fun a k hk=>(zOJ h hE hT gL gQ hF hk).1 (a k hk),fun a k hk=>(zOJ h hE hT gL gQ hF hk).2 (a k hk)⟩
end
end Go.Pl

namespace Go.Pl
open Go Go.Ab Go.Wk Go.Pc
theorem zKd{D:Nat}{f:Nat→Int}:∀B:Nat,S (B*D) f=S B fun q=>S D fun l=>f (q*D+l)
 |0=>by rw[Gg];rfl
 |B+1=>by rw[K4,zGr,zKd B];rfl
def blk(D:Nat)(w:Vec)(q:Nat):Vec:=mkv D fun j=>at0 w (q*D+j)
theorem jZ{D B q l:Nat}(hq:q<B)(hl:l<D):q*D+l<B*D:=by have:=Kd D (show q+1≤B by omega);rw[K4]at this;omega
theorem zOK{p:Int}{D B:Nat}{w:Vec}(hw:Row p (B*D) w){q:Nat}(hq:q<B):Row p D (blk D w q):=
 ⟨yA _ _,fun j hj=>by rw[blk,yG hj];exact hw.2 _ (jZ hq hj)⟩
theorem sF{D q l:Nat}(hl:l<D):(q*D+l)/D=q∧(q*D+l)%D=l:=by
 have hD:0<D:=by omega
 constructor
 ·rw[Gx,Nat.mul_add_div hD,Nat.div_eq_of_lt hl];rfl
 ·rw[Gx,Nat.mul_add_mod,Nat.mod_eq_of_lt hl]
def ABk(B D:Nat)(A:Mx):Mx:=gl (B*D) fun i=>mkv (B*D) fun j=>if i/D=j/D then ent A (i%D) (j%D)else 0
theorem zOL{B D:Nat}{A:Mx}{i j:Nat}(hi:i<B*D)(hj:j<B*D):ent (ABk B D A) i j=if i/D=j/D then ent A (i%D) (j%D)else 0:=by show at0 ((gl (B*D) _).getD i []) j=_;rw[xV hi,yG hj]
theorem zUw{p:Int}{B D:Nat}{A:Mx}(hp:2≤p)(hD:0<D)(hA:Mat p D A):Mat p (B*D) (ABk B D A):=by
 refine⟨vH,fun i hi=>?_⟩;rw[ABk,xV hi];refine⟨yA _ _,fun j hj=>?_⟩;rw[yG hj];split
 ·exact(hA.2 (i%D) (Ul _ hD)).2 _ (Ul _ hD)
 ·omega
theorem zLQ{p:Int}{B D:Nat}{u:Vec}{A:Mx}{q l:Nat}(hq:q<B)(hl:l<D):at0 (wA p (B*D) u (ABk B D A)) (q*D+l)=S D (fun i=>at0 u (q*D+i)*ent A i l)%p:=by
 rw[wA,yG (jZ hq hl),zKd]
 congr 1
 rw[zAd (k:=q) hq fun i hi gf=>?_]
 ·refine xM fun i hi=>?_
  rw[zOL (jZ hq hi) (jZ hq hl),(sF hi).1,(sF hi).2,(sF hl).1,(sF hl).2,if_pos rfl]
 ·rw[xM (g:=fun _=>0) fun j hj=>?_,qF]
  rw[zOL (jZ hi hj) (jZ hq hl),(sF hj).1,(sF hl).1,if_neg gf,Lb]
theorem zUx{p:Int}{B D:Nat}{u:Vec}{A:Mx}{q:Nat}(hq:q<B):blk D (wA p (B*D) u (ABk B D A)) q=wA p D (blk D u q) A:=by
 refine yC fun l hl=>?_
 rw[zLQ hq hl]
 congr 1
 exact xM fun i hi=>by rw[blk,yG hi]
theorem zLR{D B:Nat}{w:Vec}(hw:w.length=B*D){q:Nat}(hq:q<B):(w.drop (q*D)).take D=blk D w q:=by
 have h1:=Kd D (show q+1≤B by omega);rw[K4]at h1;apply Qg
 ·rw[Ka,Jz,blk,yA];omega
 ·intro i a b
  rw[Ka,Jz]at a;rw[List.getElem_take,List.getElem_drop];simp only[blk,mkv,Jbw,List.getElem_range,at0];rw[J2,J4 (by omega)];rfl
theorem zSd{D B:Nat}{w:Vec}(hw:w.length=B*D){q:Nat}(hq:q<B):w.take (q*D)++blk D w q=w.take ((q+1)*D):=by rw[←zLR hw hq,K4,List.take_add]
def mBk(B D n:Nat)(m:zE):zE:=⟨m.Prime,((B*D:Nat):Int),(Jg n).map fun k=>ABk B D (m.zH.getD k [])⟩
theorem zKe{B D n:Nat}{m:zE}{k:Nat}(hk:k<n):(mBk B D n m).zH.getD k []=ABk B D (m.zH.getD k []):=by simp[mBk,J2,hk]
theorem zXg{B D n:Nat}{m:zE}(hm:MOk n m D)(hB:1≤B)(h2:B*D≤200):zR1 n (mBk B D n m) (B*D):=by have h1:=hm.d1;have hp:=hm.p.pos;refine⟨hm.p,Nat.mul_pos (by omega) (by omega),h2,by simp[mBk],fun i hi=>?_⟩;rw[zKe hi];exact zUw (by show 2≤m.Prime;omega) (by omega) (hm.mat i hi)
theorem zXh{B D n:Nat}{m:zE}(hm:MOk n m D)(h2:B*D≤200):Mv (B*D) n m (mBk B D n m):=by
 refine⟨rfl,fun k hk u hu=>?_⟩;have h1:=hm.d1;have h3:=hm.d3;have eT:=hu.1;have u5:=hm.len;have hA:=hm.mat k hk;rw[zKe hk];have hR:(wA m.Prime (B*D) u (ABk B D (m.zH.getD k []))).length=B*D:=by rw[wA,yA]
 unfold zUX;have:=zY (body:=zMs m u (k:Int)) (r:=wA m.Prime (B*D) u (ABk B D (m.zH.getD k []))) (fun i=>((wA m.Prime (B*D) u (ABk B D (m.zH.getD k []))).take (i*D),((i*D:Nat):Int))) B (fun i hi=>by
  have gU:=Kd D (show i+1≤B by omega);rw[K4]at gU;unfold zMs;simp only
  rw[ic (by omega),zN,hm.d,zC (by omega) (by omega),bs];have pF:yB u ((i*D:Nat):Int) (((i*D:Nat):Int)+(D:Int))=i7 (blk D u i):=by
   unfold yB;rw[if_pos ⟨by omega,by omega,by omega⟩]
   congr 1
   rw[show(((i*D:Nat):Int)+(D:Int)).toNat=i*D+D from by omega,Ja,Lz];exact zLR eT hi
  rw[pF,bs,yX [] (by omega),bs,zDR hm.p (by omega) (zOK hu hi) hA,bs,←zUx (B:=B) hi,yT (by rw[Ka,blk,yA];omega),bs,zSd hR hi,bs,K4];rfl) (by
  unfold zMs;simp only
  rw[ib (by omega),zS,Jr (by omega)])
 rw[Gg,K8]at this;rw[show((0:Nat):Int)=0 from rfl]at this;rw[this,bs];rfl
def phi(p:Int)(B D:Nat)(c w:Vec):Vec:=mkv D fun j=>S B (fun q=>at0 c q*at0 w (q*D+j))%p
theorem zUy{p:Int}{B D:Nat}{c w:Vec}(hp:2≤p):Row p D (phi p B D c w):=⟨yA _ _,fun j hj=>by rw[phi,yG hj];exact⟨Kx _ (show p≠0 by omega),by have:=Kg (S B fun q=>at0 c q*at0 w (q*D+j)) (show 0<p by omega);omega⟩⟩
def Tc(N D:Nat)(c:Vec):Mx:=gl N fun i=>blk D c i
theorem zXi{n B D N:Nat}{m:zE}{TB:Mx}{c:Vec}(hm:MOk n m D)(hN:B=N*D)(hb:base n n=N)(hc:Row m.Prime B c)(ht:∀i,i<N→TB.getD i []=mkv (B*D) fun j=>if j/D=i*D+j%D then 1 else 0):Fh n (B*D) D (mBk B D n m) m TB (Tc N D c) (phi m.Prime B D c):=by
 have hp:=hm.p.pos;have h1:=hm.d1;refine⟨rfl,fun u _=>zUy (by show 2≤m.Prime;omega),?_,fun u v hu hv=>?_,fun k hk u hu=>?_,fun r hr=>?_⟩
 ·rw[show zeros D=mkv D fun _=>0 from tU D]
  refine yC fun j hj=>?_
  rw[xM (g:=fun _=>0) fun q hq=>by rw[tW,Lb],qF];simp
 ·refine yC fun j hj=>?_
  rw[phi,phi,yG hj,yG hj];show _%m.Prime=(_%m.Prime+_%m.Prime)%m.Prime;rw[←Kc,←zC6];refine kL fun q hq=>?_
  rw[yG (jZ hq hj),←Jck];show(at0 c q*((at0 u (q*D+j)+at0 v (q*D+j))%m.Prime))%m.Prime=_;rw[Jq,Jy,←Jq]
 ·rw[zKe hk]
  refine yC fun j hj=>?_
  show S B (fun q=>at0 c q*at0 (wA m.Prime (B*D) u (ABk B D (m.zH.getD k []))) (q*D+j))%m.Prime=S D (fun l=>at0 (phi m.Prime B D c u) l*ent (m.zH.getD k []) l j)%m.Prime;rw[kL (g:=fun q=>at0 c q*S D (fun i=>at0 u (q*D+i)*ent (m.zH.getD k []) i j)) fun q hq=>by rw[zLQ hq hj,Jq,Jy,←Jq]];rw[kL (f:=fun l=>at0 (phi m.Prime B D c u) l*ent (m.zH.getD k []) l j) (g:=fun l=>S B (fun q=>at0 c q*at0 u (q*D+l))*ent (m.zH.getD k []) l j) fun l hl=>by rw[phi,yG hl,Jq,Jy,←Jq]]
  congr 1
  rw[xM (g:=fun q=>S D (fun i=>at0 c q*(at0 u (q*D+i)*ent (m.zH.getD k []) i j))) fun q _=>(zC7 _ D).symm,zH2];refine xM fun l hl=>?_
  rw[←zLr];exact xM fun q _=>(H5 _ _ _).symm
 ·rw[hb]at hr
  rw[ht r hr,Tc,xV hr];refine yC fun j hj=>?_
  have gU:r*D+j<B:=by rw[hN];exact jZ hr hj
  rw[zAd (k:=r*D+j) gU fun q hq gf=>?_]
  ·rw[yG (jZ gU hj),(sF hj).1,(sF hj).2,if_pos rfl,Lt]
   have:=hc.2 _ gU;exact K5 this.1 (by omega)
  ·rw[yG (jZ hq hj),(sF hj).1,(sF hj).2,if_neg gf,Lb]
end Go.Pl

namespace Go.Pl
open Go Go.Ab Go.Wk Go.Pc
def uT(N D:Nat):Mx:=gl N fun i=>mkv (N*D*D) fun j=>if j/D=i*D+j%D then 1 else 0
section
variable {x:SPr}{m:zE}{D:Nat} (hx:zFU x) (hD:MOk x.zA.length m D)
 include hx hD
theorem zSe{D2:Nat}{m2:zE}{T:Mx}(hm:zR1 x.zA.length m2 D2)(ht:T.length=base x.zA.length x.zA.length):ExB x.zA.length D2 x m2 T:=by have _:=hD;refine⟨hx.n6,rfl,hx.pl,hx.cl,fun i hi=>?_,ht,hm⟩;have:=(hx.tl i hi).2.1;omega
theorem zVI{y:Vec}(hy:Row m.Prime (base x.zA.length x.zA.length*D) y):ExB x.zA.length D x m (Tc (base x.zA.length x.zA.length) D y)∧ ∀i,i<(Tc (base x.zA.length x.zA.length) D y).length→Row m.Prime D ((Tc (base x.zA.length x.zA.length) D y).getD i []):=by refine⟨zSe hx hD hD.b vH,fun i hi=>?_⟩;rw[Tc,vH]at hi;rw[Tc,xV hi];exact zOK hy hi
theorem zSf(h0:0<x.zA.length)(hc:wR (suf x 0))(hr:zDS x m D):∃L,f_M ⟨x,m,uT (base x.zA.length x.zA.length) D⟩=i7 L∧L.length≤1000∧(∀r∈L,Row m.Prime (base x.zA.length x.zA.length*D*D) r)∧
  ∀y,Row m.Prime (base x.zA.length x.zA.length*D) y→((∀r∈L,phi m.Prime (base x.zA.length x.zA.length*D) D y r=zeros D)↔wR (suf (exx D x m (Tc (base x.zA.length x.zA.length) D y)) 0)):=by
 have h6:=hx.n6;have hb:=uC x.zA.length (by omega);have h1:=hD.d1;have h3:=hD.d3;have hp:=hD.p.pos;have hB:base x.zA.length x.zA.length*D≤21*3:=Jv hb.2.1 h3;have hB1:1≤base x.zA.length x.zA.length*D:=Nat.mul_pos (by omega) (by omega);have hBD:base x.zA.length x.zA.length*D*D≤63*3:=Jv (by omega) h3;have hE:=zSe hx hD (T:=uT (base x.zA.length x.zA.length) D) (zXg hD hB1 (by omega)) vH;have hT:∀i,i<(uT (base x.zA.length x.zA.length) D).length→Row (mBk (base x.zA.length x.zA.length*D) D x.zA.length m).Prime (base x.zA.length x.zA.length*D*D) ((uT (base x.zA.length x.zA.length) D).getD i []):=fun i hi=>by rw[uT,vH]at hi;rw[uT,xV hi];refine⟨yA _ _,fun j hj=>?_⟩;rw[yG hj];show _∧_≤m.Prime-1;split<;>omega
 have hM:=zXh (B:=base x.zA.length x.zA.length*D) hD (by omega);have key:∀y,Row m.Prime (base x.zA.length x.zA.length*D) y→ ∃L,f_M ⟨x,m,uT (base x.zA.length x.zA.length) D⟩=i7 L∧L.length≤1000∧(∀r∈L,Row m.Prime (base x.zA.length x.zA.length*D*D) r)∧((∀r∈L,phi m.Prime (base x.zA.length x.zA.length*D) D y r=zeros D)↔wR (suf (exx D x m (Tc (base x.zA.length x.zA.length) D y)) 0)):=fun y hy=>by obtain⟨e1,e2⟩:=zVI hx hD hy;exact zSc hx.toPres hE hT e1 e2 (zXi hD rfl rfl hy fun i hi=>by rw[uT,xV hi]) hM hc hr
 obtain⟨L,l1,l2,l3,_⟩:=key (zeros (base x.zA.length x.zA.length*D)) (xK (by omega));refine⟨L,l1,l2,l3,fun y hy=>?_⟩;obtain⟨L2,k1,_,_,k4⟩:=key y hy;rw[l1]at k1;cases k1;exact k4
end
def zDs(D k:Nat)(L:Mx):List Int:=(L.map fun r=>blk D r k).flatten
theorem zLS{D k:Nat}:∀L:Mx,(zDs D k L).length=L.length*D
 | []=>by rw[zDs];simp
 |r::L=>by have ih:=zLS (D:=D) (k:=k) L;simp only[zDs]at ih;simp only[zDs,Jo,Lg,J6,J7];rw[ih,blk,yA,K4];omega
theorem zKf{D k:Nat}:∀(L:Mx)(i j:Nat),i<L.length→j<D→at0 (zDs D k L) (i*D+j)=at0 (L.getD i []) (k*D+j)
 | [],i,j,hi,_=>by simp at hi
 |r::L,i,j,hi,hj=>by
  have hl:(blk D r k).length=D:=yA _ _;simp only[zDs,Jo,Lg];cases i with
  |zero=>
   rw[Gg,Jb,Hf,at0,J2,Ju (by omega),←J2];show at0 (blk D r k) j=_;rw[blk,yG hj]
  |succ i=>
   have ih:=zKf (D:=D) (k:=k) L i j (by simpa using hi) hj;simp only[zDs]at ih;rw[Uz,←ih,at0,J2,J9 (by rw[hl,K4];omega),hl,K4,show i*D+D+j-D=i*D+j from by omega,←J2]
theorem zSg{p:Int}{B D:Nat}{L:Mx}{y:Vec}:(∀c,c<L.length*D→(S B fun k=>at0 y k*ent (gl B fun k=>zDs D k L) k c)%p=0)↔ ∀r∈L,phi p B D y r=zeros D:=by
 have e:∀i j,i<L.length→j<D→(S B fun k=>at0 y k*ent (gl B fun k=>zDs D k L) k (i*D+j))%p=at0 (phi p B D y (L.getD i [])) j:=fun i j hi hj=>by
  rw[phi,yG hj]
  congr 1
  refine xM fun k hk=>?_
  show at0 y k*at0 ((gl B fun k=>zDs D k L).getD k []) (i*D+j)=_;rw[xV hk,zKf L i j hi hj]
 constructor
 ·intro g r hr
  obtain⟨i,hi,rfl⟩:=L6.1 hr;rw[show zeros D=mkv D fun _=>0 from tU D,uA (D:=D) (v:=phi p B D y L[i]) (yA _ _)];refine yC fun j hj=>?_
  have:=e i j hi hj;rw[J2,J4 hi]at this;rw[←g _ (jZ hi hj),this];rfl
 ·intro g c hc
  have hD:0<D:=by
   rcases Gk D with h|h
   ·rw[h,Nat.mul_zero]at hc;omega
   ·exact h
  have hi:c/D<L.length:=(Q6 hD).2 hc;have hj:c%D<D:=Ul _ hD;rw[show c=c/D*D+c%D from by rw[Gx];exact(U7 c D).symm,e _ _ hi hj,g _ (by rw[J2,J4 hi];exact K9 hi),tW]
end Go.Pl

namespace Go.Pl
open Go Go.Ab Go.Wk Go.Pc
def zAY(p:Int)(D:Nat)(m:zE):List (Nat×List Nat)→Nat→Nat→Nat→Int
 | [],_,_,_=>0
 |(q,s)::t,r,i,j=>(if q=r then ent (wM p D m.zH s (idM D)) i j else 0)+zAY p D m t r i j
section
variable {p:Int}{D N:Nat}{m:zE}{y:Vec}
theorem zSh{j:Nat}(hj:j<D):∀t:List (Nat×List Nat),(∀q∈t,q.1<N)→at0 (tv p D m (Tc N D y) t) j=(S N fun r=>S D fun i=>at0 y (r*D+i)*zAY p D m t r i j)%p
 | [],_=>by
  show at0 (zeros D) j=_;rw[tW,xM (g:=fun _=>0) fun r _=>by rw[xM (g:=fun _=>0) fun i _=>by rw[zAY,Lb],qF],qF]
  rfl
 |(q,s)::t,h=>by
  have hq:q<N:=h (q,s) (by simp);have ih:=zSh hj t fun q hq=>h q (by simp[hq])
  show at0 (adv p D (wA p D ((Tc N D y).getD q []) (wM p D m.zH s (idM D))) (tv p D m (Tc N D y) t)) j=_;rw[show adv p D=fun u v=>mkv D fun j=>(at0 u j+at0 v j)%p from rfl];show at0 (mkv D _) j=_;rw[yG hj,ih,wA,yG hj,←Kc]
  congr 1
  have e:(S N fun r=>S D fun i=>at0 y (r*D+i)*zAY p D m ((q,s)::t) r i j)=
    (S N fun r=>S D fun i=>at0 y (r*D+i)*(if q=r then ent (wM p D m.zH s (idM D)) i j else 0))+S N fun r=>S D fun i=>at0 y (r*D+i)*zAY p D m t r i j:=by
   rw[←zC6];refine xM fun r _=>?_
   rw[←zC6];refine xM fun i _=>?_
   rw[zAY,Jck]
  rw[e]
  congr 1
  rw[zAd (k:=q) hq fun r _ hr=>by rw[xM (g:=fun _=>0) fun i _=>by rw[if_neg (Ne.symm hr),Lb],qF]]
  refine xM fun l hl=>?_
  rw[if_pos rfl,Tc,xV hq,blk,yG hl]
end
def prR(p:Int)(D:Nat)(m:zE)(t1 t2:List (Nat×List Nat))(k:Nat):List Int:=mkv D fun j=>(zAY p D m t1 (k/D) (k%D) j-zAY p D m t2 (k/D) (k%D) j)%p
section
variable {p:Int}{D N:Nat}{m:zE}{y:Vec}
theorem zOM(hp:2≤p){t1 t2:List (Nat×List Nat)}(h1:∀q∈t1,q.1<N)(h2:∀q∈t2,q.1<N):
  (∀j,j<D→(S (N*D) fun k=>at0 y k*at0 (prR p D m t1 t2 k) j)%p=0)↔tv p D m (Tc N D y) t1=tv p D m (Tc N D y) t2:=by
 have e:∀j,j<D→(S (N*D) fun k=>at0 y k*at0 (prR p D m t1 t2 k) j)%p=(at0 (tv p D m (Tc N D y) t1) j-at0 (tv p D m (Tc N D y) t2) j)%p:=fun j hj=>by
  rw[zSh hj t1 h1,zSh hj t2 h2,←Qy,zKd];have e1:((S N fun r=>S D fun i=>at0 y (r*D+i)*zAY p D m t1 r i j)-S N fun r=>S D fun i=>at0 y (r*D+i)*zAY p D m t2 r i j)=S N fun r=>S D fun i=>at0 y (r*D+i)*(zAY p D m t1 r i j-zAY p D m t2 r i j):=by
   have:(S N fun r=>S D fun i=>at0 y (r*D+i)*zAY p D m t1 r i j)=(S N fun r=>S D fun i=>at0 y (r*D+i)*(zAY p D m t1 r i j-zAY p D m t2 r i j))+S N fun r=>S D fun i=>at0 y (r*D+i)*zAY p D m t2 r i j:=by
    rw[←zC6];refine xM fun r _=>?_
    rw[←zC6];refine xM fun i _=>?_
    rw[←Jck];congr 1;omega
   omega
  rw[e1];refine kL fun r _=>kL fun i hi=>?_
  have hd:=sF (q:=r) hi;rw[prR,yG hj,hd.1,hd.2,Jq,Jy,←Jq]
 constructor
 ·intro g
  have r1:=zJW (D:=D) (m:=m) (T:=Tc N D y) hp t1;have r2:=zJW (D:=D) (m:=m) (T:=Tc N D y) hp t2;rw[uA r1.1,uA r2.1];refine yC fun j hj=>?_
  have k:=e j hj;rw[g j hj]at k;have b1:=r1.2 j hj;have b2:=r2.2 j hj;have:=Jao (at0 (tv p D m (Tc N D y) t1) j-at0 (tv p D m (Tc N D y) t2) j) (Jcb p);have um:p∣at0 (tv p D m (Tc N D y) t1) j-at0 (tv p D m (Tc N D y) t2) j:=Int.dvd_of_emod_eq_zero k.symm;obtain⟨c,hc⟩:=um;have:c=0:=by
   rcases Int.lt_trichotomy c 0 with gD|h0|hgt
   ·have:p*c≤p*(-1):=Qn (by omega) (by omega)
    omega
   ·exact h0
   ·have:p*1≤p*c:=Qn (by omega) (by omega)
    omega
  rw[this,Lb]at hc;omega
 ·intro g j hj
  rw[e j hj,g,Int.sub_self];rfl
end
end Go.Pl
