/- The program's KeepsRank returns what the reference's returns,for all arguments;no conditions. -/
import Derived.Test.YtmoaeebpmcafpaaGreatPlA
open List renaming replicate→J1,getD_eq_getElem?_getD→J2,getElem?_eq_getElem→J3,length_append→J5,length_cons→J7,mem_cons→J9,getElem?_append_right→Ja,length_replicate→Jb,mem_append→Jd,append_nil→Je,append_assoc→Jf,range→Jg,length_map→Ji,replicate_append_replicate→Jk,mem_map→Jl,map_cons→Jn,take_left'→Jp,length_nil→Jq,take_of_length_le→Jt,replicate_succ→Ju,nil_append→Jv,getElem?_append_left→Jx,take_succ_eq_append_getElem→Jz,drop_left'→K0,length_drop→K3,getElem?_eq_none→K4,getElem?_map→K5,cons_append→K6,getElem_mem→K8,eq_of_mem_replicate→K9,take_zero→Ka,length_take→Kc,mem_iff_getElem→Ke,getElem?_replicate→Kf,reverse_reverse→Km,mem_range→Kn,drop_append_of_le_length→Kr,flatten_cons→Ku,ext_getElem?→Ky,map_append→L8,length_range→Le,take_succ_cons→Lf,drop_replicate→Lj,range_succ→Ll,eq_nil_of_length_eq_zero→Lp,replicate_succ'→Lw,replicate_zero→H2,getElem?_drop→Hi,foldl_cons→Gd,drop_zero→Ge,getD_cons_zero→Gu,foldl_append→Gx,map_nil→U2,getElem?_take_of_lt→U3,flatMap_append→U4,length_singleton→U6,ext_getElem→U7,drop_of_length_le→Ue,set_append_right→Uj,drop_eq_getElem_cons→Uk,reverse_cons→Ul,mem_of_mem_drop→Us,not_mem_nil→Q5,getElem?_cons_succ→Q6,map_congr_left→Qd,getElem?_replicate_of_lt→Qm,head?_cons→Qn,take_length→Ja1,cons→Ja3,map_map→Jah,flatten_append→Jao,range_succ_eq_map→Jaq,mem_of_mem_head?→Jaz,take→Jb7,mem_flatten→Jb8,length→Jba,mem_reverse→Jbx,getElem_map→Jby,getD_cons_succ→Jc9
open Int renaming toNat_natCast→J8,mul_emod→Jw,emod_eq_of_lt→Jy,emod_emod→K7,add_emod→Kh,emod_lt_of_pos→Kk,mul_zero→Kw,emod_nonneg→L4,natCast_mul→Ld,zero_add→Lh,add_mul_emod_self_left→Ls,mul_one→Lz,add_zero→H0,natCast_add→Hr,mul_assoc→Hy,mul_comm→Gt,toNat_zero→Gw,add_emod_right→Uu,zero_mul→Q8,sub_emod→Qk,sub_mul→Qs,add_mul→Qu,add_emod_emod→Jbc,one_mul→Jbj,toNat_of_nonneg→Jcx
open Nat renaming zero_add→Jc,le_refl→Jh,lt_or_ge→Jj,mul_le_mul→Jr,succ_mul→K1,mul_le_mul_right→Kb,zero_le→Kg,sub_self→Kj,add_sub_cancel_left→H1,zero_mul→Hz,eq_zero_or_pos→Gv,sub_zero→Ui,add_zero→Qh,mul_succ→Ja5,le_mul_of_pos_right→Jaw,lt_of_not_le→Jbd,lt_irrefl→Jbk
open Bool renaming not_true→Jo,not_false→Kd,false_and→Jce
open Option renaming some→Lu
open Option renaming some→iG,none→iH
open Bool renaming true→iI,false→iJ
namespace Go.Pl
open Go Go.Ab Go.Wk Go.Pc
theorem zOp{p:Int}{n:Nat}{R out:Mx}{cf:Nat→Int}(ho:∀i,i<out.length→Sp p n R (out.getD i [])){u:List Int}(hu:∀j,j<n→at0 u j%p=(S out.length fun k=>cf k*ent out k j)%p):Sp p n R u:=
 zAg ho ⟨cf,fun j hj=>(hu j hj).symm⟩
theorem Red.len_le{p:Int}{n:Nat}{R:Mx}{pv:Nat→Nat}(h:Red p n R pv):R.length≤n:=by
 have key:∀i,i<R.length→i≤pv i:=by
  intro i
  induction i with
  |zero=>intro _;omega
  |succ i ih=>
   intro hi;have h1:=ih (by omega);have h2:=h.mono i (i+1) (by omega) hi;omega
 rcases Gv R.length with g|g
 ·omega
 ·have h1:=key (R.length-1) (by omega)
  have h2:=h.lt (R.length-1) (by omega);omega
theorem zDv{xs:Mx}{v:List Int}{i:Nat}(h:i<xs.length):(xs++[v]).getD i []=xs.getD i []:=by simp only[J2,Jx h]
theorem zDw{xs:Mx}{v:List Int}:(xs++[v]).getD xs.length []=v:=by simp[J2]
section
variable {p:Int} (hp:Prime p) {n:Nat} (hn:n≤100000)
 include hp hn
theorem zOq{w:List Int}(hw:Row p n w){r:Int}(h0:0≤r)(h1:r≤p-1):zXb p r w=iG (mkv n fun j=>(at0 w j*r)%p):=by
 have h7:=hp.pos;unfold zXb;rw[hw.1,xC (by omega),bs,tT hp (zEo (by omega)) hw ⟨by omega,by omega⟩ (by omega),bs]
 congr 1
 refine zZ fun j hj=>?_
 rw[show at0 (z0 n) j=0 from by simp[z0,at0,J2,hj],Lh,Gt]
variable {rows:Mx} (hm:rows.length≤600000) (hr:∀i,i<rows.length→Row p n (rows.getD i []))
 include hm hr
theorem zFd:∃R pv,f_r p rows=iG R∧(Red p n R pv∧R.length≤rows.length)∧jS p n R rows:=by
 have h7:=hp.pos;unfold f_r;have main:=uP (body:=zR5 p rows) (s:=([],0)) (Q:=fun R=> ∃pv,(Red p n R pv∧R.length≤rows.length)∧jS p n R rows)
  (fun i s=> ∃(out:Mx)(pv:Nat→Nat),s=(out,(i:Int))∧Red p n out pv∧jS p n out (rows.take i)∧out.length≤i∧i≤rows.length) rows.length (fun i s hi hI=>?_) (fun s hI=>?_) ⟨[],fun _=>0,rfl,Red.empty,by rw[Ka];exact jS.refl,Kg _,Kg _⟩
 ·obtain⟨R,h1,pv,h2,h3⟩:=main
  rw[h1,bs];exact⟨R,pv,rfl,h2,h3⟩
 ·obtain⟨out,pv,rfl,h,hs,hl,_⟩:=hI
  have hon:out.length≤n:=h.len_le;left;have hv:=hr i hi;have hw:=zEq hp hn h hv out.length;have gC:=zEr hp hn h hv (by omega);have hpz:=zOm hp hn h hv out.length (Jh _);obtain⟨cf,fE⟩:=zPS hp hn h hv out.length (Jh _);obtain⟨k,k1,k2,k3,k4⟩:=zJM hw.1 (by omega);have ey:rows.take (i+1)=rows.take i++[rows.getD i []]:=by rw[Jz hi,J2,J3 hi];rfl
  have bM:(rows.take i).length=i:=by rw[Kc];omega
  have fK:∀u,Sp p n (rows.take i) u→Sp p n (rows.take (i+1)) u:=fun u hu=>zAg (fun a ha=>by have:=qA (p:=p) (n:=n) (R:=rows.take (i+1)) (i:=a) (by rw[ey,J5];omega);rw[ey,zDv ha,←ey]at this;exact this) hu
  have cG:Sp p n (rows.take (i+1)) (rows.getD i []):=by
   have:=qA (p:=p) (n:=n) (R:=rows.take (i+1)) (i:=i) (by rw[ey,J5,bM];simp);rw[ey]at this;have e:(rows.take i++[rows.getD i []]).getD i []=rows.getD i []:=by have:=zDw (xs:=rows.take i) (v:=rows.getD i []);rw[bM]at this;exact this
   rw[e,←ey]at this;exact this
  by_cases pT:k=n
  ·
   refine⟨(out,((i+1:Nat):Int)),?_,out,pv,rfl,h,⟨fun a ha=>fK _ (hs.1 a ha),fun a ha=>?_⟩,by omega,by omega⟩
   ·unfold zR5
    simp only
    rw[yR hi,zK,yO [] hi];simp only[bs,gC,k2];rw[hw.1,zM8 (by omega),zK,zC (by omega) (by omega),bs,cs]
   ·rw[ey,J5,bM,U6]at ha
    rw[ey];rcases Jj a i with g|g
    ·rw[zDv (by omega)];exact hs.2 a (by omega)
    ·have:a=i:=by omega
     subst this;have e:(rows.take a++[rows.getD a []]).getD a []=rows.getD a []:=by have:=zDw (xs:=rows.take a) (v:=rows.getD a []);rw[bM]at this;exact this
     rw[e];refine zOp (out:=out) (cf:=fun q=> -1*cf q) (fun a ha=>qA ha) fun j hj=>?_
     have h1:=fE j hj;rw[k3 j (by omega)]at h1;rw[xI (g:=fun q=> -1*(cf q*ent out q j)) (fun q _=>by rw[Hy]),zCU];have h2:(at0 (rows.getD a []) j+S out.length fun q=>cf q*ent out q j)%p=0:=by rw[←h1];rfl
     rw[show at0 (rows.getD a []) j=(at0 (rows.getD a []) j+S out.length fun q=>cf q*ent out q j)+ -1*(S out.length fun q=>cf q*ent out q j)from by omega,Kh,h2,Lh,K7]
  ·have hk:k<n:=by omega
   have hwk:=hw.2 k hk;have gf:=k4 hk;obtain⟨r,r1,r2,r3,r4⟩:=zTn hp (x:=at0 (cl p n out pv (rows.getD i []) out.length) k) (by omega) (by omega);have bN:=zOq hp hn hw r2 r3;have hu:Row p n (mkv n fun j=>(at0 (cl p n out pv (rows.getD i []) out.length) j*r)%p):=⟨zY _ _,fun j hj=>by have e1:=L4 (at0 (cl p n out pv (rows.getD i []) out.length) j*r) (show p≠0 by omega);have e2:=Kk (at0 (cl p n out pv (rows.getD i []) out.length) j*r) (show 0<p by omega);rw[yB hj];omega⟩
   have ua:∀j,j<n→at0 (mkv n fun j=>(at0 (cl p n out pv (rows.getD i []) out.length) j*r)%p) j=(at0 (cl p n out pv (rows.getD i []) out.length) j*r)%p:=fun j hj=>yB hj
   generalize mkv n (fun j=>(at0 (cl p n out pv (rows.getD i []) out.length) j*r)%p)=u at bN hu ua
   have u1:at0 u k=1:=by rw[ua k hk];exact r4
   have ul:∀j,j<k→at0 u j=0:=fun j hj=>by rw[ua j (by omega),k3 j hj];simp
   have up:∀a,a<out.length→at0 u (pv a)=0:=fun a ha=>by rw[ua _ (h.lt a ha),hpz a ha];simp
   obtain⟨q,⟨hq,u9⟩,eG⟩:=zDG (p:=fun q=>q≤out.length∧(q<out.length→k<pv q)) ⟨out.length,Jh _,fun g=>by omega⟩;have q1:∀a,a<q→pv a<k:=fun a ha=>by
    have h1:¬(k<pv a):=fun g=>eG a ha ⟨by omega,fun _=>g⟩
    have h2:pv a≠k:=fun e=>by have:=up a (by omega);rw[e,u1]at this;cases this
    omega
   have q2:∀a,q≤a→a<out.length→k<pv a:=fun a ha ha2=>by
    have h1:=u9 (by omega);rcases Jj q a with g|g
    ·have:=h.mono q a g ha2;omega
    ·rw[show a=q from by omega];exact h1
   have fd:=zMB hp h hu hk u1 ul up hq q1 q2 hn (by omega) (x:=(i:Int));have dQ:=zOo hp h hu hk u1 ul up hq q1 q2;obtain⟨s1,s2,s3⟩:=zRb hp h hu hk u1 ul up hq q1 q2;refine⟨(mkR (out.length+1) (sP p n out u k q),((i+1:Nat):Int)),?_,_,_,rfl,dQ,⟨fun a ha=>?_,fun a ha=>?_⟩,by rw[sM];omega,by omega⟩
   ·unfold zR5
    simp only
    rw[yR hi,zK,yO [] hi];simp only[bs,gC,k2];rw[hw.1,zM9 (by omega),zM,yN (by rw[hw.1];exact hk)];simp only[bs,r1,bN];cases eB:zI (zJj p (out,(i:Int)) (k:Int) u) ([],iJ,0)with
    |none=>rw[eB]at fd;cases fd
    |some r32=>
     rw[eB,bs]at fd;simp only[bs];obtain⟨a1,a2⟩:=r32;cases a2 with
     |true=>
      simp only[Jo,zM]at fd ⊢
      rw[zC (by omega) (by omega),bs,cs,Lu.inj fd]
     |false=>
      simp only[Kd,zK]at fd ⊢
      cases hap:xT a1 [u]with
      |none=>rw[hap]at fd;cases fd
      |some v33=>
       rw[hap,bs]at fd;simp only[bs];rw[zC (by omega) (by omega),bs,cs,Lu.inj fd]
   ·rw[sM]at ha
    rw[kT ha];refine zAg (fun b hb=>?_) (s1 a ha);rw[J5,U6]at hb;rcases Jj b out.length with g|g
    ·rw[zDv g];exact fK _ (hs.1 b g)
    ·rw[show b=out.length from by omega,zDw]
     have dv:Sp p n (rows.take (i+1)) (cl p n out pv (rows.getD i []) out.length):=by
      have mi:Sp p n (rows.take (i+1)) (mkv n fun j=>S out.length fun k=>cf k*ent out k j):=zOp (out:=out) (cf:=cf) (fun b hb=>fK _ (hs.1 b hb)) fun j hj=>by rw[yB hj]
      refine zAH (k:=1) cG mi fun j hj=>?_
      rw[fE j hj,yB hj,Jbj]
     refine zAH (k:=r) (zEZ (u:=[]) fun j _=>by simp[at0]) dv fun j hj=>?_
     rw[ua j hj,K7,show at0 ([]:List Int) j=0 from by simp[at0],Lh,Gt]
   ·rw[ey,J5,bM,U6]at ha
    rw[ey];rcases Jj a i with g|g
    ·rw[zDv (by omega)]
     exact zAg s2 (hs.2 a (by omega))
    ·have hai:a=i:=by omega
     subst hai;have e:(rows.take a++[rows.getD a []]).getD a []=rows.getD a []:=by have:=zDw (xs:=rows.take a) (v:=rows.getD a []);rw[bM]at this;exact this
     rw[e];have dv:Sp p n (mkR (out.length+1) (sP p n out u k q)) (cl p n out pv (rows.getD a []) out.length):=by
      refine zAH (k:=at0 (cl p n out pv (rows.getD a []) out.length) k) (zEZ (u:=[]) fun j _=>by simp[at0]) s3 fun j hj=>?_
      rw[ua j hj,show at0 ([]:List Int) j=0 from by simp[at0],Lh];rw[Jw,K7,←Jw,←Hy,Gt (at0 (cl p n out pv (rows.getD a []) out.length) k),Hy,Jw,r4,Lz,K7]
     have mi:Sp p n (mkR (out.length+1) (sP p n out u k q)) (mkv n fun j=>S out.length fun k=>cf k*ent out k j):=zOp (out:=out) (cf:=cf) s2 fun j hj=>by rw[yB hj]
     refine zAH (k:=-1) dv mi fun j hj=>?_
     rw[yB hj,Kh,fE j hj,←Kh]
     congr 1;omega
 ·obtain⟨out,pv,rfl,h,hs,hl,_⟩:=hI
  refine⟨out,?_,pv,⟨h,hl⟩,by rw[Ja1]at hs;exact hs⟩;unfold zR5;simp only
  rw[vE,zM]
theorem zMC:∃R pv,f_r p rows=iG R∧Red p n R pv∧jS p n R rows:=by obtain⟨R,pv,h1,h2,h3⟩:=zFd hp hn hm hr;exact⟨R,pv,h1,h2.1,h3⟩
theorem zIm{R:Mx}{pv:Nat→Nat}(h:Red p n R pv)(hs:jS p n R rows):R.length≤rows.length:=by have h7:=hp.pos;obtain⟨R',pv',_,h2,h3⟩:=zFd hp hn hm hr;rw[h.unique (by omega) h2.1 (hs.trans h3.symm)];exact h2.2
theorem qB:∃R pv,f_r p rows=iG R∧f_i p rows=iG R∧Red p n R pv∧jS p n R rows:=by have h7:=hp.pos;obtain⟨R,pv,h1,h2,h3⟩:=zMC hp hn hm hr;obtain⟨R',pv',g1,g2,g3⟩:=zMA hp hn hm hr;have e:=h2.unique (by omega) g2 (h3.trans g3.symm);exact⟨R,pv,h1,by rw[e];exact g1,h2,h3⟩
end
end Go.Pl

namespace Go.Pl
open Go Go.Ab Go.Wk Go.Pc
theorem vB{β:Type}{body:List β×Int→Option ((List β×Int)⊕List β)}(n:Nat)(F:Nat→β)(h:∀i acc,i<n→acc.length=i→body (acc,(i:Int))=iG (.inl (acc++[F i],((i+1:Nat):Int))))(he:∀acc,body (acc,(n:Int))=iG (.inr acc)):
  zI body ([],0)=iG ((Jg n).map F):=by
 have:=zX (body:=body) (r:=(Jg n).map F) (fun i=>((Jg i).map F,(i:Int))) n (by grind[Ll]) (he _);exact this
theorem zJO{xs:Mx}(hx:xs.length≤100000)(hf:xs.flatten.length≤1000000):zVw xs=iG xs.flatten:=by
 unfold zVw;have:=zX (body:=zN3 xs) (r:=xs.flatten) (fun i=>((xs.take i).flatten,(i:Int))) xs.length (fun i hi=>by
  have h1:=zGb hi;have h2:=zKC (xs:=xs) (i+1);have h3:=congrArg Jba h1;rw[J5]at h3;unfold zN3;simp only
  rw[yR hi,zK,yO [] hi,bs,yI (by omega),bs,zC (by omega) (by omega),bs,cs,h1]) (by
  unfold zN3;simp)
 grind
theorem zKG{p:Int}{L:Nat}{v:List Int}:Row p L v↔v.length=L∧ ∀a∈v,0≤a∧a≤p-1:=by
 constructor
 ·rintro⟨h1,h2⟩
  refine⟨h1,fun a ha=>?_⟩;obtain⟨i,hi,rfl⟩:=Ke.1 ha
  grind
 ·rintro⟨h1,h2⟩
  refine⟨h1,fun i hi=>?_⟩
  simp_all
theorem zFe{D:Nat}:∀{xs:Mx},(∀r∈xs,r.length=D)→xs.flatten.length=xs.length*D
 | [],_=>by simp
 |x::xs,h=>by
  have:=zFe (xs:=xs) fun r hr=>h r (by simp[hr])
  grind
theorem zTo{p:Int}{D:Nat}{xs:Mx}(h:∀r∈xs,Row p D r):Row p (xs.length*D) xs.flatten:=by grind[zKG,zFe,Jb8]
def qN(D k:Nat):List Int:=mkv D fun j=>if j=k then 1 else 0
theorem zRc{p:Int}{D k:Nat}(hp:2≤p):Row p D (qN D k):=⟨zY _ _,by grind[qN,yB]⟩
theorem zCt{D k:Nat}(hk:k<D)(hD:D≤1000000):zLm (D:Int) (k:Int)=iG (qN D k):=by grind[zLm,xC,yN,uA,qH,qN]
end Go.Pl

namespace Go.Pl
open Go Go.Ab Go.Wk Go.Pc
abbrev gl{β:Type}(m:Nat)(F:Nat→β):List β:=(Jg m).map F
theorem wN{β:Type}{m:Nat}{F:Nat→β}:(gl m F).length=m:=by simp[gl]
theorem zAh{β:Type}{m:Nat}{F:Nat→β}{i:Nat}(h:i<m):ixO (gl m F) (i:Int)=iG (F i):=by rw[zAU (by grind)];simp[gl]
theorem tM{β:Type}{m:Nat}{F G:Nat→β}(h:∀i,i<m→F i=G i):gl m F=gl m G:=by grind[Qd]
theorem zCW{β:Type}{m:Nat}{F:Nat→β}{i:Nat}{a:β}:(gl m F).set i a=gl m (fun k=>if k=i then a else F k):=by
 apply Ky
 grind
theorem zAW{β:Type}{m:Nat}{F:Nat→β}:gl m F++[F m]=gl (m+1) F:=by simp[gl,Ll]
def base(n i:Nat):Nat:=n+i*n-i*(i+1)/2
theorem zRd:∀n,n<7→ ∀i,i<n→base n (i+1)=base n i+(n-1-i):=by decide
theorem zAX:∀n,n<7→ ∀i,i<n→base n i+(n-1-i)≤base n n:=by decide
theorem wT:∀n,n<7→n≤base n n∧base n n≤21∧base n 0=n:=by decide
theorem zOr:∀n:Nat,n<7→ ∀j:Nat,j<n→ ∀i:Nat,i<j→zZP (n:Int) (i:Int) (j:Int)=iG ((base n i+(j-i-1):Nat):Int):=by decide+kernel
def exP(n D:Nat)(x:SPr)(T:Mx)(i:Nat):List Int:=if i<n then x.zS.getD i []++T.getD i []else J1 (n+D) 0
def exF(n:Nat)(x:SPr)(m:zB)(T:Mx)(i j:Nat):List Int:=if j<n-1-i then(x.zG.getD i []).getD j []++T.getD (base n i+j) []else J1 n 0++(m.zF.getD i []).getD (j-(n-1-i)) []
def unC(N i:Nat):Mx:=gl (N-1-i) fun j=>qN N (i+1+j)
def exC(n D:Nat)(x:SPr)(m:zB)(T:Mx)(i:Nat):Mx:=if i<n then gl (n+D-1-i) (exF n x m T i)else unC (n+D) i
def ext(n D:Nat)(x:SPr)(m:zB)(T:Mx):SPr:=⟨x.zA++J1 D m.Prime,gl (n+D) (exP n D x T),gl (n+D) (exC n D x m T)⟩
structure zKH (n D:Nat) (x:SPr) (m:zB) (T:Mx):Prop where
 hn:n≤6
 o:x.zA.length=n
 p:x.zS.length=n
 c:x.zG.length=n
 cl:∀i,i<n→(x.zG.getD i []).length=n-1-i
 pl:∀i,(x.zS.getD i []).length≤6
 ce:∀i j,((x.zG.getD i []).getD j []).length≤6
 t:T.length=base n n
 tl:∀i,(T.getD i []).length≤30
 m:zZf n m D
end Go.Pl

namespace Go.Pl
open Go Go.Ab Go.Wk Go.Pc
theorem zPT{a b:List Int}(ha:a.length≤1000)(hb:b.length≤1000):f_q [a,b]=iG (a++b):=by grind[sZ]
theorem zJP{v:Int}{k:Nat}(hk:k≤1000):∀d c:Nat,c≤k→(c=0→k=0)→k-c≤d→zI jU (J1 c v++J1 (k-c) 0,(c:Int))=iG (J1 k v):=by
 intro d
 induction d with
 |zero=>
  intro c h1 _ h3;obtain rfl:c=k:=by omega
  rw[xK];unfold jU;simp
 |succ d ih=>
  intro c h1 h2 h3
  by_cases hc:c=k
  ·grind
  ·have hl:(J1 c v++J1 (k-c) (0:Int)).length=k:=by simp;omega
   have s1:yD (J1 c v++J1 (k-c) (0:Int)) (c:Int) (k:Int)=iG (((J1 c v++J1 (k-c) (0:Int)).drop c).take (k-c)):=by
    unfold yD
    simp_all
   have s2:yD (J1 c v++J1 (k-c) (0:Int)) 0 (c:Int)=iG (J1 c v):=by
    unfold yD
    simp_all
   have e1:(J1 c v).take (k-c)=J1 (min (k-c) c) v:=by simp
   have e2:wD (J1 c v++J1 (k-c) (0:Int)) c (J1 (min (k-c) c) v)=J1 (c+min c (k-c)) v++J1 (k-(c+min c (k-c))) 0:=by
    unfold wD;rw[Jp (by simp),Jb,Nat.min_comm (k-c) c,Jk,List.drop_append,Jb,Ue (by rw[Jb];omega),Jv,Lj]
    congr 2;omega
   have hb:jU (J1 c v++J1 (k-c) 0,(c:Int))=iG (.inl (J1 (c+min c (k-c)) v++J1 (k-(c+min c (k-c))) 0,((c+min c (k-c):Nat):Int))):=by
    unfold jU;simp only
    rw[hl,yR (by omega),zK,s1,bs,s2,bs,Jb];simp only[J8];rw[e1,e2,←Hr,zC (by omega) (by omega),bs]
   rw[xK,hb];exact ih (c+min c (k-c)) (by omega) (by omega) (by omega)
theorem zOs{v:Int}{k:Nat}(hk:k≤30):f_j [v] (k:Int)=iG (J1 k v):=by
 have key:∀k:Nat,k<31→zUQ 1 (IntKind.wrap .u64 (k:Int))=iG (0,(k:Int))∧xG (IntKind.wrap .i64 (k:Int))=iG k:=by decide+kernel
 obtain⟨k1,k2⟩:=key k (by omega);unfold f_j;rw[iL (by omega),zM,zM2 k1,bs];simp only[k2,bs];rw[show decide ((0:Int)> 0)=iJ from rfl,zM,iL (by omega),zM]
 by_cases h0:k=0
 ·subst h0
  have:=zJP (v:=v) (k:=0) (by omega) 0 0 (by omega) (by omega) (by omega);rw[show wD (J1 0 (0:Int)) 0 (([v]:List Int).take ((J1 0 (0:Int)).length-0))=J1 0 v++J1 (0-0) 0 from rfl,show((min ([v]:List Int).length ((J1 0 (0:Int)).length-0):Nat):Int)=((0:Nat):Int)from rfl,this,bs]
 ·have:=zJP (v:=v) (k:=k) (by omega) k 1 (by omega) (by omega) (by omega)
  have e1:wD (J1 k (0:Int)) 0 (([v]:List Int).take ((J1 k (0:Int)).length-0))=J1 1 v++J1 (k-1) 0:=by
   unfold wD
   grind
  grind
theorem zRe{O:List Int}{N:Nat}(hO:O.length=N)(hN:N≤100):f_M O=iG ⟨O,gl N (fun _=>J1 N 0),gl N (unC N)⟩:=by
 have gQ:∀i,i<N→zI (zR7 O) ([],((i+1:Nat):Int))=iG (unC N i):=fun i hi=>by
  have:=zX (body:=zR7 O) (r:=unC N i) (fun j=>(gl j fun j=>qN N (i+1+j),((i+1+j:Nat):Int))) (N-1-i) (fun j hj=>by
   unfold zR7;simp only
   rw[hO,yR (by omega),zK,zCt (by omega) (by omega),bs,yI (by grind),bs,zC (by omega) (by omega),bs,cs,zAW (F:=fun j=>qN N (i+1+j))];rfl) (by
   unfold zR7;simp only
   rw[hO,show i+1+(N-1-i)=N from by omega,vE,zM,unC])
  exact this
 have:=zX (body:=zR8 O) (r:=(gl N (fun _=>J1 N 0),gl N (unC N))) (fun i=>(gl i (fun _=>J1 N (0:Int)),gl i (unC N),((i:Nat):Int))) N (fun i hi=>by
  unfold zR8;simp only
  rw[hO,yR hi,zK,xC (by omega),bs,yI (by grind),bs,zC (by omega) (by omega),bs,cs,gQ i hi,bs,yI (by rw[wN];simp;omega),bs,bs,zAW (F:=unC N),zAW (F:=fun _=>J1 N (0:Int))]) (by
  unfold zR8
  grind)
 unfold f_M;rw[kL (by omega),bs]
 grind
section
variable {n D:Nat}{x:SPr}{m:zB}{T:Mx} (h:zKH n D x m T)
 include h
def exG(n N:Nat)(x:SPr)(m:zB)(T:Mx)(i t q:Nat):List Int:=if q<t then exF n x m T i q else qN N (i+1+q)
def exE(n D:Nat)(x:SPr)(m:zB)(T:Mx)(i t k:Nat):Mx:=if k<i then exC n D x m T k else if k=i then gl (n+D-1-i) (exG n (n+D) x m T i t)else unC (n+D) k
theorem zOt{i t:Nat}:exE n D x m T i t i=gl (n+D-1-i) (exG n (n+D) x m T i t):=by have _:=h;rw[exE,if_neg (by omega),if_pos rfl]
theorem zPU{i t:Nat}:(gl (n+D) (exE n D x m T i t)).set i ((gl (n+D-1-i) (exG n (n+D) x m T i t)).set t (exF n x m T i t))=gl (n+D) (exE n D x m T i (t+1)):=by
 have _:=h;rw[zCW,zCW];refine tM fun k _=>?_
 by_cases hk:k=i
 ·subst hk
  rw[if_pos rfl,zOt h];refine tM fun q _=>?_
  simp only[exG]
  grind
 ·rw[if_neg hk,exE,exE,if_neg hk,if_neg hk]
theorem zIn{i k:Nat}:exE n D x m T i 0 k=if k<i then exC n D x m T k else unC (n+D) k:=by
 have _:=h;rw[exE]
 by_cases h1:k<i
 ·grind
 ·rw[if_neg h1,if_neg h1]
  by_cases h2:k=i
  ·subst h2
   rw[if_pos rfl];rfl
  grind
theorem zTp{i:Nat}(hi:i<n):gl (n+D) (exE n D x m T i (n+D-1-i))=gl (n+D) (exE n D x m T (i+1) 0):=by
 refine tM fun k _=>?_
 rw[zIn h,exE]
 by_cases h1:k<i
 ·grind
 ·rw[if_neg h1]
  by_cases h2:k=i
  ·subst h2
   rw[if_pos rfl,if_pos (by omega),exC,if_pos hi];exact tM fun q hq=>by rw[exG,if_pos hq]
  grind
theorem yBz{i:Nat}(hi:i<n){C:List Mx}{w:Int}:zI (zOU T (C,w,(i:Int)) (x.zG.getD i [])) (gl (n+D) (exE n D x m T i 0),((base n i:Nat):Int),0)=iG (gl (n+D) (exE n D x m T i (n-1-i)),((base n (i+1):Nat):Int)):=by
 have h6:=h.hn;have h3:=h.m.d3;have hc:=h.cl i hi;have hb:=zAX n (by omega) i hi;have cS:=wT n (by omega);have:=zX (body:=zOU T (C,w,(i:Int)) (x.zG.getD i [])) (r:=(gl (n+D) (exE n D x m T i (n-1-i)),((base n (i+1):Nat):Int))) (fun j=>(gl (n+D) (exE n D x m T i j),((base n i+j:Nat):Int),((j:Nat):Int))) (n-1-i) (fun j hj=>by
  have a1:=h.ce i j;have a2:=h.tl (base n i+j);have e:exF n x m T i j=(x.zG.getD i []).getD j []++T.getD (base n i+j) []:=if_pos hj;unfold zOU;simp only
  rw[hc,yR hj,zK,yO [] (by omega),bs,zAh (by omega),bs,yO [] (by rw[h.t];omega),bs,zPT (by omega) (by omega),bs,zOt h,zAh (by omega),bs,zC (by omega) (by omega),bs,zC (by omega) (by omega),bs,cs,cs,←e,J8,J8,zPU h];rfl) (by
  unfold zOU;simp only
  rw[hc,vE,zM,zRd n (by omega) i hi])
 exact this
theorem yB0{i:Nat}(hi:i<n){C:List Mx}{w:Int}:zI (zOV x (C,w,(i:Int)) (m.zF.getD i [])) (gl (n+D) (exE n D x m T i (n-1-i)),0)=iG (gl (n+D) (exE n D x m T (i+1) 0)):=by
 have h6:=h.hn;have h3:=h.m.d3;have uy:=h.m.mat i hi;have:=zX (body:=zOV x (C,w,(i:Int)) (m.zF.getD i [])) (r:=gl (n+D) (exE n D x m T (i+1) 0)) (fun j=>(gl (n+D) (exE n D x m T i (n-1-i+j)),((j:Nat):Int))) D (fun j hj=>by
  have e:exF n x m T i (n-1-i+j)=J1 n 0++(m.zF.getD i []).getD j []:=by rw[exF,if_neg (by omega),show n-1-i+j-(n-1-i)=j from by omega]
  have hr:=(uy.2 j hj).1;unfold zOV;simp only
  rw[uy.1,yR hj,zK,yO [] (by grind),bs,zAh (by omega),bs,h.o,zC (by omega) (by omega),bs,zC (by omega) (by omega),bs,zC (by omega) (by omega),bs,show(0:Int)=((0:Nat):Int)from rfl,zM4 (by omega) (by omega) (by omega),bs,
   show(n:Int)-1-(i:Int)+(j:Int)=((n-1-i+j:Nat):Int)from by omega,zOt h,zAh (by omega),bs,zC (by omega) (by omega),bs,cs,H2,Je,←e,J8,J8,zPU h];rfl) (by
  unfold zOV;simp only
  rw[uy.1,vE,zM,show n-1-i+D=n+D-1-i from by omega,zTp h hi])
 exact this
theorem yB1:zI (zOW x m T) (gl (n+D) (unC (n+D)),((n:Nat):Int),0)=iG (gl (n+D) (exC n D x m T)):=by
 have h6:=h.hn;have h3:=h.m.d3;have cS:=wT n (by omega);have:=zX (body:=zOW x m T) (r:=gl (n+D) (exC n D x m T)) (fun i=>(gl (n+D) (exE n D x m T i 0),((base n i:Nat):Int),((i:Nat):Int))) n (fun i hi=>by
  unfold zOW;simp only
  rw[h.o,yR hi,zK,yO [] (by rw[h.c];exact hi),bs,yBz h hi,bs,yO [] (by rw[h.m.len];exact hi),bs,yB0 h hi,bs,zC (by omega) (by omega),bs,cs]) (by
  unfold zOW;simp only
  rw[h.o,vE,zM]
  congr 2
  refine tM fun k _=>?_
  rw[zIn h,exC]
  grind)
 have e:gl (n+D) (exE n D x m T 0 0)=gl (n+D) (unC (n+D)):=tM fun k _=>by rw[zIn h,if_neg (by omega)]
 grind
theorem yB2:zI (zOT x T) (gl (n+D) (fun _=>J1 (n+D) 0),0,0)=iG (gl (n+D) (exP n D x T),((n:Nat):Int)):=by
 have h6:=h.hn;have h3:=h.m.d3;have cS:=wT n (by omega);have:=zX (body:=zOT x T) (r:=(gl (n+D) (exP n D x T),((n:Nat):Int))) (fun i=>(gl (n+D) (fun k=>if k<i then exP n D x T k else J1 (n+D) 0),((i:Nat):Int),((i:Nat):Int))) n (fun i hi=>by
  have a1:=h.pl i;have a2:=h.tl i;have e:exP n D x T i=x.zS.getD i []++T.getD i []:=if_pos hi;unfold zOT;simp only
  rw[h.p,yR hi,zK,yO [] (by rw[h.p];exact hi),bs,yO [] (by rw[h.t];omega),bs,zPT (by omega) (by omega),bs,zAh (by omega),bs,zC (by omega) (by omega),bs,bs,cs,←e,J8,zCW]
  grind) (by
  unfold zOT;simp only
  rw[h.p,vE,zM]
  congr 3
  refine tM fun k _=>?_
  by_cases hk:k<n
  ·grind
  ·rw[if_neg hk,exP,if_neg hk])
 grind
theorem zWv{v:Int}:f_j [v] m.Dim=iG (J1 D v):=by rw[h.m.d];exact zOs (by have:=h.m.d3;omega)
theorem zTq:f_n x m T=iG (ext n D x m T):=by
 have h6:=h.hn;have h3:=h.m.d3;unfold f_n;rw[kL (by rw[h.o];omega),bs,zWv h,bs,yI (by rw[h.o];simp;omega),bs,zRe (N:=n+D) (by rw[J5,h.o];simp) (by omega),bs];simp only
 rw[yB2 h,bs,yB1 h,bs];rfl
end
end Go.Pl

namespace Go.Pl
open Go Go.Ab Go.Wk Go.Pc
theorem zOu{xs:Mx}{b:Nat}(h:∀i,i<xs.length→(xs.getD i []).length≤b)(i:Nat):(xs.getD i []).length≤b:=by grind
theorem zEs{x:SPr}{n:Nat}(ho:x.zA.length=n)(hn:n≤6):zVm x=iG ((base n n:Nat):Int):=by
 unfold zVm;rw[ho];have key:∀n:Nat,n<7→((rng ((n:Int)-1)).bind fun v1=>(rng ((n:Int)*v1)).bind fun v2=>(sH v2 2).bind fun v3=>(rng ((n:Int)+v3)).bind fun v4=>iG v4)=iG ((base n n:Nat):Int):=by decide+kernel
 grind
theorem zIo{x:SPr}{n:Nat}(ho:x.zA.length=n)(hn:n≤6):zVn x=iG ((base n n:Nat):Int):=by
 unfold zVn;rw[ho];have key:∀n:Nat,n<7→((rng ((n:Int)+1)).bind fun v1=>(rng ((n:Int)*v1)).bind fun v2=>(sH v2 2).bind fun v3=>iG v3)=iG ((base n n:Nat):Int):=by decide+kernel
 grind
theorem zKH.ofX{x:SPr}{m:zB}{D:Nat}{T:Mx}(hx:zAb x)(hm:zZf x.zA.length m D)(ht:T.length=base x.zA.length x.zA.length)(fL:∀i,(T.getD i []).length≤30):zKH x.zA.length D x m T:=by
 have h6:=hx.n6;refine⟨h6,rfl,hx.pl,hx.cl,fun i hi=>by have:=(hx.tl i hi).2.1;omega,zOu fun i hi=>?_,fun i=>?_,ht,fL,hm⟩
 ·have:=(hx.tl i (by rw[←hx.pl];exact hi)).1.1.1
  omega
 ·rcases Jj i x.zA.length with g|g
  ·refine zOu fun j hj=>?_
   have:=((hx.tl i g).2.2 j hj).1.1;omega
  ·have e:x.zG.getD i []=[]:=by rw[J2,K4 (by rw[hx.cl];exact g)];rfl
   grind
theorem zKH.of{x:SPr}{m:zB}{D:Nat}{T:Mx}(hx:zAb x)(hm:MOk x.zA.length m D)(ht:T.length=base x.zA.length x.zA.length)(fL:∀i,(T.getD i []).length≤3):zKH x.zA.length D x m T:=.ofX hx hm.x ht (by grind)
end Go.Pl

namespace Go.Pl
open Go Go.Ab Go.Wk Go.Pc
end Go.Pl

namespace Go.Pl
open Go Go.Ab Go.Wk Go.Pc
end Go.Pl

namespace Go.Pl
open Go Go.Ab Go.Wk Go.Pc
end Go.Pl

namespace Go.Pl
open Go Go.Ab Go.Wk Go.Pc
theorem zOv{v:List Int}{k:Nat}(hl:v.length≤1000000)(hk:k<v.length)(h0:∀j,j<k→at0 v j=0)(h1:at0 v k≠0):zXk v=iG (k:Int):=by
 unfold zXk;have:=zX (body:=zJX v) (r:=.inr (k:Int)) (fun i=>(i:Int)) k (fun i hi=>by
  unfold zJX zXj;rw[yR (by omega),zK,yN (by omega),bs,bs,h0 i hi,bne_self_eq_false,zM,zC (by omega) (by omega),bs,cs]) (by
  unfold zJX zXj;rw[yR hk,zK,yN hk,bs,bs,jP h1,zK])
 have e:zI (zJX v) 0=iG (.inr (k:Int)):=this;rw[e,bs]
section
variable {p:Int} (hp:Prime p) {n:Nat} (hn:n≤100000) {R:Mx}{pv:Nat→Nat} (h:Red p n R pv) {v:List Int} (hv:Row p n v)
 include hp hn h
theorem zG8(hm:R.length≤100000):zVv R=iG (gl R.length fun i=>(pv i:Int)):=by
 have h7:=hp.pos;unfold zVv;rw[vB (body:=zN2 R) R.length (fun i=>(pv i:Int)) (fun i acc hi ha=>by
  have hr:=h.row i hi;have h1:=h.one i hi;unfold zN2;simp only
  rw[yR hi,zK,yO [] hi,bs,zOv (k:=pv i) (by rw[hr.1];omega) (by rw[hr.1];exact h.lt i hi) (fun j hj=>h.low i hi j hj) (by simp only[ent]at h1;omega),bs,yI (by simp;omega),bs,zC (by omega) (by omega),bs,cs]) (fun acc=>by
  unfold zN2;simp only
  rw[vE,zM]),bs]
 include hv
theorem zZj{i:Nat}(hi:i<R.length):vW p n (cl p n R pv v i) (0-at0 (cl p n R pv v i) (pv i)) (R.getD i [])=cl p n R pv v (i+1):=by
 have _:=hp;have _:=hn;have _:=h;have _:=hv;have _:=hi;rw[cl];refine zZ fun j _=>?_
 generalize at0 (cl p n R pv v i) (pv i)=a
 generalize at0 (R.getD i []) j=b
 rw[Qs,Qs,Q8];have e:at0 (cl p n R pv v i) j+(p*b-a*b)=at0 (cl p n R pv v i) j+(0-a*b)+p*b:=by omega
 rw[e,Ls]
theorem zIp{c:Int}(hm:R.length≤100000):zXl (zQ.mk p c R) v=iG (cl p n R pv v R.length):=by
 have h7:=hp.pos;have:=zX (body:=zJY (zQ.mk p c R) (gl R.length fun i=>(pv i:Int))) (r:=cl p n R pv v R.length) (fun i=>(cl p n R pv v i,(i:Int))) R.length (fun i hi=>by
  have hr:=zEq hp hn h hv i;have ha:=hr.2 (pv i) (h.lt i hi);unfold zJY;simp only
  rw[wN,yR hi,zK,zAh hi,bs,yO [] hi,bs,yN (by rw[hr.1];exact h.lt i hi),bs,zC (by omega) (by omega),bs,zB8 hp hr (h.row i hi) (by omega) (by omega),bs,zC (by omega) (by omega),bs,cs,zZj hp hn h hv hi]) (by
  unfold zJY;simp only
  rw[wN,vE,zM])
 unfold zXl;rw[kL (by rw[hv.1];omega),bs];simp only
 rw[zG8 hp hn h hm,bs];have e:zI (zJY (zQ.mk p c R) (gl R.length fun i=>(pv i:Int))) (v,0)=iG (cl p n R pv v R.length):=this;rw[e,bs]
end
end Go.Pl

namespace Go.Pl
open Go Go.Ab Go.Wk Go.Pc
section
variable {p:Int} (hp:1<p) {n:Nat}{R R':Mx}{pv pv':Nat→Nat} (h:Red p n R pv) (h':Red p n R' pv') (hs:∀i,i<R.length→Sp p n R' (R.getD i []))
 include hp h h' hs
theorem Red.lt_of{i i2 k k2:Nat}(hii:i<i2)(eZ:i2<R.length)(hk:k<R'.length)(e:pv' k=pv i)(e2:pv' k2=pv i2):k<k2:=by
 have _:=hp;have _:=hs;have h1:=h.mono i i2 hii eZ;refine Classical.byContradiction fun hn=>?_
 rcases Jj k2 k with g|g
 ·have:=h'.mono k2 k g hk;omega
 ·have:k=k2:=by omega
  subst this;omega
theorem Red.low_in:∀i,i<R.length→ ∃k,k<R'.length∧pv' k=pv i∧i≤k:=by
 intro i
 induction i with
 |zero=>intro hi;obtain⟨k,hk,e⟩:=h.piv_in hp h' hs hi;exact⟨k,hk,e,by omega⟩
 |succ i ih=>
  intro hi;obtain⟨k,hk,e,bp⟩:=ih (by omega);obtain⟨k2,fw,e2⟩:=h.piv_in hp h' hs hi;have:=h.lt_of hp h' hs (show i<i+1 by omega) hi hk e e2;exact⟨k2,fw,e2,by omega⟩
theorem Red.le_of:R.length≤R'.length:=by
 rcases Gv R.length with g|g
 ·omega
 ·obtain⟨k,hk,_,bp⟩:=h.low_in hp h' hs (R.length-1) (by omega)
  omega
end
end Go.Pl

namespace Go.Pl
open Go Go.Ab Go.Wk Go.Pc
end Go.Pl

namespace Go.Pl
open Go Go.Ab Go.Wk Go.Pc
theorem zFf{u v:List Int}{j:Nat}:at0 (u++v) j=if j<u.length then at0 u j else at0 v (j-u.length):=by grind
theorem zCX{v:List Int}{c j:Nat}:at0 (v.drop c) j=at0 v (c+j):=by simp
theorem zMD{v:List Int}{c j:Nat}(h:j<c):at0 (v.take c) j=at0 v j:=by grind
theorem zGV{f:Nat→Int}(t:Nat):∀d:Nat,S (t+d) f=S t f+S d (fun i=>f (t+i))
 |0=>by simp[S]
 |d+1=>by rw[←Nat.add_assoc];simp only[S];rw[zGV t d];omega
theorem zZk{f:Nat→Int}{t n:Nat}(ht:t≤n)(h:∀i,i<t→f i=0):S n f=S (n-t) (fun i=>f (t+i)):=by
 have e:n=t+(n-t):=by omega
 conv=>lhs;rw[e,zGV,xI (g:=fun _=>0) h,sY]
 omega
theorem xN{F:Nat→List Int}{m i:Nat}(h:i<m):(gl m F).getD i []=F i:=by grind
def ur(N i:Nat):List Int:=mkv N fun j=>if j=i then 1 else 0
def wd(N:Nat)(A:Mx):Mx:=gl N fun i=>A.getD i []++ur N i
def Gr(p:Int)(c N:Nat)(A:Mx)(u:List Int):Prop:=∀j,j<c→at0 u j%p=(S N fun k=>at0 u (c+k)*ent A k j)%p
section
variable {p:Int} (hp:1<p) {c N:Nat}{A:Mx} (hA:∀i,i<N→Row p c (A.getD i []))
 include hA
theorem zCY:(wd N A).length=N:=by have _:=hA;exact wN
theorem zKI{i j:Nat}(hi:i<N)(hj:j<c):ent (wd N A) i j=ent A i j:=by rw[ent,wd,xN hi,zFf,(hA i hi).1,if_pos hj]
theorem zBA{i l:Nat}(hi:i<N)(hl:l<N):ent (wd N A) i (c+l)=if l=i then 1 else 0:=by
 rw[ent,wd,xN hi,zFf,(hA i hi).1,if_neg (by omega),H1,ur,yB hl]
 include hp
theorem zTr{i:Nat}(hi:i<N):Row p (c+N) ((wd N A).getD i []):=by
 refine⟨by rw[wd,xN hi,J5,(hA i hi).1,ur,zY],fun j hj=>?_⟩;rcases Jj j c with g|g
 ·have:=(hA i hi).2 j g
  have e:=zKI hA hi g
  grind
 ·have e:=zBA hA (l:=j-c) hi (by omega)
  grind
theorem yB3{u:List Int}:Sp p (c+N) (wd N A) u↔Gr p c N A u:=by
 have _:=hp;constructor
 ·rintro⟨cf,fE⟩ j hj
  rw[zCY hA]at fE;rw[←fE j (by omega)];refine zAe fun k hk=>?_
  have h1:=fE (c+k) (by omega);rw[jR (k:=k) hk (fun i hi gf=>by rw[zBA hA hi hk,if_neg (Ne.symm gf),Kw]),zBA hA hk hk,if_pos rfl,Lz]at h1;rw[zKI hA hk hj,Jw,h1,←Jw]
 ·intro h
  refine⟨fun k=>at0 u (c+k),fun j hj=>?_⟩;rw[zCY hA];rcases Jj j c with g|g
  ·rw[h j g]
   refine congrArg (· %p) (xI fun k hk=>?_);rw[zKI hA hk g]
  ·obtain⟨l,rfl⟩:∃l,j=c+l:=⟨j-c,by omega⟩
   rw[jR (k:=l) (by omega) (fun i hi gf=>by rw[zBA hA hi (by omega),if_neg (Ne.symm gf),Kw]),zBA hA (by omega) (by omega),if_pos rfl,Lz]
variable {W:Mx}{pv:Nat→Nat} (hW:Red p (c+N) W pv) (hs:jS p (c+N) W (wd N A))
 include hW
theorem zZl:∃t,t≤W.length∧(∀i,i<t→pv i<c)∧ ∀i,t≤i→i<W.length→c≤pv i:=by
 have _:=hA;have _:=hp;obtain⟨t,ht,eG⟩:=zDG (p:=fun t=>W.length≤t∨c≤pv t) ⟨W.length,.inl (Jh _)⟩;have gF:∀i,i<t→i<W.length∧pv i<c:=fun i hi=>by have:=eG i hi;exact⟨Jbd fun h=>this (.inl h),Jbd fun h=>this (.inr h)⟩
 refine⟨t,Nat.le_of_not_lt fun h=>?_,fun i hi=>(gF i hi).2,fun i hi eZ=>?_⟩
 ·have:=(gF W.length h).1;omega
 ·rcases ht with h|h
  ·omega
  ·rcases Jj t i with g|g
   ·have:=hW.mono t i g eZ;omega
   ·rw[show i=t from by omega];exact h
def nul(c t:Nat)(W:Mx):Mx:=gl (W.length-t) fun i=>(W.getD (t+i) []).drop c
 omit hp hA hW in
theorem zFg{t i j:Nat}(hi:t+i<W.length):ent (nul c t W) i j=ent W (t+i) (c+j):=by rw[ent,nul,xN (by omega),zCX]
variable {t:Nat} (ht:t≤W.length) (h1:∀i,i<t→pv i<c) (h2:∀i,t≤i→i<W.length→c≤pv i)
 include ht h1 h2
theorem zWw:Red p N (nul c t W) (fun i=>pv (t+i)-c):=by
 have _:=hp;have _:=hA;have _:=h1;have _:=ht;have hl:(nul c t W).length=W.length-t:=wN;have hpc:∀i,i<W.length-t→c≤pv (t+i):=by grind
 refine⟨fun i hi=>?_,fun i hi=>?_,fun i hi=>?_,fun i hi j hj=>?_,fun i k hi hk gf=>?_,fun i j gO hj=>?_⟩
 ·rw[hl]at hi
  have hr:=hW.row (t+i) (by omega);refine⟨by rw[nul,xN hi,K3,hr.1];omega,fun j hj=>?_⟩;have:=hr.2 (c+j) (by omega)
  grind[nul]
 ·rw[hl]at hi
  have:=hW.lt (t+i) (by omega)
  grind
 ·rw[hl]at hi
  rw[zFg (by omega),show c+(pv (t+i)-c)=pv (t+i)from by grind];exact hW.one _ (by omega)
 ·rw[hl]at hi
  rw[zFg (by omega)];exact hW.low _ (by omega) _ (by omega)
 ·rw[hl]at hi hk
  rw[zFg (by omega),show c+(pv (t+i)-c)=pv (t+i)from by grind];exact hW.off _ _ (by omega) (by omega) (by omega)
 ·rw[hl]at hj
  have:=hW.mono (t+i) (t+j) (by omega) (by omega)
  grind
 include hs
theorem yB4{u:List Int}:Sp p (c+N) W u↔Gr p c N A u:=by have _:=hW;have _:=ht;have _:=h1;have _:=h2;exact hs.iff.trans (yB3 hp hA)
theorem zZm{x:List Int}:Sp p N (nul c t W) x↔ ∀j,j<c→(S N fun k=>at0 x k*ent A k j)%p=0:=by
 have hl:(nul c t W).length=W.length-t:=wN;constructor
 ·rintro⟨cf,fE⟩ j hj
  rw[hl]at fE;have e1:(S N fun k=>at0 x k*ent A k j)%p=(S N fun k=>(S (W.length-t) fun i=>cf i*ent (nul c t W) i k)*ent A k j)%p:=by grind[zAe,Jw]
  have e2:(S N fun k=>(S (W.length-t) fun i=>cf i*ent (nul c t W) i k)*ent A k j)=S (W.length-t) fun i=>cf i*S N fun k=>ent W (t+i) (c+k)*ent A k j:=by
   rw[xI (g:=fun k=>S (W.length-t) fun i=>cf i*(ent W (t+i) (c+k)*ent A k j)) (fun k hk=>by rw[←zMu];exact xI (by grind[zFg])),zIg]
   grind[zCU]
  have e3:(S (W.length-t) fun i=>cf i*S N fun k=>ent W (t+i) (c+k)*ent A k j)%p=(S (W.length-t) fun _=>0)%p:=zAe fun i hi=>by have h:=(yB4 hp hA hW hs ht h1 h2).1 (qA (p:=p) (n:=c+N) (R:=W) (i:=t+i) (by omega)) j hj;have hz:=hW.low (t+i) (by omega) j (by grind);simp only[ent]at hz;rw[hz]at h;rw[Jw,show(S N fun k=>ent W (t+i) (c+k)*ent A k j)%p=0 from h.symm,Kw]
  rw[e1,e2,e3,sY];rfl
 ·intro h0
  let u:List Int:=mkv (c+N) fun j=>if j<c then 0 else at0 x (j-c)
  have cJ:∀j,j<c→at0 u j=0:=fun j hj=>by rw[yB (by omega),if_pos hj]
  have fU:∀k,k<N→at0 u (c+k)=at0 x k:=fun k hk=>by rw[yB (by omega),if_neg (by omega),H1]
  have hg:Gr p c N A u:=fun j hj=>by rw[cJ j hj,xI (g:=fun k=>at0 x k*ent A k j) (by grind),h0 j hj];rfl
  have hx:=hW.expand ((yB4 hp hA hW hs ht h1 h2).2 hg);refine⟨fun i=>at0 u (pv (t+i)),fun j hj=>?_⟩;have h3:=hx (c+j) (by omega);rw[fU j hj,zZk ht (by grind)]at h3;rw[hl,h3];exact congrArg (· %p) (xI (by grind[zFg]))
end
end Go.Pl

namespace Go.Pl
open Go Go.Ab Go.Wk Go.Pc
theorem zKJ{v:List Int}(hl:v.length≤1000000):IsB (f_T v) (∀i,i<v.length→at0 v i=0):=by
 refine sW v.length (fun i=>at0 v i=0) rfl (fun i hi _=>?_) ?_
 ·refine uZ (o:=iG (at0 v i==0)) (IsB.of_bool (by simp)) (by omega) ?_
  unfold zNh;rw[yR hi,zK,yN hi,bs,bs];rfl
 ·unfold zNh
  simp
end Go.Pl

namespace Go.Pl
open Go Go.Ab Go.Wk Go.Pc
end Go.Pl

namespace Go.Pl
open Go Go.Ab Go.Wk Go.Pc
section
variable {n D:Nat}{m:zB} (hm:MOk n m D) (hn:n≤9)
 include hm hn
def yB5(m:zB)(D:Nat)(rows:Mx):Prop:=∀i,i<rows.length→Row m.Prime D (rows.getD i [])
theorem zKK{rows:Mx}(hl:rows.length≤1048576):IsB (zZQ m rows) (yB5 m D rows):=by
 have _:=hn;have h3:=hm.d3;refine sW (body:=zNv m rows) rows.length (fun i=>Row m.Prime D (rows.getD i [])) rfl (fun i hi _=>?_) ?_
 ·refine uZ (zG6 hm.p (D:=D) (by omega)) (by omega) ?_
  unfold zNv;rw[yR hi,zK,yO [] hi,bs,hm.d]
 ·unfold zNv
  simp
end
end Go.Pl

namespace Go.Pl
open Go Go.Ab Go.Wk Go.Pc
structure Nul (p:Int) (c N:Nat) (A W:Mx) (pv:Nat→Nat) (t:Nat):Prop where
 row:∀i,i<N→Row p c (A.getD i [])
 len:A.length=N
 red:Red p (c+N) W pv
 sp:jS p (c+N) W (wd N A)
 le:t≤W.length
 lo:∀i,i<t→pv i<c
 hi:∀i,t≤i→i<W.length→c≤pv i
section
variable {p:Int} (hp:Prime p) {c N:Nat} (fF:c+N≤100000) {A W:Mx}{pv:Nat→Nat}{t:Nat}
 include hp fF
theorem Nul.get(hr:∀i,i<N→Row p c (A.getD i []))(hl:A.length=N):∃W pv t,Nul p c N A W pv t∧f_r p (wd N A)=iG W∧f_i p (wd N A)=iG W:=by have h7:=hp.pos;obtain⟨W,pv,r1,r2,r3,r4⟩:=qB hp (n:=c+N) fF (rows:=wd N A) (by rw[zCY hr];omega) (fun i hi=>zTr (by omega) hr (by rwa [zCY hr]at hi));obtain⟨t,t1,t2,t3⟩:=zZl (by omega) hr r3;exact⟨W,pv,t,⟨hr,hl,r3,r4,t1,t2,t3⟩,r1,r2⟩
variable (h:Nul p c N A W pv t)
 include h
theorem Nul.nred:Red p N (nul c t W) (fun i=>pv (t+i)-c):=by have _:=fF;have h7:=hp.pos;exact zWw (by omega) h.row h.red h.le h.lo h.hi
theorem Nul.nsp{x:List Int}:Sp p N (nul c t W) x↔ ∀j,j<c→(S N fun k=>at0 x k*ent A k j)%p=0:=by have _:=fF;have h7:=hp.pos;exact zZm (by omega) h.row h.red h.sp h.le h.lo h.hi
theorem Nul.full:W.length=N:=by
 have h7:=hp.pos;have g1:W.length≤(wd N A).length:=zIm hp (n:=c+N) fF (by rw[zCY h.row];omega) (fun i hi=>zTr (by omega) h.row (by rwa [zCY h.row]at hi)) h.red h.sp;rw[zCY h.row]at g1;have hl:(gl W.length fun i=>(W.getD i []).drop c).length=W.length:=wN;have hR:∀i,i<W.length→Row p N ((gl W.length fun i=>(W.getD i []).drop c).getD i []):=fun i hi=>by have hr:=h.red.row i hi;rw[xN hi];refine⟨by rw[K3,hr.1];omega,fun j hj=>?_⟩;rw[zCX];exact hr.2 (c+j) (by omega)
 obtain⟨R3,pv3,_,_,g3,g4⟩:=qB hp (n:=N) (by omega) (rows:=gl W.length fun i=>(W.getD i []).drop c) (by omega) (by rw[hl];exact hR);have g5:=zIm hp (n:=N) (by omega) (by omega) (by rw[hl];exact hR) g3 g4;have eY:(gl N (ur N)).length=N:=wN;have p7:∀i j,i<N→j<N→ent (gl N (ur N)) i j=if j=i then 1 else 0:=fun i j hi hj=>by rw[ent,xN hi,ur,yB hj]
 have e6:Red p N (gl N (ur N)) (fun i=>i):=by
  refine⟨fun i hi=>?_,fun i hi=>by omega,fun i hi=>?_,fun i hi j hj=>?_,fun i k hi hk gf=>?_,fun i j gO hj=>gO⟩
  ·rw[eY]at hi
   rw[xN hi];refine⟨zY _ _,fun j hj=>?_⟩;rw[ur,yB hj];split<;>omega
  ·rw[eY]at hi
   rw[p7 i i hi hi,if_pos rfl]
  ·rw[eY]at hi
   rw[p7 i j hi (by omega),if_neg (by omega)]
  ·rw[eY]at hi hk
   rw[p7 k i hk hi,if_neg (Ne.symm gf)]
 have g6:=e6.le_of (by omega) g3 (fun i hi=>by rw[eY]at hi;refine g4.iff.2 ?_;obtain⟨cf,fE⟩:=h.sp.2 i (by rw[zCY h.row];exact hi);refine⟨cf,fun j hj=>?_⟩;have h1:=fE (c+j) (by omega);have h2:=zBA h.row hi hj;simp only[ent]at h2;rw[h2]at h1;have h3:=p7 i j hi hj;simp only[ent]at h3;rw[h3,hl,←h1];exact congrArg (· %p) (xI fun k hk=>by rw[ent,xN hk,zCX]))
 omega
 omit h in
theorem zOw{N:Nat}(hN:N≤100000):f_C (N:Int)=iG (gl N (ur N)):=by
  have _:=hp;have _:=fF;unfold f_C;rw[vB (body:=zIJ (N:Int)) N (ur N) (fun i acc hi ha=>by
    unfold zIJ;simp only
    rw[yR hi,zK,xC (by omega),bs,vS,Kf,if_pos hi,bs,J8,uA,qH,yI (by simp;omega),bs,zC (by omega) (by omega),bs,cs];rfl) (fun acc=>by
    unfold zIJ;simp only
    rw[vE,zM]),bs]
 omit h in
theorem zRf(hr:∀i,i<N→Row p c (A.getD i []))(hl:A.length=N):zXc p A=f_r p (wd N A):=by
  unfold zXc;rw[hl,zOw hp fF (by omega),bs,vB (body:=zNt A (gl N (ur N))) N (fun i=>A.getD i []++ur N i) (fun i acc hi ha=>by
    unfold zNt;simp only
    rw[hl,yR hi,zK,yO [] (by omega),bs,qV (by rw[(hr i hi).1];omega),bs,zAh hi,bs,yI (by rw[(hr i hi).1,ur,zY];omega),bs,yI (by simp;omega),bs,zC (by omega) (by omega),bs,cs]) (fun acc=>by
    unfold zNt;simp only
    rw[hl,vE,zM]),bs]
  show(f_r p (wd N A)).bind _=_;cases f_r p (wd N A)<;>rfl
theorem zRg:zI (zJW (c:Int) W) ([],0)=iG (nul c t W):=by
 have hf:=h.full hp fF;have hle:=h.le;have:=zX (body:=zJW (c:Int) W) (r:=nul c t W) (fun i=>(gl (i-t) (fun k=>(W.getD (t+k) []).drop c),(i:Int))) W.length (fun i hi=>by
  have hr:=h.red.row i hi;have h1:=h.red.one i hi;have gF:=h.red.lt i hi;have aF:=zGU (n:=c+N) hr.1 (by omega) gF (h.red.low i hi) (by simp only[ent]at h1;omega);unfold zJW;simp only
  rw[yR hi,zK,yO [] hi,bs,aF,bs];rcases Jj i t with g|g
  ·have:=h.lo i g
   rw[iL (by omega),zM,zC (by omega) (by omega),bs,cs,show i-t=0 from by omega,show i+1-t=0 from by omega]
  ·have:=h.hi i g hi
   have e:yD (W.getD i []) (c:Int) ((W.getD i []).length:Int)=iG ((W.getD i []).drop c):=by unfold yD;rw[if_pos ⟨by omega,by rw[hr.1];omega,by omega⟩,J8,J8,Jt (by rw[K3];omega)]
   rw[iM (by omega),zK,bs,e,bs,qV (by rw[K3,hr.1];omega),bs,yI (by rw[wN];simp;omega),bs,zC (by omega) (by omega),bs,cs,show i+1-t=(i-t)+1 from by omega,←zAW,show t+(i-t)=i from by omega]) (by
  unfold zJW;simp only
  rw[vE,zM];rfl)
 rw[show 0-t=0 from by omega]at this;exact this
end
end Go.Pl

namespace Go.Pl
open Go Go.Ab Go.Wk Go.Pc
theorem zPV{β:Type}{n:Nat}{F:Nat→β}:gl (n+1) F=gl n F++[F n]:=zAW.symm
theorem zPW{β:Type}{L:Nat}{F:Nat→List β}:∀{n:Nat},(∀i,i<n→(F i).length=L)→(gl n F).flatten.length=n*L
 |0,_=>by simp[gl]
 |n+1,h=>by
  rw[zPV,Jao,J5,zPW fun i hi=>h i (by omega),K1]
  grind
theorem zTs{β:Type}{body:List β×Int→Option ((List β×Int)⊕List β)}(n L:Nat)(F:Nat→List β)(a0:List β)(hF:∀i,i<n→(F i).length=L)
  (h:∀i acc,i<n→acc.length=a0.length+i*L→body (acc,(i:Int))=iG (.inl (acc++F i,((i+1:Nat):Int))))(he:∀acc,body (acc,(n:Int))=iG (.inr acc)):
  zI body (a0,0)=iG (a0++(gl n F).flatten):=by
 have:=zX (body:=body) (r:=a0++(gl n F).flatten) (fun i=>(a0++(gl i F).flatten,(i:Int))) n (fun i hi=>by rw[h i _ hi (by grind[zPW]),zPV,Jao,Jf];simp) (he _)
 grind
end Go.Pl

namespace Go.Pl
open Go Go.Ab Go.Wk Go.Pc
end Go.Pl

namespace Go.Pl
open Go Go.Ab Go.Wk Go.Pc
theorem zIq{α:Type}{f:α→α}{a:α}(h:f a=a):∀k,iter k f a=a
 |0=>rfl
 |k+1=>by show iter k f (f a)=a;rw[h];exact zIq h k
theorem zTt{p:Int}{D:Nat}{A:List Mx}:∀(v:Vec)(o:Nat)(B:Mx),o+v.length≤A.length→wM p D A (nw o v) B=img (PM p D) (A.drop o) v B
 | [],o,B,_=>by simp[nw,wM,img]
 |a::v,o,B,h=>by
  simp only[J7]at h;have e:A.drop o=A.getD o []::A.drop (o+1):=by grind[Uk]
  rw[e];simp only[nw,img];rw[zDu,zIj,zTt v (o+1) _ (by omega)]
theorem zCZ:∀(k o:Nat),nw o (zeros k)=[]
 |0,_=>rfl
 |k+1,o=>by rw[show zeros (k+1)=0::zeros k from rfl];simp only[nw];rw[zCZ k];rfl
section
variable {x:SPr}{m:zB}{D:Nat} (h:Pres x) (hm:zTi x.zA.length m D) (hr:zCv x m D)
 include hm
 include h hr
theorem zPX:∀(d k:Nat),k+d=x.zA.length→Rel (PM m.Prime D) (idM D) (suf x k) (m.zF.drop k)
 |0,k,hk=>by rw[vT (by omega),Ue (by rw[hm.len];omega)];exact rfl
 |d+1,k,mC=>by
  have h6:=h.os.1;have hk:k<x.zA.length:=by omega
  have gj:=hm.len;have e:m.zF.drop k=m.zF.getD k []::m.zF.drop (k+1):=by simp_all
  obtain⟨t1,t2,t3⟩:=h.tl k hk;obtain⟨r1,r2⟩:=hr k hk;have tf:∀v,Exp x.zA v k→wM m.Prime D m.zF (nw 0 v) (idM D)=img (PM m.Prime D) (m.zF.drop (k+1)) (v.drop (k+1)) (idM D):=fun v hv=>by
   have hl:=hv.1.1
   conv=>lhs;rw[zA4 hv hk]
   rw[zDt,zCZ,Jv,yC,zTt _ _ _ (by grind),Jc]
  rw[yG hk,e];refine⟨?_,fun q c dd hc hd=>?_,zPX d (k+1) (by omega)⟩
  ·grind[pw,lvl,zIj]
  ·rw[Hi]at hc
   have hq:k+1+q<m.zF.length:=by grind
   have dl:c=m.zF.getD (k+1+q) []:=by grind
   have mf:dd=((x.zG.getD k []).getD q []).drop (k+1):=by grind[lvl]
   have:=r2 (k+1+q) (by omega) (by omega);rw[show k+1+q-(k+1)=q from by omega]at this;rw[dl,mf,this,tf _ (t3 q (by omega))]
end
end Go.Pl

namespace Go.Pl
open Go Go.Ab Go.Wk Go.Pc
theorem zFh{p:Int}{c N:Nat}(fF:c+N≤100000){A:Mx}(hr:∀i,i<N→Row p c (A.getD i []))(hl:A.length=N):zWY A=iG (wd N A):=by
 unfold zWY;rw[vB (body:=zNo A) N (fun i=>A.getD i []++ur N i) (fun i acc hi ha=>by
  have h1:=(hr i hi).1;have e:wD (J1 (c+N) (0:Int)) 0 ((A.getD i []).take (((J1 (c+N) (0:Int)).length)-0))=A.getD i []++J1 N 0:=by unfold wD;rw[Jb,Jt (l:=A.getD i []) (by omega),Ka,Jv,h1,Lj];simp
  have e2:ixO (A.getD i []++J1 N (0:Int)) ((c+i:Nat):Int)=iG 0:=by rw[vS,Ja (by omega),h1,Kf,if_pos (by omega)]
  unfold zNo;simp only
  rw[hl,yR hi,zK,yO [] (by omega),bs,h1,←Hr,zC (by omega) (by omega),bs,xC (by omega),bs,←Hr,zC (by omega) (by omega),bs,e,e2,bs,J8,Uj _ _ (by omega),h1,H1,uA,qH,yI (by simp;omega),bs,zC (by omega) (by omega),bs,cs];rfl) (fun acc=>by
  unfold zNo
  grind),bs]
 rfl
end Go.Pl

namespace Go.Pl
open Go Go.Ab Go.Wk Go.Pc
theorem zME{p:Int}(hp:Prime p){n:Nat}(hn:n≤100000){R:Mx}{pv:Nat→Nat}(h:Red p n R pv):f_r p R=iG R∧f_i p R=iG R:=by
 have h7:=hp.pos;have hl:R.length≤n:=h.len_le;obtain⟨R2,pv2,r1,r2,r3,r4⟩:=qB hp hn (rows:=R) (by omega) h.row;have e:=r3.unique (by omega) h r4
 grind
section
variable {p:Int} (hp:Prime p) {c N:Nat} (fF:c+N≤100000) {A W:Mx}{pv:Nat→Nat}{t:Nat}
 include hp fF
theorem zMF(h:Nul p c N A W pv t):zI (zRE (c:Int) W) ([],0)=iG (nul c t W):=by
 have h7:=hp.pos;have hf:=h.full hp fF;have hle:=h.le;have:=zX (body:=zRE (c:Int) W) (r:=nul c t W) (fun i=>(gl (i-t) (fun k=>(W.getD (t+k) []).drop c),(i:Int))) W.length (fun i hi=>by
  have hr:=h.red.row i hi;have h1:=h.red.one i hi;have e0:yD (W.getD i []) 0 (c:Int)=iG ((W.getD i []).take c):=by unfold yD;rw[if_pos ⟨by omega,by omega,by rw[hr.1];omega⟩,J8,show(0:Int).toNat=0 from rfl,Ge,Ui]
  have fL:((W.getD i []).take c).length=c:=by rw[Kc,hr.1];omega
  have hz:=zKJ (v:=(W.getD i []).take c) (by omega);unfold zRE;simp only
  rw[yR hi,zK,yO [] hi,bs,e0,bs];rcases Jj i t with g|g
  ·have eB:=h.lo i g
   rcases hz with⟨_,z⟩|⟨z,_⟩
   ·grind
   ·rw[z,bs,zM,zC (by omega) (by omega),bs,cs,show i-t=0 from by omega,show i+1-t=0 from by omega]
  ·have fD:=h.hi i g hi
   have e:yD (W.getD i []) (c:Int) ((W.getD i []).length:Int)=iG ((W.getD i []).drop c):=by unfold yD;rw[if_pos (by grind),J8,J8,Jt (by rw[K3];omega)]
   rcases hz with⟨z,_⟩|⟨_,z⟩
   ·rw[z,bs,zK,e,bs,yI (by grind),bs,zC (by omega) (by omega),bs,cs,show i+1-t=(i-t)+1 from by omega,←zAW,show t+(i-t)=i from by omega]
   ·refine absurd (fun j hj=>?_) z
    rw[fL]at hj;rw[zMD hj];have:=h.red.low i hi j (by omega);omega) (by
  unfold zRE;simp only
  rw[vE,zM];rfl)
 grind
theorem zGc(hr:∀i,i<N→Row p c (A.getD i []))(hl:A.length=N):∃K pk,zXd p A (c:Int)=iG K∧f_N p A (c:Int)=iG K∧Red p N K pk∧ ∀x,Sp p N K x↔ ∀j,j<c→(S N fun k=>at0 x k*ent A k j)%p=0:=by
 obtain⟨W,pv,t,h1,h2,h3⟩:=Nul.get hp fF hr hl;refine⟨nul c t W,_,?_,?_,h1.nred hp fF,fun x=>h1.nsp hp fF⟩
 ·grind[zXd,zRf,zRg]
 ·unfold f_N
  rw[zFh fF hr hl,bs,h3,bs,zMF hp fF h1,bs,(zME hp (by omega) (h1.nred hp fF)).2,bs]
end
end Go.Pl

namespace Go.Pl
open Go Go.Ab Go.Wk Go.Pc
section
variable {x:SPr} (h:Pres x)
 include h
theorem zTu:∀k,k≤x.zA.length→2*((Jg k).flatMap (R2 x)).length+k*k+k=2*(x.zA.length*k)
 |0,_=>by simp
 |k+1,hk=>by
  have ih:=zTu k (by omega);have t2:=(h.tl k (by omega)).2.1;have e:((Jg (k+1)).flatMap (R2 x)).length=((Jg k).flatMap (R2 x)).length+(x.zG.getD k []).length:=by rw[Ll,U4,J5];simp[R2]
  have e3:(k+1)*(k+1)=k*k+2*k+1:=by rw[Ja5 (k+1) k,K1 k k];omega
  have e4:x.zA.length*(k+1)=x.zA.length*k+x.zA.length:=Ja5 _ _;rw[e,e3,e4];omega
theorem zRh:2*(wC x).length=x.zA.length*(x.zA.length+1):=by have:=zTu h x.zA.length (Jh _);simp only[wC,J5,Ji,Le];rw[Ja5];omega
end
theorem zFi{α:Type}{F:α→List Int}{D c:Nat}(hc:c<D):∀(L:List α)(a:Nat)(q:α),(∀q∈L,(F q).length=D)→L[a]? =iG q→at0 ((L.map F).flatten) (a*D+c)=at0 (F q) c
 | [],a,q,_,h=>by simp at h
 |y::L,0,q,hF,h=>by simp at h;subst h;have:=hF y (by simp);rw[Jn,Ku,Hz,Jc,zFf,if_pos (by omega)]
 |y::L,a+1,q,hF,h=>by have h1:=hF y (by simp);simp only[Q6]at h;rw[Jn,Ku,zFf,K1,if_neg (by omega),show a*D+D+c-(F y).length=a*D+c from by omega];exact zFi hc L a q (fun q hq=>hF q (by simp[hq])) h
theorem zGd{α:Type}{F:α→List Int}{D:Nat}:∀(L:List α),(∀q∈L,(F q).length=D)→((L.map F).flatten).length=L.length*D
 | [],_=>by simp
 |y::L,h=>by
  have:=zGd L fun q hq=>h q (by simp[hq])
  have:=h y (by simp);simp only[Jn,Ku,J5,J7,K1];omega
def zFj{α:Type}(N:Nat)(F:Nat→α→List Int)(L:List α):Mx:=gl N fun k=>(L.map (F k)).flatten
section
variable {α:Type}{p:Int}{N D:Nat}{F:Nat→α→List Int} (hF:∀k,k<N→ ∀q,Row p D (F k q))
 include hF
theorem zJQ(L:List α):∀k,k<N→Row p (L.length*D) ((zFj N F L).getD k []):=by intro k hk;rw[zFj,xN hk];refine zKG.2 ⟨zGd L fun q _=>(hF k hk q).1,fun v hv=>?_⟩;obtain⟨r,h1,h2⟩:=Jb8.1 hv;obtain⟨q,_,rfl⟩:=Jl.1 h1;exact(zKG.1 (hF k hk q)).2 v h2
end
def zEt(n D:Nat)(v:List Int):Mx:=gl n fun i=>mkv D fun j=>at0 v (i*D+j)
theorem zTv{v:List Int}{D a:Nat}(h:a+D≤v.length):(v.drop a).take D=mkv D fun j=>at0 v (a+j):=by
 have hl:((v.drop a).take D).length=D:=by rw[Kc,K3];omega
 rw[vC hl];exact zZ fun j hj=>by rw[zMD hj,zCX]
theorem zGe{v:List Int}{D a:Nat}(h:a+D≤v.length):yD v (a:Int) ((a+D:Nat):Int)=iG (mkv D fun j=>at0 v (a+j)):=by unfold yD;rw[if_pos ⟨by omega,by omega,by omega⟩,J8,J8,H1,zTv h]
theorem zZn{p:Int}{n D:Nat}{v:List Int}(hv:Row p (n*D) v):VOk n p D (zEt n D v):=by
 refine⟨wN,fun i hi=>?_⟩;rw[zEt,xN hi];refine⟨zY _ _,fun j hj=>?_⟩;rw[yB hj];have:i*D+D≤n*D:=by have:=Kb D (show i+1≤n by omega);rw[K1]at this;exact this
 exact hv.2 _ (by omega)
end Go.Pl

namespace Go.Pl
open Go Go.Ab Go.Wk Go.Pc
end Go.Pl

namespace Go.Pl
open Go Go.Ab Go.Wk Go.Pc
theorem zCd{n D i:Nat}(hi:i<n):i*D+D≤n*D:=by
 have:=Kb D (show i+1≤n by omega)
 grind
theorem zIr{n D:Nat}(hD:1≤D){v:List Int}(hl:v.length=n*D)(hs:n*D≤100000):zR6 v (D:Int)=iG (zEt n D v):=by
 have hn:n≤n*D:=Jaw n hD;have:=zX (body:=zNu v (D:Int)) (r:=zEt n D v) (fun i=>(gl i fun i=>mkv D fun j=>at0 v (i*D+j),((i*D:Nat):Int))) n (fun i hi=>by
  have h1:=zCd (D:=D) hi;unfold zNu;simp only
  rw[iM (by omega),zK,←Hr,zC (by omega) (by omega),bs,zGe (by omega),bs,kL (by grind[zY]),bs,yI (by rw[wN];simp;omega),bs,bs,zAW,←K1]) (by
  unfold zNu;simp only
  rw[iL (by omega),zM];rfl)
 grind[zR6]
theorem zTw{n D:Nat}(hD:1≤D)(hD3:D≤1000){v:List Int}(hl:v.length=n*D)(hs:n*D≤100000):zVx v (D:Int)=iG (zEt n D v):=by
 have hn:n≤n*D:=Jaw n hD;have:=zX (body:=zN4 v (D:Int)) (r:=zEt n D v) (fun i=>(gl i fun i=>mkv D fun j=>at0 v (i*D+j),((i*D:Nat):Int))) n (fun i hi=>by
  have h1:=zCd (D:=D) hi;unfold zN4;simp only
  rw[←Hr,zC (by omega) (by omega),bs,iM (by omega),zK,bs,zGe (by omega),bs,qV (by grind[zY]),bs,yI (by rw[wN];simp;omega),bs,bs,zAW,←K1]) (by
  unfold zN4;simp only
  rw[←Hr,zC (by omega) (by omega),bs,iL (by omega),zM];rfl)
 grind[zVx]
section
variable {x:SPr} (h:Pres x) {m:zB}{D:Nat} (hm:MOk x.zA.length m D)
 include h hm
section
variable {vals:Mx} (hv:VOk x.zA.length m.Prime D vals)
 include hv
theorem zOx:f_u x m vals=iG ((wC x).map (dfc m D vals)):=by
 have h6:=h.os.1;have h7:=hm.p.pos;have h3:=hm.d3;have cX:=h.pl;have gC:=h.cl;have hz:=zEo (p:=m.Prime) (D:=D) (by omega);unfold f_u;rw[hm.d,xC (by omega),bs];have e1:=vB (body:=zVz x m vals D) x.zA.length (fun i=>dfc m D vals (r1 x i)) (fun i acc hi ha=>by
  obtain⟨p1,p2⟩:=jH h.os (h.tl i hi).1;have ho:=(h.os.2 i hi).pos;unfold zVz;simp only
  rw[yR hi,zK];rw[vY (S:=Row m.Prime D) (body:=zVy x m vals (acc,(i:Int))) (fun v=>v) (fun v=>stp m D vals v i) (at0 x.zA i) (by omega) (by grind[zCb]) (fun u q hu hq=>by
   unfold zVy;simp only
   rw[yN hi,bs,iM hq,zK,zB9 hm h6 hv hu hi,bs,zC (by omega) (by omega),bs,cs]) (fun u hu=>by
   unfold zVy;simp only
   rw[yN hi,bs,iL (by omega),zM]) hz,bs,zC (by omega) (by omega),bs,yO [] (by omega),bs,zG7 hm h6 hv hz p1 p2,bs,←zOi]
  have e1:f_z m.Prime (ev m D vals (z0 D) (J1 (at0 x.zA i).toNat i)) (m.Prime-1) (ev m D vals (z0 D) (nw 0 (x.zS.getD i [])))=iG (dfc m D vals (r1 x i)):=by rw[tT hm.p (zEp hm h6 hv hz _) (zEp hm h6 hv hz _) (by omega) (by omega),zEn];rfl
  grind[yI,zC]) (fun acc=>by
  unfold zVz;simp)
 rw[e1,bs];have di:=zIl h;have e2:=zX (body:=zV1 x m vals D) (r:=(wC x).map (dfc m D vals)) (fun i=>(((Jg x.zA.length).map (fun i=>dfc m D vals (r1 x i)))++((Jg i).flatMap (R2 x)).map (dfc m D vals),(i:Int))) x.zA.length (fun i hi=>by
  have t2:=(h.tl i hi).2.1;have hfi:=di i (by omega);unfold zV1;simp only
  rw[yR hi,zK,zC (by omega) (by omega),bs,cs];have gQ:=zX (body:=zV0 x m vals D (((Jg x.zA.length).map (fun i=>dfc m D vals (r1 x i)))++((Jg i).flatMap (R2 x)).map (dfc m D vals),(i:Int)))
   (r:=((Jg x.zA.length).map (fun i=>dfc m D vals (r1 x i)))++((Jg (i+1)).flatMap (R2 x)).map (dfc m D vals))
   (fun j=>(((Jg x.zA.length).map (fun i=>dfc m D vals (r1 x i)))++((Jg i).flatMap (R2 x)).map (dfc m D vals)++(Jg j).map (fun j=>dfc m D vals (r2 x i j)),((i+1+j:Nat):Int))) (x.zG.getD i []).length (fun j hj=>by
   obtain⟨c1,c2⟩:=jH h.os ((h.tl i hi).2.2 j hj);have bV:i+1+j<x.zA.length:=by omega
   have s1:=zB9 hm h6 hv hz bV;have s2:=zB9 hm h6 hv (zCb hm h6 hv (v:=z0 D) (w:=i+1+j)) hi;have s3:=zB9 hm h6 hv hz hi;have s4:=zG7 hm h6 hv (zCb hm h6 hv (v:=z0 D) (w:=i)) c1 c2;unfold zV0;simp only
   rw[yR bV,zK,s1,bs,s2,bs,s3,bs,yO [] (by omega),bs,zC (by omega) (by omega),bs,zC (by omega) (by omega),bs,show(((i+1+j:Nat):Int)-(i:Int)-1)=(j:Int)from by omega,yO [] hj,bs,s4,bs,zC (by omega) (by omega),bs];have e2:f_z m.Prime (stp m D vals (stp m D vals (z0 D) (i+1+j)) i) (m.Prime-1) (ev m D vals (stp m D vals (z0 D) i) (nw 0 ((x.zG.getD i []).getD j [])))=iG (dfc m D vals (r2 x i j)):=by
    rw[tT hm.p (zCb hm h6 hv) (by grind[zEp,zCb]) (by omega) (by omega),zEn];simp only[dfc,r2,ev,Gd,List.foldl_nil]
    grind
   rw[e2,bs,yI (by grind[Ji]),bs,zC (by omega) (by omega),bs,cs,Ll,L8,Jf];rfl) (by
   unfold zV0;simp only
   rw[show i+1+(x.zG.getD i []).length=x.zA.length from by omega,vE,zM,Ll (n:=i),U4,L8,←Jf];simp[R2])
  simp_all) (by
  unfold zV1;simp only
  rw[vE,zM];simp only[wC,L8,Jah];rfl)
 simp_all
end
def uv(n D k:Nat):Mx:=zEt n D (qN (n*D) k)
theorem zPY{k:Nat}:VOk x.zA.length m.Prime D (uv x.zA.length D k):=by have _:=h;have h7:=hm.p.pos;exact zZn (zRc h7.1)
theorem zTx:∀k,k<x.zA.length*D→ ∀q,Row m.Prime D (dfc m D (uv x.zA.length D k) q):=fun k _ q=>by have _:=h;exact zAf hm.p
theorem zTy{k:Nat}:zR6 (qN (x.zA.length*D) k) (D:Int)=iG (uv x.zA.length D k):=by have h6:=h.os.1;have h3:=hm.d3;have cO:x.zA.length*D≤9*3:=Jr h6 h3;exact zIr hm.d1 (zY _ _) (by omega)
theorem zZo{k:Nat}:zVx (qN (x.zA.length*D) k) (D:Int)=iG (uv x.zA.length D k):=by have h6:=h.os.1;have h3:=hm.d3;have cO:x.zA.length*D≤9*3:=Jr h6 h3;exact zTw hm.d1 (by omega) (zY _ _) (by omega)
theorem zIs{vals:Mx}{L:List Rl}:((L.map (dfc m D vals)).flatten).length=L.length*D:=by have _:=h;have _:=hm;grind[zGd,zEW]
theorem zGH:zV2 x m=iG (zFj (x.zA.length*D) (fun k=>dfc m D (uv x.zA.length D k)) (wC x)):=by
 have h6:=h.os.1;have h3:=hm.d3;have cO:x.zA.length*D≤9*3:=Jr h6 h3;have c9:=zKD h hm (zPY h hm (k:=0));have bQ:(wC x).length*D≤100*3:=Jr c9 h3;unfold zV2;rw[hm.d,←Ld,zC (by omega) (by omega),bs];rw[vB (body:=zN7 x m ((x.zA.length*D:Nat):Int)) (x.zA.length*D) (fun k=>((wC x).map (dfc m D (uv x.zA.length D k))).flatten) (fun k acc hk ha=>by
  unfold zN7;simp only
  rw[yR hk,zK,zCt hk (by omega),bs,hm.d,zTy h hm,bs,zKE h hm (zPY h hm (k:=k)),bs,sZ (by simp;omega) (by rw[zIs h hm];omega),bs,yI (by simp;omega),bs,zC (by omega) (by omega),bs,cs]) (fun acc=>by
  unfold zN7;simp),bs]
 rfl
theorem zRi{k N:Nat}:(J1 N (0:Int)).set k 1=qN N k:=by have _:=h;have _:=hm;rw[uA,qH,qN]
theorem zG9:zXm x m=iG (zFj (x.zA.length*D) (fun k=>dfc m D (uv x.zA.length D k)) (wC x)):=by
 have h6:=h.os.1;have h3:=hm.d3;have cO:x.zA.length*D≤9*3:=Jr h6 h3;have c9:=zKD h hm (zPY h hm (k:=0));have bQ:(wC x).length*D≤100*3:=Jr c9 h3;unfold zXm;rw[hm.d,←Ld,zC (by omega) (by omega),bs];rw[vB (body:=zN5 x m ((x.zA.length*D:Nat):Int)) (x.zA.length*D) (fun k=>((wC x).map (dfc m D (uv x.zA.length D k))).flatten) (fun k acc hk ha=>by
  unfold zN5;simp only
  rw[yR hk,zK,xC (by omega),bs,vS,Kf,if_pos hk,bs,J8,zRi h hm,hm.d,zZo h hm,bs,zOx h hm (zPY h hm (k:=k)),bs,zJO (by simp;omega) (by rw[zIs h hm];omega),bs,yI (by simp;omega),bs,zC (by omega) (by omega),bs,cs]) (fun acc=>by
  unfold zN5;simp),bs]
 rfl
end
end Go.Pl

namespace Go.Pl
open Go Go.Ab Go.Wk Go.Pc
end Go.Pl

namespace Go.Pl
open Go Go.Ab Go.Wk Go.Pc
end Go.Pl

namespace Go.Pl
open Go Go.Ab Go.Wk Go.Pc
theorem zIt{N c:Nat}{f:Nat→Int}:(mkv N f).drop c=mkv (N-c) fun i=>f (c+i):=by
 have hl:((mkv N f).drop c).length=N-c:=by rw[K3,zY]
 grind[vC,zZ,zCX,yB]
theorem zAi{n j:Nat}:xM n j=mkv n fun i=>if i=j then 1 else 0:=by rw[xM,show zeros n=J1 n (0:Int)from rfl,uA,qH]
theorem uQ{n i:Nat}:at0 (zeros n) i=0:=by
 rcases Jj i n with g|g
 ·simp[zeros,at0,J2,g]
 ·simp[zeros,at0,J2,g]
theorem zDK.p{x:SPr}(h:zDK x)(hl:x.zA.length≤9):Pres x:=⟨⟨hl,h.os.2⟩,h.pl,h.cl,h.tl⟩
structure ExB (n D:Nat) (x:SPr) (m:zB) (T:Mx):Prop where
 hn:n≤6
 o:x.zA.length=n
 p:x.zS.length=n
 c:x.zG.length=n
 cl:∀i,i<n→(x.zG.getD i []).length=n-1-i
 t:T.length=base n n
 m:zTi n m D
theorem zKH.b{n D:Nat}{x:SPr}{m:zB}{T:Mx}(h:zKH n D x m T)(hm:MOk n m D):ExB n D x m T:=⟨h.hn,h.o,h.p,h.c,h.cl,h.t,hm.b⟩
section
variable {D:Nat}{x:SPr}{m:zB}{T:Mx} (h:Pres x) (hE:ExB x.zA.length D x m T) (hT:∀i,i<T.length→Row m.Prime D (T.getD i []))
 include h hE hT
abbrev exx(D:Nat)(x:SPr)(m:zB)(T:Mx):SPr:=ext x.zA.length D x m T
theorem wF:(exx D x m T).zA.length=x.zA.length+D:=by have _:=h;have _:=hE;have _:=hT;simp[exx,ext]
theorem tF{i:Nat}(hi:i<x.zA.length):at0 (exx D x m T).zA i=at0 x.zA i:=by
 have _:=h;have _:=hE;have _:=hT;show at0 (x.zA++J1 D m.Prime) i=_
 grind
theorem zCe{i:Nat}(hi:x.zA.length≤i)(h2:i<x.zA.length+D):at0 (exx D x m T).zA i=m.Prime:=by
 have _:=h;have _:=hE;have _:=hT;show at0 (x.zA++J1 D m.Prime) i=_
 grind
theorem zOy{v t:List Int}{i:Nat}(hv:v.length=x.zA.length)(hr:∀j,j<x.zA.length→0≤at0 v j∧at0 v j≤at0 x.zA j-1)(hz:∀j,j≤i→j<x.zA.length→at0 v j=0)(ht:Row m.Prime D t)(hi:i<x.zA.length):Exp (exx D x m T).zA (v++t) i:=by
 have hl:=wF h hE hT;refine⟨⟨by rw[J5,hv,ht.1,hl],fun j hj=>?_⟩,fun j hj=>?_⟩
 ·rw[J5,hv,ht.1]at hj
  rw[zFf,hv];split
  ·grind[tF]
  ·next g=>rw[zCe h hE hT (by omega) hj];exact ht.2 _ (by omega)
 grind
theorem zMG(i:Nat)(hi:i<base x.zA.length x.zA.length):Row m.Prime D (T.getD i []):=by have _:=h;exact hT i (by rw[hE.t];exact hi)
theorem zFk:zDK (exx D x m T):=by
 have hn:=hE.hn;have h3:=hE.m.d3;have h7:=hE.m.p.pos;have hl:=wF h hE hT;have hb:=wT x.zA.length (by omega);refine⟨⟨trivial,fun i hi=>?_⟩,by rw[hl];exact wN,by rw[hl];exact wN,fun i hi=>?_⟩
 ·rw[hl]at hi
  rcases Jj i x.zA.length with g|g
  ·rw[tF h hE hT g];exact h.os.2 i g
  ·rw[zCe h hE hT g hi];exact hE.m.p
 ·rw[hl]at hi
  have hP:(exx D x m T).zS.getD i []=exP x.zA.length D x T i:=xN hi;have hC:(exx D x m T).zG.getD i []=exC x.zA.length D x m T i:=by
   show(gl (x.zA.length+D) (exC x.zA.length D x m T)).getD i []=_
   grind
  refine⟨?_,?_,?_⟩
  ·rw[hP,exP]
   rcases Jj i x.zA.length with g|g
   ·rw[if_pos g]
    obtain⟨t1,_,_⟩:=h.tl i g;exact zOy h hE hT t1.1.1 (fun j hj=>t1.1.2 j (by rw[t1.1.1];exact hj)) (fun j hj _=>t1.2 j hj) (by grind[zMG]) g
   ·rw[if_neg (by omega)]
    have hz:∀j,at0 (J1 (x.zA.length+D) (0:Int)) j=0:=fun j=>uQ
    refine⟨⟨by grind,fun j hj=>?_⟩,fun j _=>hz j⟩;rw[Jb]at hj;rw[hz];rcases Jj j x.zA.length with g2|g2
    ·rw[tF h hE hT g2];have:=(h.os.2 j g2).pos;omega
    grind[zCe]
  ·grind[exC,unC]
  ·rw[hC,exC]
   split
   ·next g=>
    intro j hj;rw[wN]at hj;rw[xN hj,exF];split
    ·next g2=>
     have gC:=hE.cl i g;have cR:=zAX x.zA.length (by omega) i g;obtain⟨_,_,t3⟩:=h.tl i g;have t:=t3 j (by omega);exact zOy h hE hT t.1.1 (fun q hq=>t.1.2 q (by rw[t.1.1];exact hq)) (fun q hq _=>t.2 q hq) (by grind[zMG]) g
    ·next g2=>
     have hz:∀j,at0 (J1 x.zA.length (0:Int)) j=0:=fun j=>uQ
     refine zOy h hE hT (by simp) (fun q hq=>?_) (fun q _ _=>hz q) ((hE.m.mat i g).2 _ (by omega)) g;rw[hz];have:=(h.os.2 q hq).pos;omega
   ·next g=>
    intro j hj;rw[unC,wN]at hj;rw[unC,xN hj];refine⟨⟨by rw[hl];exact zY _ _,fun q hq=>?_⟩,fun q hq=>?_⟩
    ·rw[qN,zY]at hq
     rw[qN,yB hq];rcases Jj q x.zA.length with g2|g2
     ·rw[tF h hE hT g2];have:=(h.os.2 q g2).pos;omega
     grind[zCe]
    ·rw[qN,yB (by omega),if_neg (by omega)]
theorem zBB{k:Nat}(hk:k<x.zA.length):(lvl (exx D x m T) k).o=at0 x.zA k:=tF h hE hT hk
theorem zIu{k:Nat}(hk:k<x.zA.length):(lvl (exx D x m T) k).w=(lvl x k).w++T.getD k []:=by have t1:=(h.tl k hk).1.1.1;have _:=hE;have _:=hT;show((exx D x m T).zS.getD k []).drop (k+1)=_;have hP:(exx D x m T).zS.getD k []=exP x.zA.length D x T k:=xN (by omega);rw[hP,exP,if_pos hk,Kr (by omega)];rfl
def eC1(x:SPr)(T:Mx)(k:Nat):List Vec:=gl (x.zA.length-1-k) fun j=>(lvl x k).cs.getD j []++T.getD (base x.zA.length k+j) []
def eC2(x:SPr)(m:zB)(D k:Nat):List Vec:=((gl D fun j=>(m.zF.getD k []).getD j []).map fun r=>zeros (x.zA.length-1-k)++r)
theorem zCf{k:Nat}(hk:k<x.zA.length):(lvl (exx D x m T) k).cs=eC1 x T k++eC2 x m D k:=by
 have gC:=hE.cl k hk;have _:=hT;show((exx D x m T).zG.getD k []).map (·.drop (k+1))=_;have hC:(exx D x m T).zG.getD k []=exC x.zA.length D x m T k:=by
  show(gl (x.zA.length+D) (exC x.zA.length D x m T)).getD k []=_
  grind
 rw[hC,exC,if_pos hk];apply Ky;intro j
 by_cases hj:j<x.zA.length+D-1-k
 ·have e1:((gl (x.zA.length+D-1-k) (exF x.zA.length x m T k)).map (·.drop (k+1)))[j]? =iG ((exF x.zA.length x m T k j).drop (k+1)):=by grind
  rw[e1,exF]
  by_cases g:j<x.zA.length-1-k
  ·rw[if_pos g,Jx (by grind[eC1])]
   have t:=(h.tl k hk).2.2 j (by omega);rw[Kr (by have:=t.1.1;omega)];have e2:(eC1 x T k)[j]? =iG ((lvl x k).cs.getD j []++T.getD (base x.zA.length k+j) []):=by simp[eC1,gl,g]
   rw[e2]
   congr 2
   simp only[lvl,J2,K5]
   grind
  ·rw[if_neg g,Ja (by grind[eC1]),eC1,wN]
   have e2:(eC2 x m D k)[j-(x.zA.length-1-k)]? =iG (zeros (x.zA.length-1-k)++(m.zF.getD k []).getD (j-(x.zA.length-1-k)) []):=by simp[eC2,gl,show j-(x.zA.length-1-k)<D by omega]
   rw[e2,Kr (by simp;omega),Lj,show x.zA.length-(k+1)=x.zA.length-1-k from by omega];rfl
 ·rw[K4 (by grind),K4 (by simp[eC1,eC2,gl];omega)]
end
def tlv(p:Int):Nat→Pcp
 |0=>[]
 |d+1=>⟨p,zeros d,wP d⟩::tlv p d
theorem zGW{p:Int}:∀d,(tlv p d).length=d
 |0=>rfl
 |d+1=>by simp[tlv,zGW d]
theorem zDP{p:Int}:∀(d:Nat)(v:Vec),V (tlv p d) v↔Row p d v
 |0,v=>by
  constructor
  ·intro h
   obtain rfl:v=[]:=h;exact⟨rfl,fun i hi=>by omega⟩
  ·intro h
   have:=Lp h.1;subst this;exact rfl
 |d+1,v=>by
  cases v with
  |nil=>exact⟨fun h=>h.elim,fun h=>by have:=h.1;grind⟩
  |cons a v=>
   show((0≤a∧a<p)∧V (tlv p d) v)↔_;rw[zDP d v];constructor
   ·rintro⟨⟨h0,h1⟩,h2⟩
    refine⟨by simp[h2.1],fun i hi=>?_⟩;cases i with
    |zero=>grind
    |succ i=>have:=h2.2 i (by omega);grind
   ·intro h
    have h0:=h.2 0 (by omega);simp only[at0,Gu]at h0;refine⟨⟨h0.1,by omega⟩,by have:=h.1;grind,fun i hi=>?_⟩;have:=h.2 (i+1) (by omega)
    grind
abbrev adv(p:Int)(D:Nat)(u v:List Int):List Int:=mkv D fun j=>(at0 u j+at0 v j)%p
theorem qJ{p:Int}{D:Nat}{u v:List Int}(hp:0<p):Row p D (adv p D u v):=by refine⟨zY _ _,fun j hj=>?_⟩;rw[yB hj];have e1:=L4 (at0 u j+at0 v j) (show p≠0 by omega);have e2:=Kk (at0 u j+at0 v j) hp;omega
theorem zIv{p:Int}{D:Nat}{c:List Int}(hp:0<p):∀(k:Nat)(acc:List Int),Row p D acc→iter k (fun w=>adv p D w c) acc=mkv D fun j=>(at0 acc j+(k:Int)*at0 c j)%p
 |0,acc,ha=>by
  show acc=_
  conv=>lhs;rw[vC ha.1]
  refine zZ fun j hj=>?_
  have:=ha.2 j hj;rw[Int.natCast_zero,Q8,H0,Jy this.1 (by omega)]
 |k+1,acc,ha=>by
  show iter k (fun w=>adv p D w c) (adv p D acc c)=_;rw[zIv hp k _ (qJ hp)];refine zZ fun j hj=>?_
  grind[yB,Kh,K7]
theorem zZp{f:Nat→Int}{n:Nat}:S (n+1) f=f 0+S n fun i=>f (i+1):=by
 rw[Nat.add_comm,zGV 1 n];simp only[S]
 grind
theorem zGX{p:Int}{D:Nat}(hp:0<p):∀(cs:List Vec)(v acc:Vec),v.length=cs.length→(∀i,i<v.length→0≤at0 v i)→Row p D acc→img (adv p D) cs v acc=mkv D fun j=>(at0 acc j+S cs.length fun k=>at0 v k*ent cs k j)%p
 | [],v,acc,hl,_,ha=>by
  show acc=_
  conv=>lhs;rw[vC ha.1]
  refine zZ fun j hj=>?_
  have:=ha.2 j hj;simp only[Jq,S];rw[H0,Jy this.1 (by omega)]
 |c::cs,[],acc,hl,_,_=>by simp at hl
 |c::cs,a::v,acc,hl,hv,ha=>by
  have h0:=hv 0 (by simp);simp only[at0,Gu]at h0;have eO:Row p D (iter a.toNat (fun w=>adv p D w c) acc):=vR (S:=Row p D) (fun _ _=>qJ hp) _ ha;show img (adv p D) cs v (iter a.toNat (fun w=>adv p D w c) acc)=_;rw[zGX hp cs v _ (by grind) (fun i hi=>by have:=hv (i+1) (by grind);grind) eO,zIv hp _ _ ha];refine zZ fun j hj=>?_
  rw[yB hj,J7,zZp,Kh,K7,←Kh,Jcx h0,Int.add_assoc];rfl
theorem zDx{α:Type}{S:α→Prop}{m m':α→α→α}(hm:∀a b,S a→S b→m a b=m' a b)(hc:∀a b,S a→S b→S (m' a b)):∀(cs:List α)(v:Vec)(acc:α),(∀c∈cs,S c)→S acc→img m cs v acc=img m' cs v acc
 | [],_,_,_,_=>by simp[img]
 |c::cs,[],_,_,_=>by simp[img]
 |c::cs,a::v,acc,h1,h2=>by
  have mi:=h1 c (by simp);have e:∀k acc,S acc→iter k (fun w=>m w c) acc=iter k (fun w=>m' w c) acc∧S (iter k (fun w=>m' w c) acc):=by
   intro k
   induction k with
   |zero=>intro acc ha;exact⟨rfl,ha⟩
   |succ k ih=>
    intro acc ha;show iter k (fun w=>m w c) (m acc c)=iter k (fun w=>m' w c) (m' acc c)∧_;rw[hm acc c ha mi];exact ih _ (hc _ _ ha mi)
  show img m cs v (iter a.toNat (fun w=>m w c) acc)=img m' cs v (iter a.toNat (fun w=>m' w c) acc);rw[(e _ _ h2).1];exact zDx hm hc cs v _ (by grind) (e _ _ h2).2
theorem zDy{d k j:Nat}(hk:k<d)(hj:j<d):ent (wP d) k j=if j=k then 1 else 0:=by
 have e:(wP d).getD k []=xM d k:=by grind[wP]
 rw[ent,e,zAi,yB hj]
theorem xQ{p:Int}{D:Nat}(hp:0<p):Row p D (zeros D):=zEo hp
theorem qZ{p:Int}(hp:2≤p):∀(d:Nat)(u v:Vec),Row p d u→Row p d v→mul (tlv p d) u v=adv p d u v
 |0,u,v,hu,_=>by rfl
 |d+1,u,v,hu,hv=>by
  have ih:=qZ hp d;have tw:=(zDP (d+1) u).2 hu;have mn:=(zDP (d+1) v).2 hv;cases u with
  |nil=>exact tw.elim
  |cons a u=>
   cases v with
   |nil=>exact mn.elim
   |cons b v=>
    obtain⟨⟨a0,a1⟩,fU⟩:=tw;obtain⟨⟨b0,b1⟩,fY⟩:=mn;have hu3:=(zDP d u).1 fU;have fe:=(zDP d v).1 fY;change a<p at a1;change b<p at b1;have eu:∀w,Row p d w→sig (tlv p d) ⟨p,zeros d,wP d⟩ w=w:=fun w hw=>by
     have dB:∀c∈wP d,Row p d c:=fun c hc=>by obtain⟨k,hk,rfl⟩:=Jl.1 hc;rw[zAi];exact⟨zY _ _,by grind[yB]⟩
     unfold sig;rw[zGW,zDx (S:=Row p d) (m':=adv p d) (by omega) (fun _ _ _ _=>qJ (by omega)) (wP d) w _ dB (xQ (by omega)),zGX (by omega) (wP d) w _ (by rw[hw.1];simp[wP]) (fun i hi=>(hw.2 i (by rw[←hw.1];exact hi)).1) (xQ (by omega))]
     conv=>rhs;rw[vC hw.1]
     refine zZ fun j hj=>?_
     have eY:(wP d).length=d:=by simp[wP]
     have:=hw.2 j hj;rw[eY,uQ,Lh,jR (k:=j) hj (fun k hk gf=>by rw[zDy hk hj,if_neg (Ne.symm gf),Kw]),zDy hj hj,if_pos rfl,Lz,Jy this.1 (by omega)]
    have ei:∀k,iter k (sig (tlv p d) ⟨p,zeros d,wP d⟩) u=u:=by grind[zIq]
    show mul (⟨p,zeros d,wP d⟩::tlv p d) (a::u) (b::v)=_;rw[yZ,ei,ih u v hu3 fe];have hz:adv p d (zeros d) (adv p d u v)=adv p d u v:=by
     refine zZ fun j hj=>?_
     rw[yB hj,uQ,Lh,K7]
    rw[ih _ _ (xQ (by omega)) (qJ (by omega)),hz];have aQ:adv p (d+1) (a::u) (b::v)=(a+b)%p::adv p d u v:=by
     simp only[adv,mkv,Jaq,Jn,Jah]
     congr 1
    rw[aQ];split
    ·next g=>
     have g:a+b≥p:=g;have e:(a+b)%p=a+b-p:=by rw[show a+b=(a+b-p)+p from by omega,Uu,Jy (by omega) (by omega)];omega
     grind
    ·next g=>
     have g:¬a+b≥p:=g
     congr 1
     exact(Jy (by omega) (by omega)).symm
end Go.Pl

namespace Go.Pl
open Go Go.Ab Go.Wk Go.Pc
theorem zPZ{α:Type}{m:α→α→α}:∀(c1:List α)(y:Vec)(c2:List α)(u:Vec)(acc:α),c1.length=y.length→img m (c1++c2) (y++u) acc=img m c2 u (img m c1 y acc)
 | [],[],_,_,_,_=>by rfl
 | [],_::_,_,_,_,h=>by simp at h
 |_::_,[],_,_,_,h=>by simp at h
 |c::c1,a::y,c2,u,acc,h=>zPZ c1 y c2 u _ (by grind)
theorem zFl{α β:Type}{S:α→Prop}{m:α→α→α}{n:β→β→β}(φ:α→β)(hS:∀a b,S a→S b→S (m a b))(hm:∀a b,S a→S b→φ (m a b)=n (φ a) (φ b)):∀(cs:List α)(v:Vec)(a:α),(∀c∈cs,S c)→S a→φ (img m cs v a)=img n (cs.map φ) v (φ a)
 | [],v,a,_,_=>by rfl
 |_::_,[],_,_,_=>rfl
 |c::cs,t::v,a,hc,ha=>by
  have mi:=hc c (by simp);have e:∀k a,S a→φ (iter k (fun w=>m w c) a)=iter k (fun w=>n w (φ c)) (φ a)∧S (iter k (fun w=>m w c) a):=by
   intro k
   induction k with
   |zero=>intro a ha;exact⟨rfl,ha⟩
   |succ k ih=>
    intro a ha;have:=ih (m a c) (hS _ _ ha mi);rw[hm a c ha mi]at this;exact this
  show φ (img m cs v (iter t.toNat (fun w=>m w c) a))=img n (cs.map φ) v (iter t.toNat (fun w=>n w (φ c)) (φ a));rw[←(e _ a ha).1];exact zFl φ hS hm cs v _ (by grind) (e _ a ha).2
theorem jT{p:Int}{D:Nat}{r:List Int}(hr:Row p D r):xY p D r (idM D)=r:=by
 conv=>rhs;rw[vC hr.1]
 refine zZ fun j hj=>?_
 have:=hr.2 j hj;have e:∀l,l<D→ent (idM D) l j=if j=l then 1 else 0:=fun l hl=>by rw[ent,zAV hl,yB hj]
 rw[jR (k:=j) hj (by grind),e j hj,if_pos rfl,Lz,sF this]
theorem zFm{p:Int}{D:Nat}{r:List Int}{A B:Mx}(hA:A.length=D):xY p D (xY p D r A) B=xY p D r (PM p D A B):=by
 refine zZ fun j hj=>?_
 have e1:S D (fun l=>at0 (xY p D r A) l*ent B l j)%p=S D (fun l=>S D (fun i=>at0 r i*ent A i l)*ent B l j)%p:=zAe (by grind[xY,yB,Jw,K7]);have e2:S D (fun l=>at0 r l*ent (PM p D A B) l j)%p=S D (fun i=>at0 r i*S D (fun l=>ent A i l*ent B l j))%p:=zAe (by grind[zOg,Jw,K7]);rw[e1,e2]
 congr 1
 have e3:S D (fun l=>S D (fun i=>at0 r i*ent A i l)*ent B l j)=S D (fun l=>S D (fun i=>at0 r i*ent A i l*ent B l j)):=xI (by grind[zMu]);rw[e3,zIg];refine xI fun i _=>?_
 rw[←zCU];exact xI (by grind)
theorem vZ{p:Int}{D:Nat}{v:List Int}(hv:Row p D v):adv p D (zeros D) v=v:=by
 conv=>rhs;rw[vC hv.1]
 refine zZ fun j hj=>?_
 rw[uQ,Lh,sF (hv.2 j hj)]
theorem zAI{p:Int}{D:Nat}{v:List Int}(hv:Row p D v):adv p D v (zeros D)=v:=by
 conv=>rhs;rw[vC hv.1]
 refine zZ fun j hj=>?_
 rw[uQ,H0,sF (hv.2 j hj)]
theorem zTz{p:Int}{D:Nat}{acc v:List Int}{A:Mx}(hl:A.length=D):(mkv D fun j=>(at0 acc j+S A.length fun k=>at0 v k*ent A k j)%p)=adv p D acc (xY p D v A):=by grind[zZ,xY,yB,Jbc]
theorem tN{p:Int}{D:Nat}{u v:List Int}:adv p D u v=adv p D v u:=by grind
theorem zWx{p:Int}{D:Nat}{u v w:List Int}(hv:Row p D v)(hw:Row p D w):adv p D u v=adv p D u w↔v=w:=by
 constructor
 ·intro h
  rw[vC hv.1,vC hw.1];refine zZ fun j hj=>?_
  have e:at0 (adv p D u v) j=at0 (adv p D u w) j:=by rw[h]
  rw[adv,adv,yB hj,yB hj]at e;have h1:=hv.2 j hj;have h2:=hw.2 j hj;have h3:=Int.emod_emod_of_dvd (at0 u j+at0 v j) (Int.dvd_refl p);have e4:(at0 u j+at0 v j-at0 u j)%p=(at0 u j+at0 w j-at0 u j)%p:=by rw[Qk,e,←Qk]
  rw[show at0 u j+at0 v j-at0 u j=at0 v j from by omega,show at0 u j+at0 w j-at0 u j=at0 w j from by omega,sF h1,sF h2]at e4;exact e4
 grind
section
variable {D:Nat}{x:SPr}{m:zB}{T:Mx} (h:Pres x) (hE:ExB x.zA.length D x m T) (hT:∀i,i<T.length→Row m.Prime D (T.getD i []))
 include h hE hT
theorem zA1:∀(d k:Nat),x.zA.length≤k→k+d=x.zA.length+D→suf (exx D x m T) k=tlv m.Prime d
 |0,k,hk,hd=>by rw[vT (by grind[wF])];rfl
 |d+1,k,hk,hd=>by
  have hl:=wF h hE hT;rw[yG (by omega),zA1 d (k+1) (by omega) (by omega),tlv]
  congr 1
  have hP:(exx D x m T).zS.getD k []=exP x.zA.length D x T k:=xN (by omega);have hC:(exx D x m T).zG.getD k []=exC x.zA.length D x m T k:=by
   show(gl (x.zA.length+D) (exC x.zA.length D x m T)).getD k []=_
   grind
  unfold lvl;rw[hP,hC,exP,exC,if_neg (by omega),if_neg (by omega),zCe h hE hT hk (by omega),Lj,show x.zA.length+D-(k+1)=d from by omega]
  congr 1
  rw[unC,wP,gl,Jah,show x.zA.length+D-1-k=d from by omega];refine Qd fun j hj=>?_
  have hj:=Kn.1 hj;show(qN (x.zA.length+D) (k+1+j)).drop (k+1)=xM d j;rw[qN,zIt,zAi,show x.zA.length+D-(k+1)=d from by omega];simp
theorem sN:∀(d k:Nat),k+d=x.zA.length→ ∀v,V (suf (exx D x m T) k) v↔ ∃y u,v=y++u∧V (suf x k) y∧Row m.Prime D u
 |0,k,hk,v=>by
  rw[zA1 h hE hT D k (by omega) (by omega),zDP,vT (x:=x) (k:=k) (by omega)];constructor
  ·intro g;exact⟨[],v,rfl,rfl,g⟩
  ·rintro⟨y,u,rfl,hy,hu⟩
   obtain rfl:y=[]:=hy;exact hu
 |d+1,k,hk,v=>by
  have hl:=wF h hE hT;have ih:=sN d (k+1) (by omega);rw[yG (x:=exx D x m T) (by omega),yG (x:=x) (by omega)];cases v with
  |nil=>
   refine⟨fun g=>g.elim,?_⟩
   rintro⟨y,u,e,hy,hu⟩
   cases y with
   |nil=>exact hy.elim
   |cons a y=>simp at e
  |cons a v=>
   show((0≤a∧a<(lvl (exx D x m T) k).o)∧V (suf (exx D x m T) (k+1)) v)↔_;rw[zBB h hE hT (by omega),ih v];constructor
   ·rintro⟨g,y,u,rfl,hy,hu⟩
    exact⟨a::y,u,rfl,⟨g,hy⟩,hu⟩
   ·rintro⟨y,u,e,hy,hu⟩
    cases y with
    |nil=>exact hy.elim
    |cons b y=>
     simp only[K6,Ja3.injEq]at e;obtain⟨rfl,rfl⟩:=e;exact⟨hy.1,y,u,rfl,hy.2,hu⟩
theorem zFn:∀(d k:Nat),k+d=x.zA.length→ ∀y u r,V (suf x k) y→Row m.Prime D u→Row m.Prime D r→mul (suf (exx D x m T) k) (y++u) (zeros d++r)=y++adv m.Prime D u r
 |0,k,hk,y,u,r,hy,hu,hr=>by have hp:=hE.m.p.pos;rw[vT (x:=x) (k:=k) (by omega)]at hy;obtain rfl:y=[]:=hy;rw[zA1 h hE hT D k (by omega) (by omega)];exact qZ (by omega) D u r hu hr
 |d+1,k,hk,y,u,r,hy,hu,hr=>by
  have hl:=wF h hE hT;rw[yG (x:=x) (by omega)]at hy;cases y with
  |nil=>exact hy.elim
  |cons a y=>
   obtain⟨⟨a0,a1⟩,hy⟩:=hy;change a<at0 x.zA k at a1;rw[yG (x:=exx D x m T) (by omega)];show mul _ (a::(y++u)) (0::(zeros d++r))=_;rw[yZ,zBB h hE hT (by omega),if_neg (by omega)];show(a+0)::mul _ (y++u) (zeros d++r)=_;rw[zFn d (k+1) (by omega) y u r hy hu hr,H0];rfl
theorem uG{k:Nat}(hk:k≤x.zA.length+D):Pc.Ok (suf (exx D x m T) k):=(zFk h hE hT).okAt (by grind[wF])
theorem zOz{d k:Nat}(hk:k+d=x.zA.length):∀(rs:List Vec)(v:Vec)(y u:Vec),(∀r∈rs,Row m.Prime D r)→V (suf x k) y→Row m.Prime D u→img (mul (suf (exx D x m T) k)) (rs.map fun r=>zeros d++r) v (y++u)=y++img (adv m.Prime D) rs v u
 | [],v,y,u,_,_,_=>by rfl
 |_::_,[],_,_,_,_,_=>rfl
 |c::rs,t::v,y,u,hr,hy,hu=>by
  have hp:=hE.m.p.pos;have hc:=hr c (by simp);have e:∀q u,Row m.Prime D u→iter q (fun w=>mul (suf (exx D x m T) k) w (zeros d++c)) (y++u)=y++iter q (fun w=>adv m.Prime D w c) u:=by
   intro q
   induction q with
   |zero=>intro u _;rfl
   |succ q ih=>
    intro u hu;show iter q _ (mul _ (y++u) (zeros d++c))=_;rw[zFn h hE hT d k hk y u c hy hu hc,ih _ (qJ (by omega))];rfl
  show img _ (rs.map fun r=>zeros d++r) v (iter t.toNat (fun w=>mul (suf (exx D x m T) k) w (zeros d++c)) (y++u))=_;rw[e _ _ hu,zOz hk rs v y _ (by grind) hy (vR (S:=Row m.Prime D) (fun _ _=>qJ (by omega)) _ hu)];rfl
theorem zZq{k:Nat}(hk:k<x.zA.length):(gl D fun j=>(m.zF.getD k []).getD j [])=m.zF.getD k []:=by
 have _:=h;have _:=hT;have hl:=(hE.m.mat k hk).1;apply Ky
 grind
def sgG(D:Nat)(x:SPr)(m:zB)(T:Mx)(k:Nat)(y:Vec):Vec:=img (mul (suf (exx D x m T) (k+1))) (eC1 x T k) y (zeros (suf (exx D x m T) (k+1)).length)
theorem tW{k:Nat}:(eC1 x T k).length=x.zA.length-1-k:=by have _:=h;have _:=hE;have _:=hT;grind[eC1]
theorem zQa{k:Nat}(hk:k<x.zA.length):∀c∈eC1 x T k,V (suf (exx D x m T) (k+1)) c:=by intro c hc;have ok:=uG h hE hT (k:=k) (by omega);rw[yG (by grind[wF])]at ok;exact ok.2.2.2.1 c (by grind[zCf])
theorem zBm{k:Nat}(hk:k≤x.zA.length):zeros (suf (exx D x m T) k).length=zeros (x.zA.length-k)++zeros D:=by grind[yQ,wF,zeros,Jk]
theorem zIw{k:Nat}(hk:k<x.zA.length){y:Vec}:V (suf (exx D x m T) (k+1)) (sgG D x m T k y):=by have ok:=uG h hE hT (k:=k+1) (by omega);exact qY (xH ok) _ _ (zQa h hE hT hk) (wS ok)
theorem zCg{k:Nat}(hk:k<x.zA.length){y u:Vec}(hy:V (suf x (k+1)) y)(hu:Row m.Prime D u):
  sig (suf (exx D x m T) (k+1)) (lvl (exx D x m T) k) (y++u)=(sgG D x m T k y).take (x.zA.length-(k+1))++adv m.Prime D ((sgG D x m T k y).drop (x.zA.length-(k+1))) (xY m.Prime D u (m.zF.getD k [])):=by
 have hp:=hE.m.p.pos;have hA:=hE.m.mat k hk;have e7:=vD h (by omega) hy;unfold sig;rw[zCf h hE hT hk,zPZ _ _ _ _ _ (by grind[tW])];show img _ (eC2 x m D k) u (sgG D x m T k y)=_;obtain⟨y1,u1,e,fq,cJ⟩:=(sN h hE hT (x.zA.length-(k+1)) (k+1) (by omega) _).1 (zIw h hE hT hk (y:=y));have gM:=vD h (by omega) fq;rw[e,eC2,zZq h hE hT hk,show x.zA.length-1-k=x.zA.length-(k+1)from by omega,zOz h hE hT (by omega) _ _ _ _ (fun r hr=>?_) fq cJ,zGX (by omega) _ _ _ (by rw[hA.1,hu.1]) (fun i hi=>(hu.2 i (by rw[←hu.1];exact hi)).1) cJ,zTz hA.1,Jp gM,K0 gM];obtain⟨j,hj,rfl⟩:=Ke.1 hr;have fS:=hA.1;have:=hA.2 j (by omega)
 grind
theorem zGY{k:Nat}(hk:k<x.zA.length){u:Vec}(hu:Row m.Prime D u):
  sig (suf (exx D x m T) (k+1)) (lvl (exx D x m T) k) (zeros (x.zA.length-(k+1))++u)=zeros (x.zA.length-(k+1))++xY m.Prime D u (m.zF.getD k []):=by
 have hp:=hE.m.p.pos;have ok:=h.okAt (k:=k+1) (by omega);have hz:=wS ok;rw[yQ]at hz;have e:sgG D x m T k (zeros (x.zA.length-(k+1)))=zeros (x.zA.length-(k+1))++zeros D:=by grind[sgG,qG,zBm]
 rw[zCg h hE hT hk hz hu,e,Jp (yC _),K0 (yC _),vZ (vA (by omega))]
theorem zIx{k:Nat}(hk:k<x.zA.length):∀(q:Nat){u:Vec},Row m.Prime D u→
  iter q (sig (suf (exx D x m T) (k+1)) (lvl (exx D x m T) k)) (zeros (x.zA.length-(k+1))++u)=zeros (x.zA.length-(k+1))++iter q (fun u=>xY m.Prime D u (m.zF.getD k [])) u
 |0,u,_=>rfl
 |q+1,u,hu=>by have hp:=hE.m.p.pos;show iter q _ (sig _ _ _)=_;rw[zGY h hE hT hk hu,zIx hk q (vA (by omega))];rfl
end
end Go.Pl

namespace Go.Pl
open Go Go.Ab Go.Wk Go.Pc
theorem zGf{p:Int}{D:Nat}{A:Mx}(hA:Mat p D A)(hp:2≤p){r:List Int}(hr:Row p D r):∀q,iter q (fun u=>xY p D u A) r=xY p D r (pw (PM p D) (idM D) A q)
 |0=>(jT hr).symm
 |q+1=>by
  have hm:Mat p D (pw (PM p D) (idM D) A q):=vR (S:=Mat p D) (fun _ hB=>zBW (by omega) hB.1) q (tA hp);unfold pw at*
  rw[vH,vH,zGf hA hp hr q];exact zFm hm.1
theorem zT0{p:Int}{D:Nat}(hp:0<p){r:List Int}:iter p.toNat (fun w=>adv p D w r) (zeros D)=zeros D:=by
 rw[zIv hp _ _ (xQ hp)];rw[show zeros D=mkv D fun _=>0 from uA D];refine zZ fun j hj=>?_
 rw[yB hj,Jcx (by omega),Lh,Int.mul_emod_right]
theorem zAJ{p:Int}{D:Nat}{A:Mx}:xY p D (zeros D) A=zeros D:=by
 rw[show zeros D=mkv D fun _=>0 from uA D];refine zZ fun j hj=>?_
 rw[xI (g:=fun _=>0) fun l hl=>by rw[yB hl,Q8],sY,Int.zero_emod]
theorem zRj{p:Int}{D q:Nat}{A:Mx}(hq:q<D)(hA:Mat p D A):xY p D (xM D q) A=A.getD q []:=by
 have hr:=hA.2 q hq
 conv=>rhs;rw[vC hr.1]
 refine zZ fun j hj=>?_
 rw[zAi,jR (k:=q) hq (fun i hi gf=>by rw[yB hi,if_neg gf,Q8]),yB hq,if_pos rfl,Jbj,sF (hr.2 j hj)]
theorem sG{p:Int}{D q:Nat}(hp:2≤p):Row p D (xM D q):=by rw[zAi];exact⟨zY _ _,by grind[yB]⟩
theorem zMH{N D q:Nat}(hq:q<D):xM (N+D) (N+q)=zeros N++xM D q:=by
 rw[zAz (by omega),zAz hq,←Jf]
 grind[zeros,Jk]
def aM(m:zB)(D k:Nat)(v:Vec):Mx:=img (PM m.Prime D) (m.zF.drop k) v (idM D)
theorem zT1{p:Int}{D:Nat}(hp:2≤p):Mon (Mat p D) (PM p D) (idM D):=
 ⟨fun ha _=>zBW (by omega) ha.1,tA (by omega),fun ha hb _=>zMv ha.1 hb.1,fun ha=>zBX ha,fun ha=>zB6 ha⟩
section
variable {D:Nat}{x:SPr}{m:zB}{T:Mx} (h:Pres x) (hE:ExB x.zA.length D x m T) (hT:∀i,i<T.length→Row m.Prime D (T.getD i []))
 include h hE hT
theorem zT2{k:Nat}(hk:k<x.zA.length):(eC1 x T k).map (·.take (x.zA.length-(k+1)))=(lvl x k).cs:=by
 have _:=hE;have _:=hT;have gC:=zA5 h.w hk;apply Ky;intro j
 by_cases g:j<x.zA.length-(k+1)
 ·obtain⟨c,_,_,c3,c4⟩:=zET h hk g
  have hl:=vD h (by omega) c3;have e1:((eC1 x T k).map (·.take (x.zA.length-(k+1))))[j]? =iG (((lvl x k).cs.getD j []++T.getD (base x.zA.length k+j) []).take (x.zA.length-(k+1))):=by simp[eC1,gl,show j<x.zA.length-1-k by omega]
  grind
 ·rw[K4 (by simp[eC1,gl];omega),K4 (by omega)]
theorem yC4{k:Nat}{v:Vec}:Mat m.Prime D (aM m D k v):=by
 have _:=h;have _:=hT;have hp:=hE.m.p.pos;refine qY (fun ha _=>zBW (by omega) ha.1) _ _ (fun c hc=>?_) (tA (by omega));obtain⟨i,hi,rfl⟩:=Ke.1 (Us hc);have:=hE.m.mat i (by rw[←hE.m.len];exact hi)
 grind
theorem zMI{k:Nat}(hk:k<x.zA.length):m.zF.drop k=m.zF.getD k []::m.zF.drop (k+1):=by
 have _:=h;have _:=hT;have hl:=hE.m.len
 grind[Uk]
theorem zWy{k:Nat}(hk:k<x.zA.length){b:Int}{y:Vec}:aM m D k (b::y)=PM m.Prime D (pw (PM m.Prime D) (idM D) (m.zF.getD k []) b.toNat) (aM m D (k+1) y):=by
 have M:=zT1 hE.m.p.pos.1 (D:=D);unfold aM;rw[zMI h hE hT hk];refine qU M (hE.m.mat k hk) fun c hc=>?_
 obtain⟨i,hi,rfl⟩:=Ke.1 (Us hc);have:=hE.m.mat i (by rw[←hE.m.len];exact hi)
 grind
theorem pwM{k q:Nat}(hk:k<x.zA.length):Mat m.Prime D (pw (PM m.Prime D) (idM D) (m.zF.getD k []) q):=by have _:=h;have _:=hT;have _:=hk;have hp:=hE.m.p.pos;exact vR (S:=Mat m.Prime D) (fun _ hB=>zBW (by omega) hB.1) q (tA (by omega))
theorem zQb:∀(d k:Nat),k+d=x.zA.length→ ∀r y v,Row m.Prime D r→V (suf x k) y→Row m.Prime D v→mul (suf (exx D x m T) k) (zeros d++r) (y++v)=y++adv m.Prime D (xY m.Prime D r (aM m D k y)) v
 |0,k,hk,r,y,v,hr,hy,hv=>by
  have hp:=hE.m.p.pos;rw[vT (x:=x) (k:=k) (by omega)]at hy;obtain rfl:y=[]:=hy;rw[zA1 h hE hT D k (by omega) (by omega)];have e:aM m D k []=idM D:=by unfold aM;cases m.zF.drop k<;>rfl
  rw[e,jT hr];exact qZ (by omega) D r v hr hv
 |d+1,k,hk,r,y,v,hr,hy,hv=>by
  have hl:=wF h hE hT;have hp:=hE.m.p.pos;have hA:=hE.m.mat k (by omega);rw[yG (x:=x) (by omega)]at hy;cases y with
  |nil=>exact hy.elim
  |cons b y=>
   obtain⟨⟨b0,b1⟩,hy⟩:=hy;change b<at0 x.zA k at b1;rw[yG (x:=exx D x m T) (by omega)];show mul _ (0::(zeros d++r)) (b::(y++v))=_;have e:=zIx h hE hT (k:=k) (by omega) b.toNat hr;rw[show x.zA.length-(k+1)=d from by omega]at e;rw[yZ,zBB h hE hT (by omega),if_neg (by omega),e,zGf hA (by omega) hr,zQb d (k+1) (by omega) _ y v (vA (by omega)) hy hv,Lh,zWy h hE hT (by omega),←zFm (pwM h hE hT (by omega)).1];rfl
theorem zMJ{k:Nat}(hk:k<x.zA.length)(ih:∀a b,V (suf (exx D x m T) (k+1)) a→V (suf (exx D x m T) (k+1)) b→(mul (suf (exx D x m T) (k+1)) a b).take (x.zA.length-(k+1))=mul (suf x (k+1)) (a.take (x.zA.length-(k+1))) (b.take (x.zA.length-(k+1)))){v:Vec}(hv:V (suf (exx D x m T) (k+1)) v):
  (sig (suf (exx D x m T) (k+1)) (lvl (exx D x m T) k) v).take (x.zA.length-(k+1))=sig (suf x (k+1)) (lvl x k) (v.take (x.zA.length-(k+1))):=by
 have ok:=uG h hE hT (k:=k+1) (by omega);obtain⟨y,u,rfl,hy,hu⟩:=(sN h hE hT (x.zA.length-(k+1)) (k+1) (by omega) _).1 hv;have e7:=vD h (by omega) hy;obtain⟨y1,u1,e,fq,cJ⟩:=(sN h hE hT (x.zA.length-(k+1)) (k+1) (by omega) _).1 (zIw h hE hT hk (y:=y));have gM:=vD h (by omega) fq;rw[zCg h hE hT hk hy hu,Jp (by grind),Jp e7];unfold sgG sig;rw[zFl (S:=V (suf (exx D x m T) (k+1))) (n:=mul (suf x (k+1))) (·.take (x.zA.length-(k+1))) (fun a b=>xH ok) ih _ _ _ (zQa h hE hT hk) (wS ok),zT2 h hE hT hk,zBm h hE hT (by omega),Jp (yC _),yQ]
theorem zKL:∀(d k:Nat),k+d=x.zA.length→ ∀a b,V (suf (exx D x m T) k) a→V (suf (exx D x m T) k) b→(mul (suf (exx D x m T) k) a b).take d=mul (suf x k) (a.take d) (b.take d)
 |0,k,hk,a,b,_,_=>by rw[vT (x:=x) (by omega),Ka];rfl
 |d+1,k,hk,a,b,ha,hb=>by
  have hl:=wF h hE hT;have ih:=zKL d (k+1) (by omega);have hd:d=x.zA.length-(k+1):=by omega
  have ok:=uG h hE hT (k:=k+1) (by omega);have ok0:=uG h hE hT (k:=k) (by omega);rw[hd]at ih;have hs:=fun v hv=>zMJ h hE hT (k:=k) (by omega) ih (v:=v) hv
  rw[yG (x:=exx D x m T) (by omega)]at ha hb ok0 ⊢
  rw[yG (x:=x) (by omega)];cases a with
  |nil=>rfl
  |cons a u=>
  cases b with
  |nil=>rfl
  |cons b v=>
   have ei:∀q u,V (suf (exx D x m T) (k+1)) u→(iter q (sig (suf (exx D x m T) (k+1)) (lvl (exx D x m T) k)) u).take d=iter q (sig (suf x (k+1)) (lvl x k)) (u.take d)∧V (suf (exx D x m T) (k+1)) (iter q (sig (suf (exx D x m T) (k+1)) (lvl (exx D x m T) k)) u):=by
    intro q
    induction q with
    |zero=>intro u hu;exact⟨rfl,hu⟩
    |succ q ihq=>
     intro u hu;have:=ihq _ (zCJ ok0 hu);rw[hd,hs u hu]at this;rw[hd];exact this
   obtain⟨aJ,eZ⟩:=ei b.toNat u ha.2;have hm:=xH ok eZ hb.2;rw[yZ,Lf,Lf,yZ,zBB h hE hT (by omega),show(lvl x k).o=at0 x.zA k from rfl];have e1:=ih _ _ eZ hb.2;rw[←hd,aJ]at e1;split
   ·rw[Lf]
    have e2:=ih _ _ ok0.2.1 hm;rw[←hd,e1]at e2;rw[e2]
    congr 2
    have ht:=(h.tl k (by omega)).1;have hw:=jZ ht (by omega);have hwl:(lvl x k).w.length=x.zA.length-(k+1):=vD h (by omega) hw;rw[zIu h hE hT (by omega),Jp (by omega)]
   grind
end
end Go.Pl

namespace Go.Pl
open Go Go.Ab Go.Wk Go.Pc
theorem zRk{p:Int}{d:Nat}(hp:2≤p):∀c∈wP d,Row p d c:=fun c hc=>by obtain⟨k,_,rfl⟩:=Jl.1 hc;exact sG hp
theorem zWz{p:Int}(hp:2≤p){d:Nat}{w:Vec}(hw:Row p d w):sig (tlv p d) ⟨p,zeros d,wP d⟩ w=w:=by
 unfold sig;rw[zGW,zDx (S:=Row p d) (m':=adv p d) (by grind[qZ]) (fun _ _ _ _=>qJ (by omega)) (wP d) w _ (zRk hp) (xQ (by omega)),zGX (by omega) (wP d) w _ (by rw[hw.1];simp[wP]) (fun i hi=>(hw.2 i (by rw[←hw.1];exact hi)).1) (xQ (by omega))]
 conv=>rhs;rw[vC hw.1]
 refine zZ fun j hj=>?_
 have eY:(wP d).length=d:=by simp[wP]
 rw[eY,uQ,Lh,jR (k:=j) hj (fun k hk gf=>by rw[zDy hk hj,if_neg (Ne.symm gf),Kw]),zDy hj hj,if_pos rfl,Lz,sF (hw.2 j hj)]
structure LCn (x e:SPr) (k:Nat):Prop where
 c1:∀j,k+1≤j→j<x.zA.length→pw (mul (suf e (k+1))) (zeros (suf e (k+1)).length) ((lvl e k).cs.getD (j-(k+1)) []) (at0 e.zA j).toNat=sig (suf e (k+1)) (lvl e k) ((e.zS.getD j []).drop (k+1))
 c2:∀i,k+1≤i→i<x.zA.length→ ∀j,i+1≤j→j<x.zA.length→
  mul (suf e (k+1)) ((lvl e k).cs.getD (j-(k+1)) []) ((lvl e k).cs.getD (i-(k+1)) [])=mul (suf e (k+1)) ((lvl e k).cs.getD (i-(k+1)) []) (sig (suf e (k+1)) (lvl e k) (((e.zG.getD i []).getD (j-(i+1)) []).drop (k+1)))
 c3:sig (suf e (k+1)) (lvl e k) (lvl e k).w=(lvl e k).w
 c4:∀j,k+1≤j→j<x.zA.length→mul (suf e (k+1)) (lvl e k).w (iter (lvl e k).o.toNat (sig (suf e (k+1)) (lvl e k)) (xM (e.zA.length-(k+1)) (j-(k+1))))=mul (suf e (k+1)) (xM (e.zA.length-(k+1)) (j-(k+1))) (lvl e k).w
section
variable {D:Nat}{x:SPr}{m:zB}{T:Mx} (h:Pres x) (hE:ExB x.zA.length D x m T) (hT:∀i,i<T.length→Row m.Prime D (T.getD i []))
 include h hE hT
theorem zT3{k j:Nat}(hk:k<x.zA.length)(hj:x.zA.length≤j)(h2:j<x.zA.length+D):(lvl (exx D x m T) k).cs.getD (j-(k+1)) []=zeros (x.zA.length-(k+1))++(m.zF.getD k []).getD (j-x.zA.length) []:=by
 rw[zCf h hE hT hk,J2,Ja (by grind[tW]),tW h hE hT,eC2]
 grind
theorem zIy{k j:Nat}(hk:k<x.zA.length)(hj:k+1≤j)(h2:j<x.zA.length):(lvl (exx D x m T) k).cs.getD (j-(k+1)) []=(lvl x k).cs.getD (j-(k+1)) []++T.getD (base x.zA.length k+(j-(k+1))) []:=by
 rw[zCf h hE hT hk,J2,Jx (by grind[tW]),eC1]
 grind
theorem zDQ{i j:Nat}(hi:i<j)(hj:j<x.zA.length):Row m.Prime D (T.getD (base x.zA.length i+(j-(i+1))) []):=by have _:=h;have hn:=hE.hn;have hb:=zAX x.zA.length (by omega) i (by omega);exact hT _ (by rw[hE.t];omega)
theorem zCh{i:Nat}(hi:i<x.zA.length):Row m.Prime D (T.getD i []):=by have _:=h;have hn:=hE.hn;have hb:=wT x.zA.length (by omega);exact hT _ (by rw[hE.t];omega)
theorem zEu{k j:Nat}(hj:k≤j)(h2:j<x.zA.length):((exx D x m T).zS.getD j []).drop (k+1)=(x.zS.getD j []).drop (k+1)++T.getD j []:=by have t1:=(h.tl j h2).1.1.1;have _:=hE;have _:=hT;have hP:(exx D x m T).zS.getD j []=exP x.zA.length D x T j:=xN (by omega);rw[hP,exP,if_pos h2,Kr (by omega)]
theorem zZr{k j:Nat}(hk:k<x.zA.length)(hj:x.zA.length≤j)(h2:j<x.zA.length+D):((exx D x m T).zS.getD j []).drop (k+1)=zeros (x.zA.length-(k+1))++zeros D:=by
 have _:=h;have _:=hE;have _:=hT;have hP:(exx D x m T).zS.getD j []=exP x.zA.length D x T j:=xN (by omega);rw[hP,exP,if_neg (by omega),Lj]
 grind[zeros,Jk]
theorem zIz{i:Nat}(hi:i<x.zA.length+D):(exx D x m T).zG.getD i []=exC x.zA.length D x m T i:=by
 have _:=h;have _:=hE;have _:=hT;show(gl (x.zA.length+D) (exC x.zA.length D x m T)).getD i []=_
 grind
theorem zGg{k i j:Nat}(hk:k≤i)(hi:i<j)(hj:j<x.zA.length):(((exx D x m T).zG.getD i []).getD (j-(i+1)) []).drop (k+1)=((x.zG.getD i []).getD (j-(i+1)) []).drop (k+1)++T.getD (base x.zA.length i+(j-(i+1))) []:=by obtain⟨_,t2,t3⟩:=h.tl i (by omega);have t:=(t3 (j-(i+1)) (by omega)).1.1;rw[zIz h hE hT (by omega),exC,if_pos (by omega),xN (by omega),exF,if_pos (by omega),Kr (by omega)]
theorem zZs{k i j:Nat}(hk:k<x.zA.length)(hi:i<x.zA.length)(hj:x.zA.length≤j)(h2:j<x.zA.length+D):(((exx D x m T).zG.getD i []).getD (j-(i+1)) []).drop (k+1)=zeros (x.zA.length-(k+1))++(m.zF.getD i []).getD (j-x.zA.length) []:=by rw[zIz h hE hT (by omega),exC,if_pos (by omega),xN (by omega),exF,if_neg (by omega),Kr (by simp;omega),Lj,show j-(i+1)-(x.zA.length-1-i)=j-x.zA.length from by omega];rfl
theorem zZt{k i j:Nat}(hk:k<x.zA.length)(hi:x.zA.length≤i)(hj:i<j)(h2:j<x.zA.length+D):(((exx D x m T).zG.getD i []).getD (j-(i+1)) []).drop (k+1)=zeros (x.zA.length-(k+1))++xM D (j-x.zA.length):=by
 rw[zIz h hE hT (by omega),exC,if_neg (by omega),unC,xN (by omega),qN,zIt,←zMH (by omega),zAi]
 grind
theorem zW0(hr:zCv x m D){k:Nat}(hk:k<x.zA.length):pw (PM m.Prime D) (idM D) (m.zF.getD k []) (at0 x.zA k).toNat=aM m D (k+1) (lvl x k).w∧
  ∀i,k<i→i<x.zA.length→PM m.Prime D (m.zF.getD i []) (m.zF.getD k [])=PM m.Prime D (m.zF.getD k []) (aM m D (k+1) ((lvl x k).cs.getD (i-(k+1)) [])):=by
 have R:=zPX h hE.m hr (x.zA.length-k) k (by omega);rw[yG hk,zMI h hE hT hk]at R;obtain⟨r1,r2,_⟩:=R;refine⟨r1,fun i h1 h2=>?_⟩;have gC:=zA5 h.w hk;have hl:=hE.m.len;refine r2 (i-(k+1)) _ _ ?_ ?_
 all_goals grind
theorem zv{k:Nat}(hk:k≤x.zA.length):V (suf x k) (zeros (x.zA.length-k)):=by
 have _:=hE;have _:=hT;have:=wS (h.okAt hk)
 grind[yQ]
theorem zT4(hr:zCv x m D){k:Nat}(hk:k<x.zA.length)(hc:LCn x (exx D x m T) k):LC (exx D x m T) k:=by
 have hp:=hE.m.p.pos;have hl:=wF h hE hT;have hA:=hE.m.mat k hk;obtain⟨r1,r2⟩:=zW0 h hE hT hr hk;have hz:=zv h hE hT (k:=k+1) (by omega);have aZ:Row m.Prime D (zeros D):=xQ (by omega);have hw:=(zZe h hk).2;refine⟨fun j h1 h2=>?_,fun i h1 h2 j h3 h4=>?_,hc.c3,fun j h1 h2=>?_⟩
 ·rw[hl]at h2
  rcases Jj j x.zA.length with g|g
  ·exact hc.c1 j h1 g
  ·have hq:=hA.2 (j-x.zA.length) (by omega)
   rw[zT3 h hE hT hk g h2,zZr h hE hT hk g h2,zGY h hE hT hk aZ,zAJ,zCe h hE hT g h2,zBm h hE hT (by omega)];have e:=zOz h hE hT (d:=x.zA.length-(k+1)) (k:=k+1) (by omega) [(m.zF.getD k []).getD (j-x.zA.length) []] [m.Prime] _ _ (by grind) hz aZ;have e2:iter m.Prime.toNat (fun w=>adv m.Prime D w ((m.zF.getD k []).getD (j-x.zA.length) [])) (zeros D)=zeros D:=zT0 (by omega);unfold pw;refine e.trans ?_;show zeros _++iter m.Prime.toNat (fun w=>adv m.Prime D w ((m.zF.getD k []).getD (j-x.zA.length) [])) (zeros D)=_;rw[e2]
 ·rw[hl]at h4
  rcases Jj j x.zA.length with g|g
  ·exact hc.c2 i h1 (by omega) j h3 g
  ·have hq:=hA.2 (j-x.zA.length) (by omega)
   rw[zT3 h hE hT hk g h4];rcases Jj i x.zA.length with gi|gi
   ·have hAi:=hE.m.mat i gi
    have da:=hAi.2 (j-x.zA.length) (by omega);have pg:=(zAc h hk h1 gi).2.2;have ht:=zDQ h hE hT (i:=k) (j:=i) (by omega) gi;rw[zIy h hE hT hk h1 gi,zZs h hE hT hk gi g h4,zGY h hE hT hk da,zQb h hE hT _ (k+1) (by omega) _ _ _ hq pg ht,zFn h hE hT _ (k+1) (by omega) _ _ _ pg ht (vA (by omega)),tN]
    congr 2
    rw[←zBV (by rw[hA.1];omega),←zBV (by rw[hAi.1];omega),r2 i (by omega) gi]
   ·have da:=hA.2 (i-x.zA.length) (by omega)
    rw[zT3 h hE hT hk gi (by omega),zZt h hE hT hk gi (by omega) h4,zGY h hE hT hk (sG (by omega)),zRj (by omega) hA,zFn h hE hT _ (k+1) (by omega) _ _ _ hz hq da,zFn h hE hT _ (k+1) (by omega) _ _ _ hz da hq,tN]
 ·rw[hl]at h2 ⊢
  rcases Jj j x.zA.length with g|g
  ·have:=hc.c4 j h1 g
   grind
  ·have ht:=zCh h hE hT hk
   have hu:Row m.Prime D (xM D (j-x.zA.length)):=sG (by omega);rw[show x.zA.length+D-(k+1)=x.zA.length-(k+1)+D from by omega,show j-(k+1)=x.zA.length-(k+1)+(j-x.zA.length)from by omega,zMH (by omega),zBB h hE hT hk,zIx h hE hT hk _ hu,zIu h hE hT hk,zGf hA (by omega) hu,r1,zQb h hE hT _ (k+1) (by omega) _ _ _ hu hw ht,zFn h hE hT _ (k+1) (by omega) _ _ _ hw ht (vA (by omega)),tN]
theorem zZu{k:Nat}(hk:x.zA.length≤k)(h2:k<x.zA.length+D):LC (exx D x m T) k:=by
 have hp:=hE.m.p.pos;have hl:=wF h hE hT;have hs:=zA1 h hE hT (x.zA.length+D-(k+1)) (k+1) (by omega) (by omega);have hL:=zA1 h hE hT (x.zA.length+D-(k+1)+1) k (by omega) (by omega);rw[yG (by omega),hs,tlv]at hL;have bU:lvl (exx D x m T) k=⟨m.Prime,zeros (x.zA.length+D-(k+1)),wP (x.zA.length+D-(k+1))⟩:=(Ja3.inj hL).1
 generalize hd:x.zA.length+D-(k+1)=d at*
 have eu:∀w,Row m.Prime d w→sig (tlv m.Prime d) ⟨m.Prime,zeros d,wP d⟩ w=w:=by grind[zWz]
 have bJ:Row m.Prime d (zeros d):=xQ (by omega);have dE:∀j,(wP d).getD j []=if j<d then xM d j else[]:=fun j=>by
  by_cases g:j<d
  ·rw[if_pos g,zIa g]
  ·rw[if_neg g,J2,K4 (by grind[wP])];rfl
 refine⟨fun j h1 h3=>?_,fun i h1 h3 j h4 h5=>?_,?_,fun j h1 h3=>?_⟩
 ·rw[hl]at h3
  have hP:(exx D x m T).zS.getD j []=exP x.zA.length D x T j:=xN (by omega);rw[hs,bU,zCe h hE hT (by omega) h3,hP,exP,if_neg (by omega),Lj,hd];show pw (mul (tlv m.Prime d)) (zeros (tlv m.Prime d).length) ((wP d).getD (j-(k+1)) []) m.Prime.toNat=sig (tlv m.Prime d) ⟨m.Prime,zeros d,wP d⟩ (zeros d);rw[eu _ bJ,dE,if_pos (by omega),zGW];have e:=zDx (S:=Row m.Prime d) (m':=adv m.Prime d) (fun a b ha hb=>qZ (by omega) d a b ha hb) (fun _ _ _ _=>qJ (by omega)) [xM d (j-(k+1))] [m.Prime] (zeros d) (by grind[sG]) bJ;exact e.trans (zT0 (by omega))
 ·rw[hl]at h3 h5
  rw[hs,bU,zIz h hE hT h3,exC,if_neg (by omega),unC,xN (by omega),qN,zIt,hd];have e:(mkv d fun q=>if k+1+q=i+1+(j-(i+1))then(1:Int)else 0)=xM d (j-(k+1)):=by
   rw[zAi]
   grind
  rw[e,eu _ (sG (by omega))];show mul (tlv m.Prime d) ((wP d).getD (j-(k+1)) []) ((wP d).getD (i-(k+1)) [])=mul (tlv m.Prime d) ((wP d).getD (i-(k+1)) []) (xM d (j-(k+1)));rw[dE,dE,if_pos (by omega),if_pos (by omega),qZ (by omega) d _ _ (sG (by omega)) (sG (by omega)),qZ (by omega) d _ _ (sG (by omega)) (sG (by omega)),tN]
 ·grind
 ·rw[hl]at h3 ⊢
  have hu:Row m.Prime d (xM d (j-(k+1))):=sG (by omega);rw[hs,bU,hd,zIq (eu _ hu),qZ (by omega) d _ _ bJ hu,qZ (by omega) d _ _ hu bJ,tN]
theorem zI0:∀(d k:Nat),x.zA.length≤k→k+d=x.zA.length+D→wO (suf (exx D x m T) k)
 |0,k,hk,hd=>by rw[vT (by grind[wF])];simp only[wO]
 |d+1,k,hk,hd=>(zAd (zFk h hE hT) (by rw[wF h hE hT];omega)).2 ⟨zI0 d (k+1) (by omega) (by omega),by grind[zZu]⟩
theorem zKM(hr:zCv x m D):wO (suf (exx D x m T) 0)↔ ∀k,k<x.zA.length→LCn x (exx D x m T) k:=by
 have hl:=wF h hE hT;have key:∀(d k:Nat),k+d=x.zA.length→(wO (suf (exx D x m T) k)↔ ∀i,k≤i→i<x.zA.length→LCn x (exx D x m T) i):=by
  intro d
  induction d with
  |zero=>grind[zI0]
  |succ d ih=>
   intro k hk;rw[zAd (zFk h hE hT) (by omega),ih (k+1) (by omega)];constructor
   ·rintro⟨g1,g2⟩ i h1 h2
    rcases Jj k i with g|g
    ·grind
    ·obtain rfl:i=k:=by omega
     exact⟨fun j a b=>g2.c1 j a (by omega),fun i a b j c d=>g2.c2 i a (by omega) j c (by omega),g2.c3,fun j a b=>g2.c4 j a (by omega)⟩
   grind[zT4]
 simp_all
end
end Go.Pl

namespace Go.Pl
open Go Go.Ab Go.Wk Go.Pc
def prE(x:SPr)(k:Nat)(w:Vec):zJ:=⟨fv k (w.take (x.zA.length-k)),w.drop (x.zA.length-k)⟩
theorem jA{x:SPr}{k:Nat}{y u:Vec}(hy:y.length=x.zA.length-k):prE x k (y++u)=⟨fv k y,u⟩:=by grind[prE]
theorem zCi{α α' β:Type}{body:α×α'×Int→Option ((α×α'×Int)⊕(α×α'))}{S:β→Prop}(e1:β→α)(e2:β→α')(g:β→β)(n:Int)(hn:0≤n)(hS:∀a,S a→S (g a))
  (h:∀a(i:Nat),S a→(i:Int)<n→body (e1 a,e2 a,(i:Int))=iG (.inl (e1 (g a),e2 (g a),((i+1:Nat):Int))))(he:∀a,S a→body (e1 a,e2 a,n)=iG (.inr (e1 a,e2 a))){a:β}(ha:S a):
  zI body (e1 a,e2 a,0)=iG (e1 (iter n.toNat g a),e2 (iter n.toNat g a)):=by
 have ei:∀k,S (iter k g a):=fun k=>vR (S:=S) hS k ha
 exact zX (body:=body) (r:=(e1 (iter n.toNat g a),e2 (iter n.toNat g a))) (fun i=>(e1 (iter i g a),e2 (iter i g a),(i:Int))) n.toNat (by grind[vH]) (by grind)
structure Mv (D n:Nat) (m0 m:zB):Prop where
 pr:m0.Prime=m.Prime
 mv:∀k,k<n→ ∀u,Row m.Prime D u→f_W m0 u (k:Int)=iG (xY m.Prime D u (m.zF.getD k []))
theorem Mv.self{n D:Nat}{m:zB}(hE:MOk n m D):Mv D n m m:=by
 refine⟨rfl,fun k hk u hu=>?_⟩;have h3:=hE.d3;have h1:=hE.d1;have hA:=hE.mat k hk;have eY:=hu.1;have hl:=hE.len;unfold f_W;have e1:zLq m u (k:Int) ([],0)=iG (.inl (xY m.Prime D u (m.zF.getD k []),(D:Int))):=by
  unfold zLq;simp only
  rw[iM (by omega),zK,hE.d,zC (by omega) (by omega),bs,Lh];have p8:yD u 0 (D:Int)=iG u:=by
   unfold yD;rw[if_pos (by omega)]
   congr 1
   rw[show((D:Int)).toNat=D from by omega,show(0:Int).toNat=0 from rfl,Ge,Jt (by omega)]
  rw[p8,bs,yO [] (by omega),bs,zBY hE.p (by omega) hu hA,bs,yI (by grind[xY,zY]),bs,bs,Jv]
 have e2:zLq m u (k:Int) (xY m.Prime D u (m.zF.getD k []),(D:Int))=iG (.inr (xY m.Prime D u (m.zF.getD k []))):=by
  unfold zLq
  simp_all
 grind[xK]
section
variable {D:Nat}{x:SPr}{m0 m:zB}{T:Mx} (h:Pres x) (hE:ExB x.zA.length D x m T) (hT:∀i,i<T.length→Row m.Prime D (T.getD i []))
def zT5(D:Nat)(x:SPr)(m0 m:zB)(T:Mx)(k:Nat)(g:yA→Int→zJ→zJ→Option zJ):Prop:=
 ∀a b,V (suf (exx D x m T) k) a→V (suf (exx D x m T) k) b→g ⟨x,m0,T⟩ k (prE x k a) (prE x k b)=iG (prE x k (mul (suf (exx D x m T) k) a b))
def zT6(D:Nat)(x:SPr)(m0 m:zB)(T:Mx)(k:Nat)(g:yA→Int→zJ→Option zJ):Prop:=
 ∀v,V (suf (exx D x m T) (k+1)) v→g ⟨x,m0,T⟩ k (prE x (k+1) v)=iG (prE x (k+1) (sig (suf (exx D x m T) (k+1)) (lvl (exx D x m T) k) v))
 include h hE hT
theorem zQc{k i j:Nat}(hk:k≤i)(hi:i<j)(hj:j<x.zA.length):zLp ⟨x,m0,T⟩ (i:Int) (j:Int)=iG (prE x (k+1) ((((exx D x m T).zG.getD i []).getD (j-(i+1)) []).drop (k+1)))∧V (suf (exx D x m T) (k+1)) ((((exx D x m T).zG.getD i []).getD (j-(i+1)) []).drop (k+1)):=by
 have hn:=hE.hn;have hb:=zAX x.zA.length (by omega) i (by omega);have ht:=hE.t;obtain⟨_,t2,t3⟩:=h.tl i (by omega);have tt:=t3 (j-(i+1)) (by omega);obtain⟨e1,e2⟩:=zCR (k:=k+1) tt (by omega) (by omega);have hl:=vD h (by omega) e2;have gC:=h.cl;have hr:=zDQ h hE hT hi hj;refine⟨?_,?_⟩
 ·rw[zGg h hE hT hk hi hj,jA hl,←e1]
  unfold zLp;dsimp only
  rw[yO [] (by omega),bs,zC (by omega) (by omega),bs,zC (by omega) (by omega),bs,show(j:Int)-(i:Int)-1=((j-(i+1):Nat):Int)from by omega,yO [] (by omega),bs,zOr x.zA.length (by omega) j hj i hi,bs,yO [] (by omega),bs,show j-i-1=j-(i+1)from by omega]
 ·rw[zGg h hE hT hk hi hj]
  exact(sN h hE hT (x.zA.length-(k+1)) (k+1) (by omega) _).2 ⟨_,_,rfl,e2,hr⟩
theorem zFo{k j:Nat}(hk:k<j)(hj:j<x.zA.length):zLp ⟨x,m0,T⟩ (k:Int) (j:Int)=iG (prE x (k+1) ((lvl (exx D x m T) k).cs.getD (j-(k+1)) []))∧V (suf (exx D x m T) (k+1)) ((lvl (exx D x m T) k).cs.getD (j-(k+1)) []):=by
 have e:(lvl (exx D x m T) k).cs.getD (j-(k+1)) []=(((exx D x m T).zG.getD k []).getD (j-(k+1)) []).drop (k+1):=by
  have hC:((exx D x m T).zG.getD k []).length=x.zA.length+D-1-k:=by rw[zIz h hE hT (by omega),exC,if_pos (by omega),wN]
  simp only[lvl];rw[J2,K5,J3 (by omega),J2 (l:=(exx D x m T).zG.getD k []),J3 (by omega)];rfl
 rw[e];exact zQc h hE hT (Jh k) hk hj
theorem zKN{k j:Nat}(hk:k≤j)(hj:j<x.zA.length):zOX ⟨x,m0,T⟩ (j:Int)=iG (prE x (k+1) (((exx D x m T).zS.getD j []).drop (k+1)))∧V (suf (exx D x m T) (k+1)) (((exx D x m T).zS.getD j []).drop (k+1)):=by
 have hn:=hE.hn;have hb:=wT x.zA.length (by omega);have ht:=hE.t;have cX:=h.pl;have t1:=(h.tl j hj).1;obtain⟨e1,e2⟩:=zCR (k:=k+1) t1 (by omega) (by omega);have hl:=vD h (by omega) e2;have hr:=zCh h hE hT hj;refine⟨?_,?_⟩
 ·rw[zEu h hE hT hk hj,jA hl,←e1]
  grind[zOX,yO]
 ·rw[zEu h hE hT hk hj]
  exact(sN h hE hT (x.zA.length-(k+1)) (k+1) (by omega) _).2 ⟨_,_,rfl,e2,hr⟩
theorem zKO{k:Nat}(hk:k≤x.zA.length)(h0:0<x.zA.length):zNz ⟨x,m0,T⟩=iG (prE x k (zeros (suf (exx D x m T) k).length)):=by
 have hn:=hE.hn;have h3:=hE.m.d3;have hb:=wT x.zA.length (by omega);have ht:=hE.t;have hr:=zCh h hE hT h0;have c9:=hr.1;unfold zNz;dsimp only
 have e0:ixO T 0=iG (T.getD 0 []):=by grind[yO]
 rw[iM (by omega),zK,e0,bs,xC (by omega),bs,xC (by omega),bs,zBm h hE hT hk,jA (yC _),c9,fv]
 grind[zeros,Jk]
theorem zT7{u v:Vec}(hu:Row m.Prime D u)(hv:Row m.Prime D v):f_z m.Prime u 1 v=iG (adv m.Prime D u v):=by
 have _:=h;have _:=hT;have h3:=hE.m.d3;rw[tT hE.m.p hu hv (by omega) (by omega)]
 congr 1
 exact zZ (by simp)
theorem prV{k:Nat}(hk:k≤x.zA.length){w:Vec}(hw:V (suf (exx D x m T) k) w):∃y u,w=y++u∧V (suf x k) y∧Row m.Prime D u∧prE x k w=⟨fv k y,u⟩∧y.length=x.zA.length-k:=by obtain⟨y,u,rfl,hy,hu⟩:=(sN h hE hT (x.zA.length-k) k (by omega) _).1 hw;have e7:=vD h hk hy;exact⟨y,u,rfl,hy,hu,jA e7,e7⟩
variable (hM:Mv D x.zA.length m0 m)
 include hM
theorem zMK{k:Nat}(hk:k<x.zA.length){g:yA→Int→zJ→zJ→Option zJ}(hg:zT5 D x m0 m T (k+1) g):zT6 D x m0 m T k (b_h g):=by
 intro v hv;have hn:=hE.hn;have hp:=hE.m.p.pos;have ok:=uG h hE hT (k:=k+1) (by omega);have hA:=hE.m.mat k hk;obtain⟨y,u,rfl,hy,hu,cv,e7⟩:=prV h hE hT (k:=k+1) (by omega) hv;obtain⟨_,hyr⟩:=zEj h.os (x.zA.length-(k+1)) (k+1) y (by omega) hy;have gC:=tW h hE hT (k:=k);have gK:=zQa h hE hT hk;have hcg:∀i,i<x.zA.length-(k+1)→(eC1 x T k).getD i []=(lvl (exx D x m T) k).cs.getD i []:=fun i hi=>by rw[zCf h hE hT hk,J2,J2,Jx (by omega)]
 obtain⟨A,dq⟩:∃A:Nat→Vec,∀i,A i=img (mul (suf (exx D x m T) (k+1))) ((eC1 x T k).take i) (y.take i) (zeros (suf (exx D x m T) (k+1)).length):=⟨_,fun _=>rfl⟩;have hI:∀i,V (suf (exx D x m T) (k+1)) (A i):=fun i=>by rw[dq];exact qY (xH ok) _ _ (by grind) (wS ok)
 have hA0:A 0=zeros (suf (exx D x m T) (k+1)).length:=by grind[img]
 have hAn:A (x.zA.length-(k+1))=sgG D x m T k y:=by rw[dq,Jt (by omega),Jt (by omega)];rfl
 rw[cv];unfold b_h;dsimp only
 rw[zKO h hE hT (k:=k+1) (by omega) (by omega),bs,zC (by omega) (by omega),bs,cs];have:=zX (body:=zVr g ⟨x,m0,T⟩ k ⟨fv (k+1) y,u⟩) (r:=((prE x (k+1) (sgG D x m T k y)).x,(prE x (k+1) (sgG D x m T k y)).v))
  (fun i=>((prE x (k+1) (A i)).x,(prE x (k+1) (A i)).v,((k+1+i:Nat):Int))) (x.zA.length-(k+1)) (fun i hi=>by
  have hr:=hyr i hi;obtain⟨c1,c2⟩:=zFo h hE hT (k:=k) (j:=k+1+i) (by omega) (by omega);rw[show k+1+i-(k+1)=i from by omega]at c1 c2;unfold zVr;dsimp only
  rw[iM (by grind[zCP]),zK];rw[zCi (S:=V (suf (exx D x m T) (k+1))) (fun w=>(prE x (k+1) w).x) (fun w=>(prE x (k+1) w).v) (fun w=>mul (suf (exx D x m T) (k+1)) w ((lvl (exx D x m T) k).cs.getD i [])) (at0 y i) hr.1 (by grind[xH]) (fun w q hw hq=>by
   unfold zXg;dsimp only
   rw[fv,zMn (by omega),bs,iM hq,zK,zC (by omega) (by omega),bs,c1,bs,cs,show(zJ.mk (prE x (k+1) w).x (prE x (k+1) w).v)=prE x (k+1) w from rfl,hg w _ hw c2,bs,zC (by omega) (by omega),bs,cs]) (fun w hw=>by
   unfold zXg;dsimp only
   rw[fv,zMn (by omega),bs,iL (by omega),zM]) (hI i),bs,zC (by omega) (by omega),bs,cs]
  rw[dq (i+1),zB4 _ _ _ _ (by omega) (by omega),hcg i hi,←dq];rfl) (by
  unfold zVr;dsimp only
  rw[iL (by grind[zCP]),zM,hAn])
 rw[hA0,Qh]at this;rw[this,bs,hM.mv k hk _ hu,bs];obtain⟨y1,u1,e,fq,cJ,uf,mI⟩:=prV h hE hT (k:=k+1) (by omega) (zIw h hE hT hk (y:=y));rw[zCg h hE hT hk hy hu,uf,e,Jp mI,K0 mI,jA mI];dsimp only
 rw[hM.pr,zT7 h hE hT cJ (vA (by omega)),bs]
theorem zT8{k:Nat}(hk:k<x.zA.length){g:yA→Int→zJ→zJ→Option zJ}{gi:yA→Int→zJ→Option zJ}(hg:zT5 D x m0 m T (k+1) g)(hi:zT6 D x m0 m T k gi):zT5 D x m0 m T k (b_d gi g):=by
 have _:=hM;intro a b ha hb;have hn:=hE.hn;have hl:=wF h hE hT;have hp:=(h.os.2 k hk).pos;have ok:=uG h hE hT (k:=k+1) (by omega);have ok0:=uG h hE hT (k:=k) (by omega);obtain⟨al,au,rfl,bC,hau,fQ,pP⟩:=prV h hE hT (k:=k) (by omega) ha;obtain⟨bl,bu,rfl,cR,hbu,bS,hbll⟩:=prV h hE hT (k:=k) (by omega) hb;rw[fQ,bS];rw[yG (x:=x) hk]at bC cR;rw[yG (x:=exx D x m T) (by omega)]at ok0 ⊢
 obtain⟨a0,a,rfl⟩:∃a0 a',al=a0::a':=by cases al with|nil=>grind|cons p q=>simp
 obtain⟨b0,b,rfl⟩:∃a0 a',bl=a0::a':=by cases bl with|nil=>grind|cons p q=>simp
 obtain⟨⟨a1,a2⟩,bC⟩:=bC;obtain⟨⟨b1,b2⟩,cR⟩:=cR;change a0<at0 x.zA k at a2;change b0<at0 x.zA k at b2;have iC:=vD h (by omega) bC;have iz:=vD h (by omega) cR;have hA:=(sN h hE hT (x.zA.length-(k+1)) (k+1) (by omega) (a++au)).2 ⟨_,_,rfl,bC,hau⟩;have hB:=(sN h hE hT (x.zA.length-(k+1)) (k+1) (by omega) (b++bu)).2 ⟨_,_,rfl,cR,hbu⟩;have own:∀u,V (suf x (k+1)) u→f_B (fv (k+1) u)=iG (fv (k+1) u):=by grind[qV,zCP]
 have own':∀(c:Int) u,V (suf x (k+1)) u→f_B (fv k (c::u))=iG (fv k (c::u)):=fun c u hu=>qV (by have:=vD h (by omega) hu;rw[fv,J5,yC,J7];omega)
 have eu:∀u,V (suf (exx D x m T) (k+1)) u→V (suf (exx D x m T) (k+1)) (sig (suf (exx D x m T) (k+1)) (lvl (exx D x m T) k) u):=by grind[zCJ]
 have ei:V (suf (exx D x m T) (k+1)) (iter b0.toNat (sig (suf (exx D x m T) (k+1)) (lvl (exx D x m T) k)) (a++au)):=vR eu _ hA;have ea:(⟨fv (k+1) a,au⟩:zJ)=prE x (k+1) (a++au):=(jA iC).symm;have eb:(⟨fv (k+1) b,bu⟩:zJ)=prE x (k+1) (b++bu):=(jA iz).symm;unfold b_d;dsimp only
 rw[iL (by omega),zM,own' _ _ bC,bs,own' _ _ cR,bs,zCN,bs,zCN,bs,J8,zDL,zDL,zBU,zBU];have e1:zI (zR9 gi ⟨x,m0,T⟩ k ⟨fv k (b0::b),bu⟩) (zeros (k+1)++a,au,0)=iG ((prE x (k+1) (iter b0.toNat (sig (suf (exx D x m T) (k+1)) (lvl (exx D x m T) k)) (a++au))).x,(prE x (k+1) (iter b0.toNat (sig (suf (exx D x m T) (k+1)) (lvl (exx D x m T) k)) (a++au))).v):=by
  have:=zCi (body:=zR9 gi ⟨x,m0,T⟩ k ⟨fv k (b0::b),bu⟩) (S:=V (suf (exx D x m T) (k+1))) (fun w=>(prE x (k+1) w).x) (fun w=>(prE x (k+1) w).v) (sig (suf (exx D x m T) (k+1)) (lvl (exx D x m T) k)) b0 b1 eu (fun w q hw hq=>by
   unfold zR9;dsimp only
   rw[zCN,bs,iM hq,zK,show(zJ.mk (prE x (k+1) w).x (prE x (k+1) w).v)=prE x (k+1) w from rfl,hi w hw,bs,zC (by omega) (by omega),bs,cs]) (fun w hw=>by
   unfold zR9;dsimp only
   rw[zCN,bs,iL (by omega),zM]) hA
  grind
 rw[e1,bs,zC (by omega) (by omega),bs,cs];dsimp only
 rw[show zeros (k+1)++b=fv (k+1) b from rfl,eb,show(zJ.mk (prE x (k+1) (iter b0.toNat (sig (suf (exx D x m T) (k+1)) (lvl (exx D x m T) k)) (a++au))).x (prE x (k+1) (iter b0.toNat (sig (suf (exx D x m T) (k+1)) (lvl (exx D x m T) k)) (a++au))).v)=prE x (k+1) (iter b0.toNat (sig (suf (exx D x m T) (k+1)) (lvl (exx D x m T) k)) (a++au))from rfl,hg _ _ ei hB,bs,bs,bs,zC (by omega) (by omega),bs,yN hk,bs];have hm:=xH ok ei hB;show _=iG (prE x k (mul _ (a0::(a++au)) (b0::(b++bu))));rw[yZ,zBB h hE hT hk]
 generalize mul (suf (exx D x m T) (k+1)) (iter b0.toNat (sig (suf (exx D x m T) (k+1)) (lvl (exx D x m T) k)) (a++au)) (b++bu)=r at hm ⊢
 have fin:∀(c:Int) w,V (suf (exx D x m T) (k+1)) w→((f_B (prE x (k+1) w).x).bind fun r22=>(ixO r22 (k:Int)).bind fun _=>iG (zJ.mk (r22.set k c) (prE x (k+1) w).v))=iG (prE x k (c::w)):=fun c w hw=>by
  obtain⟨w1,w2,rfl,h1,h2,h3,h4⟩:=prV h hE hT (k:=k+1) (by omega) hw;have e3:prE x k (c::(w1++w2))=⟨fv k (c::w1),w2⟩:=by grind[jA]
  rw[h3,e3];dsimp only
  rw[own _ h1,bs,fv,←zBU,zCN,bs,zDL]
 by_cases hge:a0+b0≥at0 x.zA k
 ·obtain⟨p1,p2⟩:=zKN h hE hT (k:=k) (j:=k) (Jh k) hk
  change V (suf (exx D x m T) (k+1)) (lvl (exx D x m T) k).w at p2;rw[iM hge,zK,if_pos hge,bs,zC (by omega) (by omega),bs,bs,p1,bs];have e4:=hg _ _ p2 hm;rw[show(((exx D x m T).zS.getD k []).drop (k+1))=(lvl (exx D x m T) k).w from rfl,e4,bs]
  grind[xH]
 ·rw[iL hge,zM,if_neg hge]
  grind
theorem zEv:∀(d k:Nat),k+d=x.zA.length→(∀q,2*d+1≤q→zT5 D x m0 m T k (zOZ q))∧(1≤d→ ∀q,2*d≤q→zT6 D x m0 m T k (zOY q))
 |0,k,hk=>by
  refine⟨fun q hq a b ha hb=>?_,fun h=>by omega⟩;have hn:=hE.hn;have hp:=hE.m.p.pos;obtain⟨q,rfl⟩:∃m',q=m'+1:=⟨q-1,by omega⟩;rw[zA1 h hE hT D k (by omega) (by omega)]at ha hb ⊢
  have ml:=(zDP _ _).1 ha;have f7:=(zDP _ _).1 hb;show b_d _ _ ⟨x,m0,T⟩ k _ _=_;unfold b_d;have e:∀w:Vec,prE x k w=⟨zeros k,w⟩:=fun w=>by rw[prE,show x.zA.length-k=0 from by omega,Ka,Ge,fv,Je]
  rw[e,e,e];dsimp only
  rw[iM (by omega),zK,xC (by omega),bs,hM.pr,zT7 h hE hT ml f7,bs,qZ (by omega) D _ _ ml f7,show x.zA.length=k from by omega];rfl
 |d+1,k,hk=>by
  obtain⟨h1,h2⟩:=zEv d (k+1) (by omega);have hI:∀q,2*(d+1)≤q→zT6 D x m0 m T k (zOY q):=fun q hq=>by obtain⟨q,rfl⟩:∃m',q=m'+1:=⟨q-1,by omega⟩;exact zMK h hE hT hM (by omega) (h1 q (by omega))
  refine⟨fun q hq=>?_,fun _=>hI⟩;obtain⟨q,rfl⟩:∃m',q=m'+1:=⟨q-1,by omega⟩;exact zT8 h hE hT hM (by omega) (h1 q (by omega)) (hI q (by omega))
theorem zI1{k:Nat}(hk:k≤x.zA.length):zT5 D x m0 m T k f_d:=fun a b ha hb=>
 zB1 (2*(x.zA.length-k)+1) fun q hq=>(zEv h hE hT hM (x.zA.length-k) k (by omega)).1 q hq a b ha hb
theorem zAY{k:Nat}(hk:k<x.zA.length):zT6 D x m0 m T k f_h:=fun v hv=>
 zB1 (2*(x.zA.length-k)) fun q hq=>(zEv h hE hT hM (x.zA.length-k) k (by omega)).2 (by omega) q hq v hv
end
end Go.Pl

namespace Go.Pl
open Go Go.Ab Go.Wk Go.Pc
structure GR (p:Int) (D:Nat) (Z:Vec→Prop) (L:Mx) (N:Nat) (C:Prop):Prop where
 len:L.length≤N
 row:∀r∈L,Row p D r
 iff:(∀r∈L,Z r)↔C
theorem GR.nil{p:Int}{D N:Nat}{Z:Vec→Prop}:GR p D Z [] N True:=⟨by simp,by simp,by simp⟩
theorem GR.app{p:Int}{D N M:Nat}{Z:Vec→Prop}{L L':Mx}{C C':Prop}(h:GR p D Z L N C)(h':GR p D Z L' M C'):GR p D Z (L++L') (N+M) (C∧C'):=by
 refine⟨by have:=h.len;have:=h'.len;grind,fun r hr=>?_,?_⟩
 ·rcases Jd.1 hr with g|g
  ·exact h.row r g
  ·exact h'.row r g
 ·rw[←h.iff,←h'.iff]
  grind
theorem GR.one{p:Int}{D:Nat}{Z:Vec→Prop}{r:List Int}{C:Prop}(hr:Row p D r)(h:Z r↔C):GR p D Z [r] 1 C:=
 ⟨by simp,by grind,by grind⟩
theorem GR.to{p:Int}{D N M:Nat}{Z:Vec→Prop}{L:Mx}{C C':Prop}(h:GR p D Z L N C)(hN:N≤M)(hc:C↔C'):GR p D Z L M C':=⟨by have:=h.len;omega,h.row,h.iff.trans hc⟩
def c1E(e:SPr)(k j:Nat):Prop:=pw (mul (suf e (k+1))) (zeros (suf e (k+1)).length) ((lvl e k).cs.getD (j-(k+1)) []) (at0 e.zA j).toNat=sig (suf e (k+1)) (lvl e k) ((e.zS.getD j []).drop (k+1))
def c2E(e:SPr)(k i j:Nat):Prop:=mul (suf e (k+1)) ((lvl e k).cs.getD (j-(k+1)) []) ((lvl e k).cs.getD (i-(k+1)) [])=mul (suf e (k+1)) ((lvl e k).cs.getD (i-(k+1)) []) (sig (suf e (k+1)) (lvl e k) (((e.zG.getD i []).getD (j-(i+1)) []).drop (k+1)))
def c4E(e:SPr)(k j:Nat):Prop:=mul (suf e (k+1)) (lvl e k).w (iter (lvl e k).o.toNat (sig (suf e (k+1)) (lvl e k)) (xM (e.zA.length-(k+1)) (j-(k+1))))=mul (suf e (k+1)) (xM (e.zA.length-(k+1)) (j-(k+1))) (lvl e k).w
def c1Q(Q:Nat→Vec→Vec→Prop)(e:SPr)(k j:Nat):Prop:=Q (k+1) (pw (mul (suf e (k+1))) (zeros (suf e (k+1)).length) ((lvl e k).cs.getD (j-(k+1)) []) (at0 e.zA j).toNat) (sig (suf e (k+1)) (lvl e k) ((e.zS.getD j []).drop (k+1)))
def c2Q(Q:Nat→Vec→Vec→Prop)(e:SPr)(k i j:Nat):Prop:=Q (k+1) (mul (suf e (k+1)) ((lvl e k).cs.getD (j-(k+1)) []) ((lvl e k).cs.getD (i-(k+1)) [])) (mul (suf e (k+1)) ((lvl e k).cs.getD (i-(k+1)) []) (sig (suf e (k+1)) (lvl e k) (((e.zG.getD i []).getD (j-(i+1)) []).drop (k+1))))
def c4Q(Q:Nat→Vec→Vec→Prop)(e:SPr)(k j:Nat):Prop:=Q (k+1) (mul (suf e (k+1)) (lvl e k).w (iter (lvl e k).o.toNat (sig (suf e (k+1)) (lvl e k)) (xM (e.zA.length-(k+1)) (j-(k+1))))) (mul (suf e (k+1)) (xM (e.zA.length-(k+1)) (j-(k+1))) (lvl e k).w)
structure LCQ (Q:Nat→Vec→Vec→Prop) (x e:SPr) (k:Nat):Prop where
 c1:∀j,k+1≤j→j<x.zA.length→c1Q Q e k j
 c2:∀i,k+1≤i→i<x.zA.length→ ∀j,i+1≤j→j<x.zA.length→c2Q Q e k i j
 c3:Q (k+1) (sig (suf e (k+1)) (lvl e k) (lvl e k).w) (lvl e k).w
 c4:∀j,k+1≤j→j<x.zA.length→c4Q Q e k j
section
variable {D:Nat}{x:SPr}{m0 m:zB}{T:Mx} (h:Pres x) (hE:ExB x.zA.length D x m T) (hT:∀i,i<T.length→Row m.Prime D (T.getD i []))
 include h hE hT
theorem zCj{k:Nat}(hk:k≤x.zA.length){a b:Vec}(ha:V (suf (exx D x m T) k) a)(hb:V (suf (exx D x m T) k) b):(mul (suf (exx D x m T) k) a b).take (x.zA.length-k)=mul (suf x k) (a.take (x.zA.length-k)) (b.take (x.zA.length-k)):=by grind[zKL]
theorem zEw{k:Nat}(hk:k<x.zA.length){v:Vec}(hv:V (suf (exx D x m T) (k+1)) v):(sig (suf (exx D x m T) (k+1)) (lvl (exx D x m T) k) v).take (x.zA.length-(k+1))=sig (suf x (k+1)) (lvl x k) (v.take (x.zA.length-(k+1))):=
 by grind[zMJ,zKL]
theorem zGh{k:Nat}(hk:k<x.zA.length){v:Vec}(hv:V (suf (exx D x m T) (k+1)) v):V (suf (exx D x m T) (k+1)) (sig (suf (exx D x m T) (k+1)) (lvl (exx D x m T) k) v):=by
 have gB:=uG h hE hT (k:=k) (by omega);rw[yG (x:=exx D x m T) (by grind[wF])]at gB
 grind[zCJ]
theorem zKP{k:Nat}(hk:k<x.zA.length):∀(q:Nat){v:Vec},V (suf (exx D x m T) (k+1)) v→(iter q (sig (suf (exx D x m T) (k+1)) (lvl (exx D x m T) k)) v).take (x.zA.length-(k+1))=iter q (sig (suf x (k+1)) (lvl x k)) (v.take (x.zA.length-(k+1)))
 |0,_,_=>rfl
 |q+1,v,hv=>by have:=zKP hk q (zGh h hE hT hk hv);rw[zEw h hE hT hk hv]at this;exact this
theorem zW1{k:Nat}(hk:k≤x.zA.length):(zeros (suf (exx D x m T) k).length).take (x.zA.length-k)=zeros (suf x k).length:=by grind[zBm,yC,yQ]
theorem zXR{k:Nat}(hk:k≤x.zA.length){c:Vec}(hc:V (suf (exx D x m T) k) c)(q:Nat):(pw (mul (suf (exx D x m T) k)) (zeros (suf (exx D x m T) k).length) c q).take (x.zA.length-k)=pw (mul (suf x k)) (zeros (suf x k).length) (c.take (x.zA.length-k)) q:=by have ok:=uG h hE hT (k:=k) (by omega);have:=zFl (S:=V (suf (exx D x m T) k)) (n:=mul (suf x k)) (·.take (x.zA.length-k)) (fun a b=>xH ok) (by grind[zCj]) [c] [(q:Int)] (zeros (suf (exx D x m T) k).length) (by grind) (wS ok);simp only[Jn,U2,img,J8]at this;rw[zW1 h hE hT hk]at this;exact this
section
variable {k:Nat} (hk:k<x.zA.length)
 include hk
theorem zJR{j:Nat}(h1:k+1≤j)(h2:j<x.zA.length):((lvl (exx D x m T) k).cs.getD (j-(k+1)) []).take (x.zA.length-(k+1))=(lvl x k).cs.getD (j-(k+1)) []:=by rw[zIy h hE hT hk h1 h2,Jp (vD h (by omega) (zAc h hk h1 h2).2.2)]
theorem zI2{j:Nat}(h1:k≤j)(h2:j<x.zA.length):(((exx D x m T).zS.getD j []).drop (k+1)).take (x.zA.length-(k+1))=(x.zS.getD j []).drop (k+1):=by
 have t1:=(h.tl j h2).1.1.1
 grind[zEu]
theorem zT9{i j:Nat}(h1:k+1≤i)(h2:i<j)(h3:j<x.zA.length):((((exx D x m T).zG.getD i []).getD (j-(i+1)) []).drop (k+1)).take (x.zA.length-(k+1))=((x.zG.getD i []).getD (j-(i+1)) []).drop (k+1):=by rw[zGg h hE hT (by omega) h2 h3,Jp (vD h (by omega) (zTg h hk h1 h2 h3).2.2)]
theorem zTA{j:Nat}(h1:k+1≤j)(h2:j<x.zA.length):xM ((exx D x m T).zA.length-(k+1)) (j-(k+1))=xM (x.zA.length-(k+1)) (j-(k+1))++zeros D:=by
 rw[wF h hE hT,zAz (by omega),zAz (by omega),Jf,K6]
 grind[zeros,Jk]
end
variable (hM:Mv D x.zA.length m0 m) {Z:Vec→Prop}{Q:Nat→Vec→Vec→Prop} (hZ:∀k,k≤x.zA.length→ ∀a b,V (suf (exx D x m T) k) a→V (suf (exx D x m T) k) b→a.take (x.zA.length-k)=b.take (x.zA.length-k)→(Z (vW m.Prime D (a.drop (x.zA.length-k)) (-1) (b.drop (x.zA.length-k)))↔Q k a b))
 include hM hZ
theorem zKQ{k:Nat}(hk:k≤x.zA.length){a b:Vec}(ha:V (suf (exx D x m T) k) a)(hb:V (suf (exx D x m T) k) b)(e:a.take (x.zA.length-k)=b.take (x.zA.length-k)):∃r,zN0 ⟨x,m0,T⟩ (prE x k a) (prE x k b)=iG r∧Row m.Prime D r∧(Z r↔Q k a b):=by
 have h7:=hE.m.p.pos;have h3:=hE.m.d3;obtain⟨y,u,rfl,hy,hu,cv,e7⟩:=prV h hE hT hk ha;obtain⟨z,v,rfl,hz,hv,ue,pW⟩:=prV h hE hT hk hb;have mH:=hZ k hk _ _ ha hb e;rw[K0 e7,K0 pW]at mH;unfold zN0;rw[cv,ue];dsimp only
 rw[hM.pr,zC (by omega) (by omega),bs,tT hE.m.p hu hv (by omega) (by omega),bs,zEn];exact⟨_,rfl,zAf hE.m.p,mH⟩
section
variable {k:Nat} (hk:k<x.zA.length) (hc:LC x k)
 include hk
 include hc
theorem yC5{j:Nat}(h1:k+1≤j)(h2:j<x.zA.length){L0 L:Mx}{N:Nat}{C:Prop}(hL:GR m.Prime D Z L N C)(hN:N≤1000){f:Mx→Option (Mx×Int⊕Mx)}:∃L',((zNz ⟨x,m0,T⟩).bind fun r2=>
  (zI (zRA ⟨x,m0,T⟩ (k:Int) (L0,(j:Int))) (r2.x,r2.v,0)).bind fun r8=>
  (zOX ⟨x,m0,T⟩ (j:Int)).bind fun r9=>
  (f_h ⟨x,m0,T⟩ (k:Int) r9).bind fun r10=>
  (zN0 ⟨x,m0,T⟩ (zJ.mk r8.1 r8.2) r10).bind fun r11=>
  (xT L [r11]).bind f)=f L'∧GR m.Prime D Z L' (N+1) (C∧c1Q Q (exx D x m T) k j):=by
 have ok:=uG h hE hT (k:=k+1) (by omega);have hn:=hE.hn;have hp:=(h.os.2 j h2).pos;have hz:=wS ok;obtain⟨c1,c2⟩:=zFo h hE hT (k:=k) (j:=j) (by omega) h2;obtain⟨p1,p2⟩:=zKN h hE hT (k:=k) (j:=j) (by omega) h2;have hA:=zI1 h hE hT hM (k:=k+1) (by omega);have hI:=zAY h hE hT hM hk;have i8:zI (zRA ⟨x,m0,T⟩ (k:Int) (L0,(j:Int))) ((prE x (k+1) (zeros (suf (exx D x m T) (k+1)).length)).x,(prE x (k+1) (zeros (suf (exx D x m T) (k+1)).length)).v,0)=iG ((prE x (k+1) (pw (mul (suf (exx D x m T) (k+1))) (zeros (suf (exx D x m T) (k+1)).length) ((lvl (exx D x m T) k).cs.getD (j-(k+1)) []) (at0 x.zA j).toNat)).x,(prE x (k+1) (pw (mul (suf (exx D x m T) (k+1))) (zeros (suf (exx D x m T) (k+1)).length) ((lvl (exx D x m T) k).cs.getD (j-(k+1)) []) (at0 x.zA j).toNat)).v):=
  zCi (S:=V (suf (exx D x m T) (k+1))) (fun w=>(prE x (k+1) w).x) (fun w=>(prE x (k+1) w).v) (fun w=>mul (suf (exx D x m T) (k+1)) w ((lvl (exx D x m T) k).cs.getD (j-(k+1)) [])) (at0 x.zA j) (by omega) (by grind[xH]) (fun w q hw hq=>by
   unfold zRA;dsimp only
   rw[yN h2,bs,iM hq,zK,zC (by omega) (by omega),bs,c1,bs,cs,show(zJ.mk (prE x (k+1) w).x (prE x (k+1) w).v)=prE x (k+1) w from rfl,hA w _ hw c2,bs,zC (by omega) (by omega),bs,cs]) (fun w hw=>by
   simp_all[zRA,yN]) hz
 have ud:V (suf (exx D x m T) (k+1)) (pw (mul (suf (exx D x m T) (k+1))) (zeros (suf (exx D x m T) (k+1)).length) ((lvl (exx D x m T) k).cs.getD (j-(k+1)) []) (at0 x.zA j).toNat):=vR (by grind[xH]) _ hz;obtain⟨r,r1,r2,r3⟩:=zKQ h hE hT hM hZ (k:=k+1) (by omega) ud (zGh h hE hT hk p2) (by rw[zXR h hE hT (by omega) c2,zEw h hE hT hk p2,zJR h hE hT hk h1 h2,zI2 h hE hT hk (by omega) h2];exact hc.c1 j h1 h2)
 have dg:=hL.len;refine⟨L++[r],?_,hL.app (GR.one r2 (r3.trans ?_))⟩
 ·rw[zKO h hE hT (k:=k+1) (by omega) (by omega),bs,i8,bs,p1,bs,hI _ p2,bs]
  dsimp only
  rw[r1,bs,yI (by simp;omega),bs]
 ·unfold c1Q;rw[tF h hE hT h2]
theorem yC6{j:Nat}(h1:k+1≤j)(h2:j<x.zA.length){L0 L:Mx}{N:Nat}{C:Prop}(hL:GR m.Prime D Z L N C)(hN:N≤1000):∃L',zI (zRB ⟨x,m0,T⟩ (k:Int) (L0,(j:Int))) (L,((j+1:Nat):Int))=iG L'∧GR m.Prime D Z L' (N+(x.zA.length-(j+1))) (C∧ ∀j2,j+1≤j2→j2<x.zA.length→c2Q Q (exx D x m T) k j j2):=by
 have ok:=uG h hE hT (k:=k+1) (by omega);have hn:=hE.hn;have hA:=zI1 h hE hT hM (k:=k+1) (by omega);have hI:=zAY h hE hT hM hk;refine uP (fun i(s:Mx×Int)=>s.2=((j+1+i:Nat):Int)∧GR m.Prime D Z s.1 (N+i) (C∧ ∀j2,j+1≤j2→j2<j+1+i→c2Q Q (exx D x m T) k j j2)) (x.zA.length-(j+1)) (fun i s hi ⟨hs,hg⟩=>?_) (fun s ⟨hs,hg⟩=>?_) ⟨rfl,hL.to (by omega) (by grind)⟩
 ·left
  obtain⟨L1,s2⟩:=s;dsimp only at hs hg;subst hs;have g2:j+1+i<x.zA.length:=by omega
  obtain⟨a1,a2⟩:=zFo h hE hT (k:=k) (j:=j) (by omega) h2;obtain⟨b1,b2⟩:=zFo h hE hT (k:=k) (j:=j+1+i) (by omega) g2;obtain⟨d1,d2⟩:=zQc h hE hT (k:=k) (i:=j) (j:=j+1+i) (by omega) (by omega) g2;have hs:=zGh h hE hT hk d2;obtain⟨r,r1,r2,r3⟩:=zKQ h hE hT hM hZ (k:=k+1) (by omega) (xH ok b2 a2) (xH ok a2 hs) (by rw[zCj h hE hT (by omega) b2 a2,zCj h hE hT (by omega) a2 hs,zEw h hE hT hk d2,zJR h hE hT hk h1 h2,zJR h hE hT hk (by omega) g2,zT9 h hE hT hk h1 (by omega) g2];exact hc.c2 j h1 h2 (j+1+i) (by omega) g2)
  have dg:=hg.len;refine⟨(L1++[r],((j+1+i+1:Nat):Int)),?_,rfl,(hg.app (GR.one r2 r3)).to (by omega) ?_⟩
  ·unfold zRB
   dsimp only
   rw[iM (by omega),zK,a1,bs,b1,bs,d1,bs,hI _ d2,bs,zC (by omega) (by omega),bs,cs,hA _ _ b2 a2,bs,bs,hA _ _ a2 hs,bs,r1,bs,yI (by simp;omega),bs,zC (by omega) (by omega),bs,cs]
  ·constructor
   ·rintro⟨⟨g1,g3⟩,g4⟩
    refine⟨g1,fun j2 e1 e2=>?_⟩;rcases Jj j2 (j+1+i)with e|e
    ·grind
    ·obtain rfl:j2=j+1+i:=by omega
     exact g4
   ·rintro⟨g1,g3⟩
    exact⟨by grind,g3 (j+1+i) (by omega) (by omega)⟩
 ·obtain⟨L1,s2⟩:=s
  dsimp only at hs hg;subst hs;refine⟨L1,?_,hg.to (Jh _) ?_⟩
  ·unfold zRB
   grind
  grind
theorem yC7:∃L',zI (zVs ⟨x,m0,T⟩ (k:Int)) ([],((k+1:Nat):Int))=iG L'∧GR m.Prime D Z L' 100 (∀j,k+1≤j→j<x.zA.length→c1Q Q (exx D x m T) k j∧ ∀j2,j+1≤j2→j2<x.zA.length→c2Q Q (exx D x m T) k j j2):=by
 have hn:=hE.hn;refine uP (fun i(s:Mx×Int)=>s.2=((k+1+i:Nat):Int)∧GR m.Prime D Z s.1 (7*i) (∀j,k+1≤j→j<k+1+i→c1Q Q (exx D x m T) k j∧ ∀j2,j+1≤j2→j2<x.zA.length→c2Q Q (exx D x m T) k j j2)) (x.zA.length-(k+1)) (fun i s hi ⟨hs,hg⟩=>?_) (fun s ⟨hs,hg⟩=>?_) ⟨rfl,(GR.nil (N:=0)).to (by omega) (by grind)⟩
 ·left
  obtain⟨L1,s2⟩:=s;dsimp only at hs hg;subst hs;have g2:k+1+i<x.zA.length:=by omega
  obtain⟨L2,e2,hg2⟩:=yC5 h hE hT hM hZ hk hc (j:=k+1+i) (by omega) g2 (L0:=L1) hg (by omega) (f:=fun v12=>(rng (((k+1+i:Nat):Int)+1)).bind fun v13=>
   (zI (zRB ⟨x,m0,T⟩ (k:Int) (L1,((k+1+i:Nat):Int))) (v12,v13)).bind fun r25=>
   (rng (((k+1+i:Nat):Int)+1)).bind fun v26=>iG (.inl (r25,v26)))
  obtain⟨L3,e3,hg3⟩:=yC6 h hE hT hM hZ hk hc (j:=k+1+i) (by omega) g2 (L0:=L1) hg2 (by omega);refine⟨(L3,((k+1+i+1:Nat):Int)),?_,rfl,hg3.to (by omega) ?_⟩
  ·unfold zVs
   dsimp only
   rw[iM (by omega),zK,e2,zC (by omega) (by omega),bs,cs,e3,bs,bs]
  grind
 ·obtain⟨L1,s2⟩:=s
  dsimp only at hs hg;subst hs;refine⟨L1,?_,hg.to (by omega) ?_⟩
  ·unfold zVs
   grind
  grind
theorem zTB{j:Nat}(h1:k+1≤j)(h2:j<x.zA.length):∃r,zNz ⟨x,m0,T⟩=iG r∧ixO r.x (j:Int)=iG 0∧r.x.set j 1=(prE x (k+1) (xM (x.zA.length-(k+1)) (j-(k+1))++zeros D)).x∧r.v=(prE x (k+1) (xM (x.zA.length-(k+1)) (j-(k+1))++zeros D)).v:=by
 have _:=hM;have _:=hZ;have _:=hc;have hn:=hE.hn;have eY:(xM (x.zA.length-(k+1)) (j-(k+1))).length=x.zA.length-(k+1):=by rw[zAi,zY]
 refine⟨_,zKO h hE hT (k:=k+1) (by omega) (by omega),?_,?_,?_⟩
 ·rw[zBm h hE hT (by omega),jA (yC _)]
  dsimp only
  simp only[fv,zeros,Jk];rw[vS,Kf,if_pos (by omega)]
 ·rw[zBm h hE hT (by omega),jA (yC _),jA eY]
  dsimp only
  have e1:fv (k+1) (zeros (x.zA.length-(k+1)))=zeros j++0::zeros (x.zA.length-(k+1)-(j-(k+1)+1)):=by
   simp only[fv,zeros];rw[←Ju,Jk,Jk]
   grind
  rw[e1,zDL,fv,zAz (by omega),←Jf]
  grind[zeros,Jk]
 grind[zBm,jA,yC]
theorem yC8{L:Mx}{N:Nat}{C:Prop}(hL:GR m.Prime D Z L N C)(hN:N≤1000):∃L',zI (zRC ⟨x,m0,T⟩ (k:Int) (prE x (k+1) (((exx D x m T).zS.getD k []).drop (k+1)))) (L,((k+1:Nat):Int))=iG L'∧GR m.Prime D Z L' (N+(x.zA.length-(k+1))) (C∧ ∀j,k+1≤j→j<x.zA.length→c4Q Q (exx D x m T) k j):=by
 have hn:=hE.hn;have hpk:=(h.os.2 k hk).pos;have h7:=hE.m.p.pos;have ok:=uG h hE hT (k:=k+1) (by omega);have hA:=zI1 h hE hT hM (k:=k+1) (by omega);have hI:=zAY h hE hT hM hk;obtain⟨p1,p2⟩:=zKN (m0:=m0) h hE hT (k:=k) (j:=k) (Jh k) hk;change V (suf (exx D x m T) (k+1)) (lvl (exx D x m T) k).w at p2;change∃L',zI (zRC ⟨x,m0,T⟩ (k:Int) (prE x (k+1) (lvl (exx D x m T) k).w)) (L,((k+1:Nat):Int))=iG L'∧_;have dF:(lvl (exx D x m T) k).w.take (x.zA.length-(k+1))=(lvl x k).w:=zI2 h hE hT hk (Jh k) hk;have ho:(lvl (exx D x m T) k).o=at0 x.zA k:=zBB h hE hT hk;refine uP (fun i(s:Mx×Int)=>s.2=((k+1+i:Nat):Int)∧GR m.Prime D Z s.1 (N+i) (C∧ ∀j,k+1≤j→j<k+1+i→c4Q Q (exx D x m T) k j)) (x.zA.length-(k+1)) (fun i s hi ⟨hs,hg⟩=>?_) (fun s ⟨hs,hg⟩=>?_) ⟨rfl,hL.to (by omega) (by grind)⟩
 ·left
  obtain⟨L1,s2⟩:=s;dsimp only at hs hg;subst hs;have g2:k+1+i<x.zA.length:=by omega
  obtain⟨r33,z1,z2,z3,z4⟩:=zTB h hE hT hM hZ hk hc (j:=k+1+i) (by omega) g2;have hue:=zTA h hE hT hk (j:=k+1+i) (by omega) g2;have hux:V (suf x (k+1)) (xM (x.zA.length-(k+1)) (k+1+i-(k+1))):=by
   have:=zCI (h.okAt (k:=k+1) (by omega)) (j:=k+1+i-(k+1)) (by grind[yQ])
   grind[yQ]
  have eY:=vD h (by omega) hux;have bL:V (suf (exx D x m T) (k+1)) (xM (x.zA.length-(k+1)) (k+1+i-(k+1))++zeros D):=(sN h hE hT (x.zA.length-(k+1)) (k+1) (by omega) _).2 ⟨_,_,rfl,hux,xQ (by omega)⟩;have ei:V (suf (exx D x m T) (k+1)) (iter (at0 x.zA k).toNat (sig (suf (exx D x m T) (k+1)) (lvl (exx D x m T) k)) (xM (x.zA.length-(k+1)) (k+1+i-(k+1))++zeros D)):=vR (fun w hw=>zGh h hE hT hk hw) _ bL;have i8:zI (zVt ⟨x,m0,T⟩ (k:Int)) ((prE x (k+1) (xM (x.zA.length-(k+1)) (k+1+i-(k+1))++zeros D)).x,(prE x (k+1) (xM (x.zA.length-(k+1)) (k+1+i-(k+1))++zeros D)).v,0)=iG ((prE x (k+1) (iter (at0 x.zA k).toNat (sig (suf (exx D x m T) (k+1)) (lvl (exx D x m T) k)) (xM (x.zA.length-(k+1)) (k+1+i-(k+1))++zeros D))).x,(prE x (k+1) (iter (at0 x.zA k).toNat (sig (suf (exx D x m T) (k+1)) (lvl (exx D x m T) k)) (xM (x.zA.length-(k+1)) (k+1+i-(k+1))++zeros D))).v):=
   zCi (S:=V (suf (exx D x m T) (k+1))) (fun w=>(prE x (k+1) w).x) (fun w=>(prE x (k+1) w).v) (sig (suf (exx D x m T) (k+1)) (lvl (exx D x m T) k)) (at0 x.zA k) (by omega) (fun w hw=>zGh h hE hT hk hw) (fun w q hw hq=>by
    unfold zVt;dsimp only
    rw[yN hk,bs,iM hq,zK,show(zJ.mk (prE x (k+1) w).x (prE x (k+1) w).v)=prE x (k+1) w from rfl,hI w hw,bs,zC (by omega) (by omega),bs,cs]) (fun w hw=>by
    simp_all[zVt,yN]) bL
  obtain⟨r,r1,r2,r3⟩:=zKQ h hE hT hM hZ (k:=k+1) (by omega) (xH ok p2 ei) (xH ok bL p2) (by rw[zCj h hE hT (by omega) p2 ei,zCj h hE hT (by omega) bL p2,zKP h hE hT hk _ bL,dF,Jp eY];exact hc.c4 (k+1+i) (by omega) g2)
  have dg:=hg.len;refine⟨(L1++[r],((k+1+i+1:Nat):Int)),?_,rfl,(hg.app (GR.one r2 r3)).to (by omega) ?_⟩
  ·unfold zRC
   dsimp only
   rw[iM (by omega),zK,z1,bs,z2,bs,J8,z3,z4,i8,bs,zC (by omega) (by omega),bs,cs];dsimp only
   have e1:=hA _ _ p2 ei;have e2:=hA _ _ bL p2;rw[show∀w,(zJ.mk (prE x (k+1) w).x (prE x (k+1) w).v)=prE x (k+1) w from fun _=>rfl,show∀w,(zJ.mk (prE x (k+1) w).x (prE x (k+1) w).v)=prE x (k+1) w from fun _=>rfl,e1,bs,bs,e2,bs,r1,bs,yI (by simp;omega),bs,zC (by omega) (by omega),bs,cs]
  ·have e4:c4Q Q (exx D x m T) k (k+1+i)↔Q (k+1) (mul (suf (exx D x m T) (k+1)) (lvl (exx D x m T) k).w (iter (at0 x.zA k).toNat (sig (suf (exx D x m T) (k+1)) (lvl (exx D x m T) k)) (xM (x.zA.length-(k+1)) (k+1+i-(k+1))++zeros D))) (mul (suf (exx D x m T) (k+1)) (xM (x.zA.length-(k+1)) (k+1+i-(k+1))++zeros D) (lvl (exx D x m T) k).w):=by
    grind[c4Q]
   rw[←e4];constructor
   ·grind
   grind
 ·obtain⟨L1,s2⟩:=s
  dsimp only at hs hg;subst hs;refine⟨L1,?_,hg.to (Jh _) ?_⟩
  ·unfold zRC
   grind
  grind
theorem zZv:∃L,f_l ⟨x,m0,T⟩ (k:Int)=iG L∧GR m.Prime D Z L 120 (LCQ Q x (exx D x m T) k):=by
 have hn:=hE.hn;have hI:=zAY h hE hT hM hk;obtain⟨p1,p2⟩:=zKN h hE hT (k:=k) (j:=k) (Jh k) hk;obtain⟨L1,e1,g1⟩:=yC7 h hE hT hM hZ hk hc;have hs:=zGh h hE hT hk p2;obtain⟨r,r1,r2,r3⟩:=zKQ h hE hT hM hZ (k:=k+1) (by omega) hs p2 (by rw[zEw h hE hT hk p2,zI2 h hE hT hk (Jh k) hk];exact hc.c3)
 obtain⟨L2,e2,g2⟩:=yC8 h hE hT hM hZ hk hc (g1.app (GR.one r2 r3)) (by omega);have dg:=g1.len;refine⟨L2,?_,g2.to (by omega) ?_⟩
 ·unfold f_l
  rw[zC (by omega) (by omega),bs,cs,e1,bs,p1,bs,hI _ p2,bs,r1,bs,yI (by simp;omega),bs,bs,e2,bs]
 ·constructor
  ·rintro⟨⟨a1,a2⟩,a3⟩
   exact⟨by grind,by grind,a2,a3⟩
  ·intro a
   exact⟨⟨fun j b1 b2=>⟨a.c1 j b1 b2,fun j2 b3 b4=>a.c2 j b1 b2 j2 b3 b4⟩,a.c3⟩,a.c4⟩
end
theorem zTC(hx:wO (suf x 0)):∃L,f_O ⟨x,m0,T⟩=iG L∧GR m.Prime D Z L 1000 (∀k,k<x.zA.length→LCQ Q x (exx D x m T) k):=by
 have hn:=hE.hn;have h3:=hE.m.d3;have bj:∀k,k<x.zA.length→LC x k:=fun k hk=>((zAd h.w hk).1 (zA6 hx k)).2
 obtain⟨L,e,g⟩:=uP (body:=zRD ⟨x,m0,T⟩) (Q:=fun L=>GR m.Prime D Z L 1000 (∀k,k<x.zA.length→LCQ Q x (exx D x m T) k)) (fun i(s:Mx×Int)=>s.2=(i:Int)∧GR m.Prime D Z s.1 (120*i) (∀k,k<i→LCQ Q x (exx D x m T) k)) x.zA.length (fun i s hi ⟨hs,hg⟩=>by
  left;obtain⟨L1,s2⟩:=s;dsimp only at hs hg;subst hs;obtain⟨L2,e2,g2⟩:=zZv h hE hT hM hZ hi (bj i hi);have l1:=hg.len;have l2:=g2.len;refine⟨(L1++L2,((i+1:Nat):Int)),?_,rfl,(hg.app g2).to (by omega) ?_⟩
  ·unfold zRD
   dsimp only
   rw[yR hi,zK,e2,bs,yI (by omega),bs,zC (by omega) (by omega),bs,cs]
  grind) (fun s ⟨hs,hg⟩=>by
  obtain⟨L1,s2⟩:=s;dsimp only at hs hg;subst hs;refine⟨L1,?_,hg.to (by omega) Iff.rfl⟩
  simp_all[zRD]) (s:=([],0)) ⟨rfl,(GR.nil (N:=0)).to (by omega) (by simp)⟩
 grind[f_O]
end
section
variable {D:Nat}{x:SPr}{m0 m:zB}{T:Mx} (h:Pres x) (hE:ExB x.zA.length D x m T) (hT:∀i,i<T.length→Row m.Prime D (T.getD i [])) (hM:Mv D x.zA.length m0 m)
 include h hE hT hM
theorem zW2(hx:wO (suf x 0))(hr:zCv x m D):IsB (zVu x m0 T) (wO (suf (exx D x m T) 0)):=by
 have hn:=hE.hn;have h3:=hE.m.d3;have hp:=hE.m.p.pos;obtain⟨L,e,g⟩:=zTC h hE hT hM (Z:=fun r=>r=zeros D) (Q:=fun _ a b=>a=b) (fun k hk a b ha hb e=>by
  obtain⟨y,u,rfl,hy,hu,_,e7⟩:=prV h hE hT hk ha;obtain⟨z,v,rfl,hz,hv,_,pW⟩:=prV h hE hT hk hb;rw[Jp e7,Jp pW]at e;subst e;rw[K0 e7,K0 e7,List.append_cancel_left_eq,←zQW (p:=m.Prime) hu hv];constructor
  ·grind[uQ]
  ·intro g
   rw[vC (zEW (p:=m.Prime) (r:=u) (s:=v) (k:=-1)),show zeros D=mkv D fun _=>0 from uA D]
   grind[zZ]) hx
 have dg:=g.len;unfold zVu;rw[e,bs];refine(sW (body:=zN1 L) L.length (fun i=> ∀j,j<(L.getD i []).length→at0 (L.getD i []) j=0) rfl (fun i hi _=>?_) ?_).iff ?_
 ·have eO:=g.row (L.getD i []) (by grind)
  unfold zN1;rw[yR hi,zK,yO [] hi,bs];rcases zQX (v:=L.getD i []) (by rw[eO.1];omega)with⟨z1,z2⟩|⟨z1,z2⟩
  ·left
   rw[z1,bs,Jo,zM,zC (by omega) (by omega),bs,cs]
   grind
  grind
 ·simp_all[zN1]
 ·rw[zKM h hE hT hr,show(∀k,k<x.zA.length→LCn x (exx D x m T) k)↔(∀k,k<x.zA.length→LCQ (fun _ a b=>a=b) x (exx D x m T) k)from⟨fun a k hk=>⟨(a k hk).c1,(a k hk).c2,(a k hk).c3,(a k hk).c4⟩,fun a k hk=>⟨(a k hk).c1,(a k hk).c2,(a k hk).c3,(a k hk).c4⟩⟩,←g.iff]
  constructor
  ·intro a r hr
   obtain⟨i,hi,rfl⟩:=Ke.1 hr;have a:=a i hi;rw[J2,J3 hi]at a;have eO:=g.row _ hr;rw[vC eO.1,show zeros D=mkv D fun _=>0 from uA D]
   grind
  grind[K8,uQ]
end
end Go.Pl

namespace Go.Pl
open Go Go.Ab Go.Wk Go.Pc
theorem zD9{x:SPr}(h:Pres x):∃s:Nat,f_U x=iG (s:Int)∧(s=0↔wO (suf x 0)):=by
 have h6:=h.os.1;unfold f_U;obtain⟨r,r1,r2⟩:=uP (body:=zNj x) (Q:=fun r=> ∃s:Nat,r=(s:Int)∧wO (suf x s)∧(s=0∨ ¬wO (suf x (s-1)))) (fun i s=>i≤x.zA.length∧s=((x.zA.length-i:Nat):Int)∧wO (suf x (x.zA.length-i))) x.zA.length (fun i s hi ⟨_,hs,gK⟩=>by
   subst hs;have hk:x.zA.length-i-1<x.zA.length:=by omega
   have e9:x.zA.length-(i+1)=x.zA.length-i-1:=by omega
   rw[e9];have e8:i+1≤x.zA.length:=by omega
   rw[show x.zA.length-i=x.zA.length-i-1+1 from by omega]at gK ⊢
   have pM:=zId h hk gK;have cx:=zAd h.w hk
   generalize x.zA.length-i-1=k at*
   unfold zNj;rw[iM (by omega),zK,zC (by omega) (by omega),bs,show(((k+1:Nat):Int)-1)=(k:Int)from by omega];rcases pM with⟨g1,g2⟩|⟨r,g1,g2,g3⟩
   ·left
    rw[g1,bs];simp only[beq_self_eq_true,Bool.and_true];rw[zK,bs];exact⟨_,rfl,e8,rfl,cx.2 ⟨gK,g2⟩⟩
   ·right
    rw[g1,bs,show(r.Kind==0)=iJ from by simpa using g2,Jce,zM];refine⟨_,rfl,k+1,rfl,gK,.inr fun q=>g3 (cx.1 q).2⟩) (fun s ⟨_,hs,gK⟩=>by
   rw[Kj]at hs gK;subst hs;unfold zNj;rw[show decide (((0:Nat):Int)> 0)=iJ from rfl,zM];exact⟨_,rfl,0,rfl,gK,.inl rfl⟩) (s:=(x.zA.length:Int)) ⟨by omega,by rw[Ui],by rw[Ui,vT (by omega)];simp only[wO]⟩
 obtain⟨s,rfl,gK,hs⟩:=r2;rw[r1,bs];refine⟨s,rfl,fun g=>by subst g;exact gK,fun g=>?_⟩;rcases hs with hs|hs
 ·exact hs
 ·exact absurd (zA6 g _) hs
section
variable {x:SPr}{m:zB}{T:Mx}{D:Nat} (hx:zAb x) (hm:MOk x.zA.length m D) (hT:T.length≤1048576)
 include hx hm hT
def zCk(x:SPr)(m:zB)(D:Nat)(T:Mx):Prop:=T.length=base x.zA.length x.zA.length∧yB5 m D T
theorem zML:IsB (zXf x m T) (zCk x m D T):=by
 have h6:=hx.n6;unfold zXf;rw[zEs rfl h6,bs]
 by_cases g:T.length=base x.zA.length x.zA.length
 ·rw[show((T.length:Int)==((base x.zA.length x.zA.length:Nat):Int))=iI from by simp[g],zK]
  exact(IsB.b (zKK hm (by omega) hT)).iff ⟨fun q=>⟨g,q⟩,fun q=>q.2⟩
 ·rw[show((T.length:Int)==((base x.zA.length x.zA.length:Nat):Int))=iJ from by simp;omega,zM]
  exact .inr ⟨rfl,fun q=>g q.1⟩
theorem zMM:IsB (zXh x m T) (zCk x m D T):=by
 have h6:=hx.n6;have h3:=hm.d3;unfold zXh;rw[zIo rfl h6,bs]
 by_cases g:T.length=base x.zA.length x.zA.length
 ·rw[show((T.length:Int)==((base x.zA.length x.zA.length:Nat):Int))=iI from by simp[g],zK]
  exact(IsB.b (zQY hm.p hm.d (by omega) hT)).iff ⟨fun q=>⟨g,q⟩,fun q=>q.2⟩
 ·rw[show((T.length:Int)==((base x.zA.length x.zA.length:Nat):Int))=iJ from by simp;omega,zM]
  exact .inr ⟨rfl,fun q=>g q.1⟩
 omit hT in
theorem yB6(ht:zCk x m D T):zKH x.zA.length D x m T:=by
  have h3:=hm.d3;exact zKH.of hx hm ht.1 (zOu fun i hi=>by have:=(ht.2 i hi).1;omega)
 omit hT in
theorem zQd(ht:zCk x m D T):IsB (zXi x m T) (wO (suf (exx D x m T) 0)):=by have hE:=yB6 hx hm ht;unfold zXi;rw[zTq hE,bs];obtain⟨s,s1,s2⟩:=zD9 ((zFk hx.toPres (hE.b hm) ht.2).p (by rw[wF hx.toPres (hE.b hm) ht.2];have:=hm.d3;have:=hE.hn;omega));rw[s1,bs];refine(IsB.of_bool ?_).iff s2;simp
end
end Go.Pl

namespace Go.Pl
open Go Go.Ab Go.Wk Go.Pc
end Go.Pl

namespace Go.Pl
open Go Go.Ab Go.Wk Go.Pc
theorem zI3{x:SPr}(h:Pres x)(h6:x.zA.length≤6):(wC x).length=base x.zA.length x.zA.length:=by
 have h1:=zRh h;have key:∀n:Nat,n<7→2*base n n=n*(n+1):=by decide
 have h2:=key x.zA.length (by omega);omega
abbrev tO(x:SPr)(m:zB)(D:Nat):Mx:=zFj (x.zA.length*D) (fun k=>dfc m D (uv x.zA.length D k)) (wC x)
section
variable {x:SPr}{m:zB}{D:Nat} (hx:zAb x) (hD:MOk x.zA.length m D)
 include hx hD
theorem zO0:∃R pv,zN6 x m=iG R∧zV2 x m=iG (tO x m D)∧f_i m.Prime (tO x m D)=iG R∧Red m.Prime (base x.zA.length x.zA.length*D) R pv∧R.length≤63∧base x.zA.length x.zA.length*D≤63:=by have h6:=hx.n6;have h3:=hD.d3;have hb:=wT x.zA.length (by omega);have hl:=zI3 hx.toPres h6;have cO:x.zA.length*D≤6*3:=Jr h6 h3;have bQ:base x.zA.length x.zA.length*D≤21*3:=Jr hb.2.1 h3;have cX:(tO x m D).length=x.zA.length*D:=wN;obtain⟨R,pv,r1,r2,r3,_⟩:=qB hD.p (n:=(wC x).length*D) (by rw[hl];omega) (rows:=tO x m D) (by omega) (by rw[cX];exact zJQ (zTx hx.toPres hD) (wC x));rw[hl]at r3;have hR:=r3.len_le;refine⟨R,pv,?_,zGH hx.toPres hD,r2,r3,by omega,bQ⟩;unfold zN6;rw[zG9 hx.toPres hD,bs,r1,bs]
theorem zO1{T:Mx}(ht:zCk x m D T):Row m.Prime (base x.zA.length x.zA.length*D) T.flatten∧zVw T=iG T.flatten∧f_q T=iG T.flatten:=by
 have h6:=hx.n6;have h3:=hD.d3;have hb:=wT x.zA.length (by omega);have bQ:base x.zA.length x.zA.length*D≤21*3:=Jr hb.2.1 h3;have h:=zTo (p:=m.Prime) (D:=D) (xs:=T) fun r hr=>by
  obtain⟨i,hi,rfl⟩:=Ke.1 hr;have:=ht.2 i hi
  rwa [J2,J3 hi]at this
 rw[ht.1]at h;have hl:=ht.1;exact⟨h,zJO (by omega) (by rw[h.1];omega),sZ (by omega) (by rw[h.1];omega)⟩
end
end Go.Pl

namespace Go.Pl
open Go Go.Ab Go.Wk Go.Pc
section
variable {x:SPr}{m:zB}{D:Nat} (hx:zAb x) (hD:MOk x.zA.length m D)
 include hx hD
theorem zMN:∃R pv,zN6 x m=iG R∧Red m.Prime (base x.zA.length x.zA.length*D) R pv∧(∀v,Sp m.Prime (base x.zA.length x.zA.length*D) R v↔Sp m.Prime (base x.zA.length x.zA.length*D) (tO x m D) v)∧R.length≤63:=by have h6:=hx.n6;have h3:=hD.d3;have hb:=wT x.zA.length (by omega);have hl:=zI3 hx.toPres h6;have cO:x.zA.length*D≤6*3:=Jr h6 h3;have bQ:base x.zA.length x.zA.length*D≤21*3:=Jr hb.2.1 h3;have cX:(tO x m D).length=x.zA.length*D:=wN;obtain⟨R,pv,r1,r2,r3,r4⟩:=qB hD.p (n:=(wC x).length*D) (by grind) (rows:=tO x m D) (by omega) (by rw[cX];exact zJQ (zTx hx.toPres hD) (wC x));rw[hl]at r3 r4;have hR:=r3.len_le;refine⟨R,pv,?_,r3,fun v=>r4.iff,by omega⟩;unfold zN6;rw[zG9 hx.toPres hD,bs,r1,bs]
end
end Go.Pl

namespace Go.Pl
open Go Go.Ab Go.Wk Go.Pc
end Go.Pl

namespace Go.Pl
open Go Go.Ab Go.Wk Go.Pc
end Go.Pl

namespace Go.Pl
open Go Go.Ab Go.Wk Go.Pc
abbrev zEx:=Nat×List Nat×List Nat
section
variable (x:SPr)
abbrev yH(a:Nat):Nat:=(at0 x.zA a).toNat
abbrev lcj(i j:Nat):List Int:=(x.zG.getD i []).getD (j-(i+1)) []
def swp:List Nat→Option zEx
 |a::b::s=>if b<a then iG (base x.zA.length b+(a-(b+1)),s,b::(nw 0 (lcj x b a)++s))else iH
 |_=>iH
def pws:List Nat→Option zEx
 |a::w=>if(a::w).take (yH x a)=J1 (yH x a) a then iG (a,(a::w).drop (yH x a),nw 0 (x.zS.getD a [])++(a::w).drop (yH x a))else iH
 | []=>iH
def hdS(w:List Nat):Option zEx:=match swp x w with
 |some r=>iG r
 |none=>pws x w
def stS:List Nat→Option zEx
 | []=>iH
 |a::w=>match hdS x (a::w)with
  |some r=>iG r
  |none=>(stS w).map fun r=>(r.1,r.2.1,a::r.2.2)
end
section
variable {x:SPr}
theorem zW3{w s:List Nat}{r:zEx}(h:swp x w=iG r):swp x (w++s)=iG (r.1,r.2.1++s,r.2.2++s):=by
 match w,h with
 | [],h=>cases h
 | [_],h=>cases h
 |a::b::w,h=>
  simp only[swp]at h
  by_cases g:b<a
  ·rw[if_pos g]at h
   cases h;simp only[K6,swp,if_pos g,Jf]
  grind
theorem zBC{w:List Nat}{o a:Nat}(h:w.take o=J1 o a):o≤w.length:=by
 have:=congrArg Jba h
 grind
theorem zW4{w s:List Nat}{r:zEx}(h:pws x w=iG r):pws x (w++s)=iG (r.1,r.2.1++s,r.2.2++s):=by
 match w,h with
 | [],h=>cases h
 |a::w,h=>
  simp only[pws]at h
  by_cases g:(a::w).take (yH x a)=J1 (yH x a) a
  ·rw[if_pos g]at h
   cases h;have hl:=zBC g;have e1:(a::(w++s)).take (yH x a)=(a::w).take (yH x a):=by grind
   have e2:(a::(w++s)).drop (yH x a)=(a::w).drop (yH x a)++s:=by grind
   simp only[K6,pws]
   grind
  grind
theorem zFp{a b:Nat}{s s2:List Nat}(h:swp x (a::b::s)=iH):swp x (a::b::s2)=iH:=by
 simp only[swp]at h ⊢
 grind
theorem zQe{w:List Nat}(h:hdS x w=iH):swp x w=iH∧pws x w=iH:=by
 unfold hdS at h
 grind
theorem zTD{w:List Nat}(h1:swp x w=iH)(h2:pws x w=iH):hdS x w=iH:=by grind[hdS]
theorem zZw{w s:List Nat}(hw:∀a∈w,2≤yH x a){r:zEx}(h:hdS x w=iG r):hdS x (w++s)=iG (r.1,r.2.1++s,r.2.2++s):=by
 unfold hdS at h ⊢
 cases e:swp x w with
 |some q=>
  grind[zW3]
 |none=>
  rw[e]at h;have e2:swp x (w++s)=iH:=by
   match w,h with
   | [],h=>cases h
   | [a],h=>
    have h2:=hw a (by simp);simp only[pws]at h
    by_cases g:[a].take (yH x a)=J1 (yH x a) a
    ·have h4:=zBC g;grind
    grind
   |a::b::w,h=>exact zFp e
  grind[zW4]
theorem zEy{k a:Nat}(hk:k<yH x a):∀j,j≤k→ ∀{w:List Nat},(∀b,w.head? =iG b→a<b)→stS x (J1 j a++w)=(stS x w).map fun r=>(r.1,r.2.1,J1 j a++r.2.2)
 |0,_,w,_=>by simp
 |j+1,hj,w,hw=>by
  have ih:=zEy hk j (by omega) hw;rw[Ju,K6];have h1:swp x (a::(J1 j a++w))=iH:=by
   cases j with
   |succ j=>simp only[Ju,K6,swp,if_neg (Jbk a)]
   |zero=>
    simp only[H2,Jv];cases w with
    |nil=>rfl
    |cons b w=>
     have:=hw b rfl;simp only[swp,if_neg (show¬b<a by omega)]
  have h2:pws x (a::(J1 j a++w))=iH:=by
   simp only[pws];refine if_neg fun g=>?_
   have hl:=zBC g;have:=congrArg (fun l=>l[j+1]?) g;rw[U3 (by omega),←K6,←Ju,Ja (by simp),Jb,Kj,Qm (by omega)]at this
   grind[List.head?_eq_getElem?]
  simp only[stS];rw[zTD h1 h2,ih];cases stS x w with
  |none=>rfl
  |some r=>rfl
theorem zZx{k a:Nat}(hk:k<yH x a):stS x (J1 k a)=iH:=by
 have:=zEy hk k (Jh _) (w:=[]) (by simp)
 grind[stS]
theorem zKR:∀{u s:List Nat},(∀a∈u,2≤yH x a)→ ∀{r:zEx},stS x u=iG r→stS x (u++s)=iG (r.1,r.2.1++s,r.2.2++s)
 | [],_,_,_,h=>by cases h
 |a::w,s,hu,r,h=>by
  simp only[stS]at h;rw[K6];simp only[stS];cases e:hdS x (a::w)with
  |some q=>
   grind[zZw]
  |none=>
   rw[e]at h;cases e2:stS x w with
   |none=>grind
   |some q=>
    rw[e2]at h;cases h;obtain⟨n1,n2⟩:=zQe e;have m1:swp x (a::(w++s))=iH:=by
     cases w with
     |nil=>cases e2
     |cons b w=>exact zFp n1
    have m2:pws x (a::(w++s))=iH:=by
     simp only[pws]at n2 ⊢
     refine if_neg fun g=>?_
     by_cases hl:yH x a≤(a::w).length
     ·grind
     ·have:a::w=J1 (a::w).length a:=by
       have g':=congrArg (Jb7 (a::w).length) g
       grind
      grind[zZx]
    rw[zTD m1 m2,zKR (s:=s) (by grind) e2];rfl
theorem zGA{u s:List Nat}(hu:∀a∈u,2≤yH x a)(h:stS x (u++s)=iH):stS x u=iH:=by
 cases e:stS x u with
 |none=>rfl
 |some r=>grind[zKR]
theorem zTE:∀{u:List Nat}{l i:Nat}{z:List Nat},(∀a∈u,i<a)→i<l→stS x (u++[l])=iH→stS x (u++l::i::z)=iG (base x.zA.length i+(l-(i+1)),z,u++i::(nw 0 (lcj x i l)++z))
 | [],l,i,z,_,hl,_=>by simp only[Jv,stS,hdS,swp,if_pos hl]
 |a::u,l,i,z,hu,hl,hn=>by
  rw[K6]at hn ⊢
  simp only[stS]at hn ⊢
  cases e:hdS x (a::(u++[l]))with
  |some q=>grind
  |none=>
   rw[e]at hn;have bg:stS x (u++[l])=iH:=by simp_all
   obtain⟨n1,n2⟩:=zQe e;have m1:swp x (a::(u++l::i::z))=iH:=by
    cases u with
    |nil=>exact zFp n1
    |cons b u=>exact zFp n1
   have m2:pws x (a::(u++l::i::z))=iH:=by
    simp only[pws]at n2 ⊢
    refine if_neg fun g=>?_
    have ea:a::(u++l::i::z)=(a::(u++[l]))++i::z:=by simp
    by_cases ho:yH x a≤(a::(u++[l])).length
    ·grind
    ·have g':=congrArg (fun w=>w[(a::(u++[l])).length]?) g
     rw[U3 (by omega),ea,Ja (Jh _),Kj,Qm (by omega)]at g';have:i=a:=by grind
     simp_all
   rw[zTD m1 m2,zTE (by grind) hl bg];rfl
theorem zXS{a:Nat}(ha:2≤yH x a)(w:List Nat):stS x (J1 (yH x a) a++w)=iG (a,w,nw 0 (x.zS.getD a [])++w):=by
 obtain⟨k,hk⟩:∃k,yH x a=k+2:=⟨yH x a-2,by omega⟩;have e:J1 (yH x a) a++w=a::a::(J1 k a++w):=by grind
 have h1:swp x (J1 (yH x a) a++w)=iH:=by rw[e];simp only[swp,if_neg (Jbk a)]
 have h2:pws x (J1 (yH x a) a++w)=iG (a,w,nw 0 (x.zS.getD a [])++w):=by
  have et:(J1 (yH x a) a++w).take (yH x a)=J1 (yH x a) a:=by simp
  have ed:(J1 (yH x a) a++w).drop (yH x a)=w:=by simp
  rw[e]at et ed ⊢
  simp only[pws]
  grind
 have h3:hdS x (J1 (yH x a) a++w)=iG (a,w,nw 0 (x.zS.getD a [])++w):=by grind[hdS]
 grind[stS]
end
end Go.Pl

namespace Go.Pl
open Go Go.Ab Go.Wk Go.Pc
theorem zDz{p:Int}{D:Nat}{u v w:List Int}:adv p D (adv p D u v) w=adv p D u (adv p D v w):=by
 refine zZ fun j hj=>?_
 grind[yB,Jbc]
theorem zFq{p:Int}{D:Nat}{u v:List Int}{A:Mx}:xY p D (adv p D u v) A=adv p D (xY p D u A) (xY p D v A):=by
 refine zZ fun j hj=>?_
 rw[xY,xY,yB hj,yB hj,←Kh,←zCT];refine zAe fun l hl=>?_
 rw[yB hl,←Qu,Jw,K7,←Jw]
theorem zMO{α:Type}(m:α→α→α)(z:α):∀(cs:List α)(j n:Nat)(acc:α),j<cs.length→j<n→img m cs (xM n j) acc=m acc (cs.getD j z)
 | [],_,_,_,h,_=>by simp at h
 |c::cs,0,n+1,acc,_,_=>by grind[zDr,img,iter,qG]
 |c::cs,j+1,n+1,acc,h,h2=>by rw[zFP];show img m cs (xM n j) (iter (0:Int).toNat (fun v=>m v c) acc)=_;rw[show iter (0:Int).toNat (fun v=>m v c) acc=acc from rfl,zMO m z cs j n acc (by grind) (by omega),Jc9]
 |_::_,0,0,_,_,h=>by omega
 |_::_,_+1,0,_,_,h=>by omega
theorem zGi(n d:Nat):zeros (n+d)=zeros n++zeros d:=by grind[zeros,Jk]
theorem zTF{n d j:Nat}(hj:j<n):xM (n+d) j=xM n j++zeros d:=by grind[xM,zGi,yC]
def fo(e:SPr)(k:Nat)(u:Vec)(w:List Nat):Vec:=w.foldl (fun u a=>mul (suf e k) u (xM (e.zA.length-k) (a-k))) u
theorem zDa{e:SPr}{k:Nat}{u:Vec}{v w:List Nat}:fo e k u (v++w)=fo e k (fo e k u v) w:=by simp[fo,Gx]
theorem sO{e:SPr}{k:Nat}{u:Vec}{a:Nat}{w:List Nat}:fo e k u (a::w)=fo e k (mul (suf e k) u (xM (e.zA.length-k) (a-k))) w:=rfl
theorem zZy{e:SPr}{k a:Nat}(ha:k<a)(hn:a<e.zA.length){b:Int}{y:Vec}(hb:b<at0 e.zA k):mul (suf e k) (b::y) (xM (e.zA.length-k) (a-k))=b::mul (suf e (k+1)) y (xM (e.zA.length-(k+1)) (a-(k+1))):=by obtain⟨t,ht⟩:∃t,a-k=t+1:=⟨a-(k+1),by omega⟩;obtain⟨s,hs⟩:∃s,e.zA.length-k=s+1:=⟨e.zA.length-(k+1),by omega⟩;rw[yG (x:=e) (by omega),ht,hs,zFP,yZ,if_neg (by show¬(b+0≥at0 e.zA k);omega),show a-(k+1)=t from by omega,show e.zA.length-(k+1)=s from by omega,H0];rfl
theorem zZz{e:SPr}{k:Nat}(hn:k<e.zA.length){b:Int}{y:Vec}:mul (suf e k) (b::y) (xM (e.zA.length-k) (k-k))=if b+1≥at0 e.zA k then(b+1-at0 e.zA k)::mul (suf e (k+1)) (lvl e k).w (mul (suf e (k+1)) (sig (suf e (k+1)) (lvl e k) y) (zeros (e.zA.length-(k+1))))else(b+1)::mul (suf e (k+1)) (sig (suf e (k+1)) (lvl e k) y) (zeros (e.zA.length-(k+1))):=by obtain⟨s,hs⟩:∃s,e.zA.length-k=s+1:=⟨e.zA.length-(k+1),by omega⟩;rw[yG (x:=e) hn,hs,Kj,zDr,yZ,show e.zA.length-(k+1)=s from by omega];rfl
section
variable {D:Nat}{x:SPr}{m:zB}{T:Mx} (h:Pres x) (hE:ExB x.zA.length D x m T) (hT:∀i,i<T.length→Row m.Prime D (T.getD i []))
 include h hE hT
theorem zZ0{k:Nat}(hk:k≤x.zA.length){e:Vec}(he:V (suf (exx D x m T) k) e):mul (suf (exx D x m T) k) e (zeros ((exx D x m T).zA.length-k))=e:=by have hp:=hE.m.p.pos;obtain⟨y,u,rfl,hy,hu⟩:=(sN h hE hT (x.zA.length-k) k (by omega) _).1 he;have:=zFn h hE hT (x.zA.length-k) k (by omega) y u (zeros D) hy hu (xQ (by omega));rw[zAI hu]at this;rw[wF h hE hT,show x.zA.length+D-k=(x.zA.length-k)+D from by omega,zGi];exact this
def adK(p:Int)(D N:Nat)(e d:Vec):Vec:=e.take N++adv p D (e.drop N) d
theorem zKS{k:Nat}(hk:k≤x.zA.length){e d:Vec}(he:V (suf (exx D x m T) k) e)(hd:Row m.Prime D d):adK m.Prime D (x.zA.length-k) e d=mul (suf (exx D x m T) k) e (zeros (x.zA.length-k)++d):=by
 obtain⟨y,u,rfl,hy,hu⟩:=(sN h hE hT (x.zA.length-k) k (by omega) _).1 he
 grind[vD,zFn,adK]
theorem zZ1{k:Nat}(hk:k≤x.zA.length){e d:Vec}(he:V (suf (exx D x m T) k) e):V (suf (exx D x m T) k) (adK m.Prime D (x.zA.length-k) e d):=by have hp:=hE.m.p.pos;obtain⟨y,u,rfl,hy,hu⟩:=(sN h hE hT (x.zA.length-k) k (by omega) _).1 he;have e7:=vD h (by omega) hy;rw[adK,Jp e7,K0 e7];exact(sN h hE hT (x.zA.length-k) k (by omega) _).2 ⟨y,_,rfl,hy,qJ (by omega)⟩
theorem zXT{k:Nat}(hk:k≤x.zA.length){e d d':Vec}(he:V (suf (exx D x m T) k) e):adK m.Prime D (x.zA.length-k) (adK m.Prime D (x.zA.length-k) e d) d'=adK m.Prime D (x.zA.length-k) e (adv m.Prime D d d'):=by obtain⟨y,u,rfl,hy,hu⟩:=(sN h hE hT (x.zA.length-k) k (by omega) _).1 he;have e7:=vD h (by omega) hy;simp only[adK,Jp e7,K0 e7,zDz]
theorem zAZ{k:Nat}(hk:k<x.zA.length){b:Int}{e d:Vec}:adK m.Prime D (x.zA.length-k) (b::e) d=b::adK m.Prime D (x.zA.length-(k+1)) e d:=by have _:=h;have _:=hE;have _:=hT;rw[show x.zA.length-k=x.zA.length-(k+1)+1 from by omega];rfl
theorem zD{k:Nat}(hk:k≤x.zA.length){d:Vec}(hd:Row m.Prime D d):V (suf (exx D x m T) k) (zeros (x.zA.length-k)++d):=
 (sN h hE hT (x.zA.length-k) k (by omega) _).2 ⟨_,d,rfl,zv h hE hT hk,hd⟩
theorem zXU{k a:Nat}(hk:k≤a)(ha:a<x.zA.length):V (suf x k) (xM (x.zA.length-k) (a-k)):=by
 have _:=hE;have _:=hT;have:=zCI (h.okAt (k:=k) (by omega)) (j:=a-k) (by grind[yQ])
 grind[yQ]
theorem zRl{k a:Nat}(hk:k≤a)(ha:a<x.zA.length):xM ((exx D x m T).zA.length-k) (a-k)=xM (x.zA.length-k) (a-k)++zeros D:=by rw[wF h hE hT,show x.zA.length+D-k=x.zA.length-k+D from by omega,zTF (by omega)]
theorem zDb{k a:Nat}(hk:k≤a)(ha:a<x.zA.length):V (suf (exx D x m T) k) (xM ((exx D x m T).zA.length-k) (a-k)):=by have hp:=hE.m.p.pos;rw[zRl h hE hT hk ha];exact(sN h hE hT (x.zA.length-k) k (by omega) _).2 ⟨_,_,rfl,zXU h hE hT hk ha,xQ (by omega)⟩
theorem zW5{k a:Nat}(hk:k≤a)(ha:a<x.zA.length):aM m D k (xM (x.zA.length-k) (a-k))=m.zF.getD a []:=by have _:=h;have _:=hT;have hA:=hE.m.mat a ha;have hl:=hE.m.len;unfold aM;rw[zMO (PM m.Prime D) [] _ _ _ _ (by grind) (by omega),J2,Hi,show k+(a-k)=a from by omega,←J2,zBX hA]
variable {k:Nat} (hk:k<x.zA.length) (hc:wO (suf (exx D x m T) (k+1)))
 include hk hc
theorem zXV{a:Nat}(h1:k+1≤a)(ha:a<x.zA.length){e d:Vec}(he:V (suf (exx D x m T) (k+1)) e)(hd:Row m.Prime D d):
  mul (suf (exx D x m T) (k+1)) (adK m.Prime D (x.zA.length-(k+1)) e d) (xM ((exx D x m T).zA.length-(k+1)) (a-(k+1)))=adK m.Prime D (x.zA.length-(k+1)) (mul (suf (exx D x m T) (k+1)) e (xM ((exx D x m T).zA.length-(k+1)) (a-(k+1)))) (xY m.Prime D d (m.zF.getD a [])):=by
 have hp:=hE.m.p.pos;have gB:=uG h hE hT (k:=k+1) (by omega);have G:=(zCK _ gB hc).toMon;have hg:=zDb h hE hT h1 ha;have hgv:=zXU h hE hT h1 ha;have hz:=zD h hE hT (k:=k+1) (by omega) hd;have eR:=zD h hE hT (k:=k+1) (by omega) (vA (p:=m.Prime) (D:=D) (r:=d) (B:=m.zF.getD a []) (by omega));rw[zKS h hE hT (by omega) he hd,G.assoc he hz hg,zRl h hE hT h1 ha,zQb h hE hT _ (k+1) (by omega) _ _ _ hd hgv (xQ (by omega)),zAI (vA (by omega)),zW5 h hE hT h1 ha,←zRl h hE hT h1 ha,zKS h hE hT (by omega) (G.cl he hg) (vA (by omega)),G.assoc he hg eR,zRl h hE hT h1 ha,zFn h hE hT _ (k+1) (by omega) _ _ _ hgv (xQ (by omega)) (vA (by omega)),vZ (vA (by omega))]
 omit hc in
theorem zI4{e d:Vec}(he:V (suf (exx D x m T) (k+1)) e)(_hd:Row m.Prime D d):
    sig (suf (exx D x m T) (k+1)) (lvl (exx D x m T) k) (adK m.Prime D (x.zA.length-(k+1)) e d)=adK m.Prime D (x.zA.length-(k+1)) (sig (suf (exx D x m T) (k+1)) (lvl (exx D x m T) k) e) (xY m.Prime D d (m.zF.getD k [])):=by
  have hp:=hE.m.p.pos;obtain⟨y,u,rfl,hy,hu⟩:=(sN h hE hT (x.zA.length-(k+1)) (k+1) (by omega) _).1 he;have e7:=vD h (by omega) hy;obtain⟨y1,u1,e,fq,cJ⟩:=(sN h hE hT (x.zA.length-(k+1)) (k+1) (by omega) _).1 (zIw h hE hT hk (y:=y));have gM:=vD h (by omega) fq;have e0:adK m.Prime D (x.zA.length-(k+1)) (y++u) d=y++adv m.Prime D u d:=by grind[adK]
  rw[e0,zCg h hE hT hk hy (qJ (by omega)),zCg h hE hT hk hy hu,e,Jp gM,K0 gM,adK,Jp gM,K0 gM,zFq,zDz]
theorem zMP{z d:Vec}(hz:V (suf (exx D x m T) (k+1)) z)(hd:Row m.Prime D d){w:Vec}(hw:V (suf (exx D x m T) (k+1)) w):
  mul (suf (exx D x m T) (k+1)) w (adK m.Prime D (x.zA.length-(k+1)) z d)=adK m.Prime D (x.zA.length-(k+1)) (mul (suf (exx D x m T) (k+1)) w z) d:=by
 have gB:=uG h hE hT (k:=k+1) (by omega);have G:=(zCK _ gB hc).toMon;rw[zKS h hE hT (by omega) hz hd,zKS h hE hT (by omega) (G.cl hw hz) hd,G.assoc hw hz (by grind[zD])]
 omit hc in
theorem zRm:V (suf (exx D x m T) (k+1)) (lvl (exx D x m T) k).w:=by
  have gB:=uG h hE hT (k:=k) (by omega);rw[yG (x:=exx D x m T) (by grind[wF])]at gB;exact gB.2.1
 omit hc in
theorem zAK{e:Vec}(he:V (suf (exx D x m T) (k+1)) e):V (suf (exx D x m T) (k+1)) (sig (suf (exx D x m T) (k+1)) (lvl (exx D x m T) k) e):=by
  have gB:=uG h hE hT (k:=k) (by omega);rw[yG (x:=exx D x m T) (by grind[wF])]at gB
  grind[zCJ]
theorem zGB{b:Int}{e:Vec}(he:V (suf (exx D x m T) (k+1)) e):mul (suf (exx D x m T) k) (b::e) (xM ((exx D x m T).zA.length-k) (k-k))=if b+1≥at0 x.zA k then(b+1-at0 x.zA k)::mul (suf (exx D x m T) (k+1)) (lvl (exx D x m T) k).w (sig (suf (exx D x m T) (k+1)) (lvl (exx D x m T) k) e)else(b+1)::sig (suf (exx D x m T) (k+1)) (lvl (exx D x m T) k) e:=by have _:=hc;rw[zZz (by grind[wF]),zZ0 h hE hT (by omega) (zAK h hE hT hk he),tF h hE hT hk]
theorem zMQ{a:Nat}(h1:k<a)(ha:a<x.zA.length){b:Int}(hb:b<at0 x.zA k){e:Vec}:mul (suf (exx D x m T) k) (b::e) (xM ((exx D x m T).zA.length-k) (a-k))=b::mul (suf (exx D x m T) (k+1)) e (xM ((exx D x m T).zA.length-(k+1)) (a-(k+1))):=by have _:=hc;grind[zZy,wF,tF]
theorem yC9{a:Nat}(h1:k≤a)(ha:a<x.zA.length){b:Int}(hb:b<at0 x.zA k){e d:Vec}(he:V (suf (exx D x m T) (k+1)) e)(hd:Row m.Prime D d):
  mul (suf (exx D x m T) k) (b::adK m.Prime D (x.zA.length-(k+1)) e d) (xM ((exx D x m T).zA.length-k) (a-k))=adK m.Prime D (x.zA.length-k) (mul (suf (exx D x m T) k) (b::e) (xM ((exx D x m T).zA.length-k) (a-k))) (xY m.Prime D d (m.zF.getD a [])):=by
 have hp:=hE.m.p.pos;rcases Jj k a with g|g
 ·rw[zMQ h hE hT hk hc g ha hb,zMQ h hE hT hk hc g ha hb,zXV h hE hT hk hc g ha he hd,zAZ h hE hT hk]
 ·obtain rfl:a=k:=by omega
  rw[zGB h hE hT hk hc (by grind[zZ1]),zGB h hE hT hk hc he,zI4 h hE hT hk he hd];split
  ·rw[zMP h hE hT hk hc (zAK h hE hT hk he) (vA (by omega)) (zRm h hE hT hk),zAZ h hE hT hk]
  grind[zAZ]
theorem yB7{a:Nat}(h1:k≤a)(ha:a<x.zA.length){e:Vec}(he:V (suf (exx D x m T) k) e):V (suf (exx D x m T) k) (mul (suf (exx D x m T) k) e (xM ((exx D x m T).zA.length-k) (a-k))):=by have _:=hc;grind[xH,uG,zDb]
theorem yCA:∀{w:List Nat},(∀a∈w,k≤a∧a<x.zA.length)→ ∀{e:Vec},V (suf (exx D x m T) k) e→V (suf (exx D x m T) k) (fo (exx D x m T) k e w)
 | [],_,_,he=>he
 |a::w,hw,e,he=>by rw[sO];exact yCA (by grind) (by grind[yB7])
theorem zQf:∀{w:List Nat},(∀a∈w,k≤a∧a<x.zA.length)→ ∀{e d:Vec},V (suf (exx D x m T) k) e→Row m.Prime D d→fo (exx D x m T) k (adK m.Prime D (x.zA.length-k) e d) w=adK m.Prime D (x.zA.length-k) (fo (exx D x m T) k e w) (xY m.Prime D d (wM m.Prime D m.zF w (idM D)))
 | [],_,e,d,_,hd=>by show adK _ _ _ e d=adK _ _ _ e (xY m.Prime D d (idM D));rw[jT hd]
 |a::w,hw,e,d,he,hd=>by
  have hp:=hE.m.p.pos;obtain⟨a1,a2⟩:=hw a (by simp);have hA:=hE.m.mat a a2;have im:=he;rw[yG (x:=exx D x m T) (by grind[wF])]at im;cases e with
  |nil=>exact im.elim
  |cons b e=>
   obtain⟨⟨b0,b1⟩,he1⟩:=im;have b2:b<at0 x.zA k:=by rw[←tF h hE hT hk];exact b1
   rw[sO,sO,zAZ h hE hT hk,yC9 h hE hT hk hc a1 a2 b2 he1 hd,zQf (by grind) (by grind[yB7]) (vA (by omega)),zFm hA.1]
   congr 2
   show PM _ _ _ (wM m.Prime D m.zF w (idM D))=wM m.Prime D m.zF w (PM m.Prime D (idM D) (m.zF.getD a []));rw[←zIk (by omega) hA.1 w (tA (by omega)),zB6 hA,zBX hA]
end
end Go.Pl

namespace Go.Pl
open Go Go.Ab Go.Wk Go.Pc
inductive Col (x:SPr) (k:Nat):List Nat→List (Nat×List Nat)→List Nat→Prop where
 |refl (w:List Nat):Col x k w [] w
 |step {w w1 w' s:List Nat}{r:Nat}{tr:List (Nat×List Nat)} (hw:∀a∈w,k≤a∧a<x.zA.length) (hs:stS x w=iG (r,s,w1)) (h:Col x k w1 tr w'):Col x k w ((r,s)::tr) w'
theorem Col.trans{x:SPr}{k:Nat}{w w1 w2:List Nat}{t1 t2:List (Nat×List Nat)}(h:Col x k w t1 w1)(h2:Col x k w1 t2 w2):Col x k w (t1++t2) w2:=by
 induction h with
 |refl w=>exact h2
 |step hw hs _ ih=>exact .step hw hs (ih h2)
def tv(p:Int)(D:Nat)(m:zB)(T:Mx):List (Nat×List Nat)→Vec
 | []=>zeros D
 |(r,s)::t=>adv p D (xY p D (T.getD r []) (wM p D m.zF s (idM D))) (tv p D m T t)
section
variable {p:Int}{D:Nat}{m:zB}{T:Mx} (hp:2≤p)
 include hp
theorem zKT:∀t,Row p D (tv p D m T t)
 | []=>xQ (by omega)
 |(_,_)::_=>qJ (by omega)
theorem zI5:∀t u,tv p D m T (t++u)=adv p D (tv p D m T t) (tv p D m T u)
 | [],u=>(vZ (zKT hp u)).symm
 |(r,s)::t,u=>by show adv p D _ (tv p D m T (t++u))=adv p D (adv p D _ _) _;rw[zI5 t u,zDz]
theorem zZ2{A:List Mx}{u v:List Nat}:wM p D A (u++v) (idM D)=PM p D (wM p D A u (idM D)) (wM p D A v (idM D)):=by have hu:=zBZ (D:=D) (A:=A) (show 0<p by omega) u (tA hp);rw[zDu,←zIk (by omega) hu.1 v (tA hp),zB6 hu]
theorem zFr{A:List Mx}{u v:List Nat}{r:Vec}:xY p D r (wM p D A (u++v) (idM D))=xY p D (xY p D r (wM p D A u (idM D))) (wM p D A v (idM D)):=by have hu:=zBZ (D:=D) (A:=A) (show 0<p by omega) u (tA hp);rw[zZ2 hp,zFm hu.1]
theorem zTG(z:List Nat):∀t,tv p D m T (t.map fun q=>(q.1,q.2++z))=xY p D (tv p D m T t) (wM p D m.zF z (idM D))
 | []=>zAJ.symm
 |(r,s)::t=>by show adv p D (xY p D (T.getD r []) (wM p D m.zF (s++z) (idM D))) (tv p D m T (t.map fun q=>(q.1,q.2++z)))=xY p D (adv p D _ (tv p D m T t)) _;rw[zTG z t,zFq,zFr hp]
end
section
variable {x:SPr} (h:Pres x)
 include h
theorem zKU{a:Nat}(ha:a<x.zA.length):2≤yH x a:=by
 have:=(h.os.2 a ha).pos
 grind
theorem tB{v:List Int}{i:Nat}(hv:Exp x.zA v i)(hi:i<x.zA.length):nw 0 v=nw (i+1) (v.drop (i+1))∧ ∀a∈nw 0 v,i+1≤a∧a<x.zA.length:=by
 have _:=h;have e:=zA4 hv hi;have e1:nw 0 v=nw (i+1) (v.drop (i+1)):=by rw[e,zDt,zCZ,yC,Jv,Jc,K0 (by rw[yC])]
 refine⟨e1,fun a ha=>?_⟩;rw[e1]at ha;refine⟨?_,zM0 (n:=x.zA.length) (i+1) _ (by rw[K3,hv.1.1];omega) a ha⟩
 clear e e1 hv
 generalize v.drop (i+1)=y at ha
 generalize i+1=o at ha ⊢
 clear hi
 induction y generalizing o with
 |nil=>grind[nw]
 |cons b y ih=>
  grind[nw]
theorem uB{i j:Nat}(hi:i<j)(hj:j<x.zA.length):Exp x.zA (lcj x i j) i:=by have g:=(h.tl i (by omega)).2.1;exact(h.tl i (by omega)).2.2 (j-(i+1)) (by omega)
theorem qK{i:Nat}(hi:i<x.zA.length):Exp x.zA (x.zS.getD i []) i:=(h.tl i hi).1
theorem zTH:∀(o:Nat)(y:Vec),∀a∈nw o y,o≤a
 |_,[],a,ha=>by grind[nw]
 |o,b::y,a,ha=>by
  have _:=h;simp only[nw,Jd]at ha;rcases ha with ha|ha
  ·grind
  ·have:=zTH (o+1) y a ha;omega
theorem zQg{k:Nat}{y:Vec}(hk:k≤x.zA.length)(hy:V (suf x k) y):∀a∈nw k y,k≤a∧a<x.zA.length:=fun a ha=>
 ⟨zTH h k y a ha,zM0 (n:=x.zA.length) k y (by grind[vD]) a ha⟩
theorem zGj:∀(d k:Nat),k+d=x.zA.length→ ∀y,V (suf x k) y→stS x (nw k y)=iH
 |0,k,hk,y,hy=>by rw[vT (x:=x) (k:=k) (by omega)]at hy;obtain rfl:y=[]:=hy;rfl
 |d+1,k,hk,y,hy=>by
  rw[yG (x:=x) (by omega)]at hy;cases y with
  |nil=>rfl
  |cons b y=>
   obtain⟨⟨b0,b1⟩,hy⟩:=hy;change b<at0 x.zA k at b1;simp only[nw];have gF:b.toNat<yH x k:=by grind
   rw[zEy gF b.toNat (Jh _) fun a ha=>?_,zGj d (k+1) (by omega) y hy]
   ·rfl
   ·have:=zTH h (k+1) y a (by grind[Jaz])
    omega
theorem Col.ctx{i a:Nat}(hi:i<x.zA.length)(ha:a<yH x i){s:List Nat}(hs:∀b∈s,i≤b∧b<x.zA.length){w w':List Nat}{tr:List (Nat×List Nat)}(hc:Col x (i+1) w tr w'):
  Col x i (J1 a i++(w++s)) (tr.map fun q=>(q.1,q.2++s)) (J1 a i++(w'++s)):=by
 induction hc with
 |refl w=>exact .refl _
 | @step w w1 w' s1 r tr hw gD _ ih=>
  refine .step (fun b hb=>?_) ?_ ih
  ·grind
  ·rw[zEy ha a (Jh _) fun b hb=>?_,zKR (by grind[zKU]) gD]
   ·rfl
   ·cases w with
    |nil=>cases gD
    |cons c w=>
     simp only[K6,Qn,Lu.injEq]at hb;have:=hw c (by simp);omega
def cwd(x:SPr)(i:Nat):List Nat→List Nat
 | []=>[]
 |l::ur=>cwd x i ur++nw 0 (lcj x i l)
def mtr(x:SPr)(i:Nat):List Nat→List Nat→List (Nat×List Nat)
 | [],_=>[]
 |l::ur,z=>(base x.zA.length i+(l-(i+1)),z)::mtr x i ur (nw 0 (lcj x i l)++z)
theorem zKV{i:Nat}:∀{ur:List Nat},(∀b∈ur,i+1≤b∧b<x.zA.length)→ ∀b∈cwd x i ur,i+1≤b∧b<x.zA.length
 | [],_,b,hb=>by grind[cwd]
 |l::ur,hu,b,hb=>by
  simp only[cwd,Jd]at hb;obtain⟨l1,l2⟩:=hu l (by simp);rcases hb with hb|hb
  ·exact zKV (by grind) b hb
  ·exact(tB h (uB h (by omega) l2) (by omega)).2 b hb
theorem Col.move{i a:Nat}(hi:i<x.zA.length)(ha:a<yH x i):∀{ur:List Nat},(∀b∈ur,i+1≤b∧b<x.zA.length)→stS x ur.reverse=iH→ ∀{z:List Nat},(∀b∈z,i≤b∧b<x.zA.length)→
  Col x i (J1 a i++(ur.reverse++i::z)) (mtr x i ur z) (J1 (a+1) i++(cwd x i ur++z))
 | [],_,_,z,_=>by
  have e:J1 a i++(([]:List Nat).reverse++i::z)=J1 (a+1) i++(cwd x i []++z):=by grind[Lw,cwd]
  rw[e];exact .refl _
 |l::ur,hu,hn,z,hz=>by
  obtain⟨l1,l2⟩:=hu l (by simp);have fU:∀b∈ur,i+1≤b∧b<x.zA.length:=by grind
  have cZ:=tB h (uB h (show i<l by omega) l2) hi;rw[Ul]at hn ⊢
  have bg:=zGA (by grind[zKU]) hn;have eR:∀b∈nw 0 (lcj x i l)++z,i≤b∧b<x.zA.length:=by grind
  have ih:=Col.move hi ha fU bg eR;rw[show cwd x i (l::ur)++z=cwd x i ur++(nw 0 (lcj x i l)++z)from by simp[cwd]];have e1:ur.reverse++[l]++i::z=ur.reverse++l::i::z:=by simp
  rw[e1];refine .step (fun b hb=>?_) ?_ ih
  ·simp only[Jd,J9,Jbx]at hb
   rcases hb with hb|hb|hb|hb|hb
   ·grind
   ·grind
   ·omega
   all_goals grind
  ·rw[zEy ha a (Jh _) fun b hb=>?_,zTE (by grind) (by omega) hn]
   ·rfl
   ·have:b∈ur.reverse++l::i::z:=by grind[Jaz]
    cases e:ur.reverse with
    |nil=>grind
    |cons c t=>
     grind
end
end Go.Pl

namespace Go.Pl
open Go Go.Ab Go.Wk Go.Pc
theorem zI6{α:Type}(m:α→α→α)(c:Nat→α)(z:α):∀(cs:List α)(v:Vec)(o:Nat)(acc:α),(∀j,j<cs.length→cs.getD j z=c (o+j))→v.length≤cs.length→img m cs v acc=(nw o v).foldl (fun acc j=>m acc (c j)) acc
 |cs,[],o,acc,_,_=>by cases cs<;>rfl
 | [],_::_,_,_,_,h=>by simp at h
 |a::cs,b::v,o,acc,hc,hl=>by
  have h0:=hc 0 (by simp);simp only[Gu,Qh]at h0;have e:∀(k:Nat)(u:α),(J1 k o).foldl (fun acc j=>m acc (c j)) u=iter k (fun v=>m v a) u:=by
   intro k
   induction k with
   |zero=>intro u;rfl
   |succ k ih=>intro u;rw[Ju,Gd,ih,h0];rfl
  show img m cs v (iter b.toNat (fun v=>m v a) acc)=_;simp only[nw,Gx];rw[e,zI6 m c z cs v (o+1) _ (fun j hj=>by have:=hc (j+1) (by grind);grind) (by grind)]
theorem map_drop{l:List (List Int)}{n i:Nat}:(l.map (·.drop n)).getD i []=(l.getD i []).drop n:=by grind
section
variable {D:Nat}{x:SPr}{m:zB}{T:Mx} (h:Pres x) (hE:ExB x.zA.length D x m T) (hT:∀i,i<T.length→Row m.Prime D (T.getD i []))
 include h hE hT
theorem zW6{k:Nat}(hk:k<x.zA.length)(hc:wO (suf (exx D x m T) k)):wO (suf (exx D x m T) (k+1)):=by rw[yG (x:=exx D x m T) (by grind[wF])]at hc;exact hc.1
theorem zO2{k:Nat}(hk:k≤x.zA.length):V (suf (exx D x m T) k) (zeros ((exx D x m T).zA.length-k)):=by grind[wS,uG,yQ]
theorem zI7{k:Nat}(hk:k≤x.zA.length):zeros ((exx D x m T).zA.length-k)=zeros (x.zA.length-k)++zeros D:=by rw[wF h hE hT,show x.zA.length+D-k=x.zA.length-k+D from by omega,zGi]
theorem zDA{k:Nat}(hk:k≤x.zA.length){y u:Vec}(hy:V (suf x k) y)(hu:Row m.Prime D u):V (suf (exx D x m T) k) (y++u):=
 (sN h hE hT (x.zA.length-k) k (by omega) _).2 (by grind)
theorem kM{k:Nat}(hk:k≤x.zA.length){y u d:Vec}(hy:V (suf x k) y):adK m.Prime D (x.zA.length-k) (y++u) d=y++adv m.Prime D u d:=by have _:=hE;have _:=hT;have e7:=vD h hk hy;rw[adK,Jp e7,K0 e7]
theorem zI8:∀(d k:Nat),k+d=x.zA.length→wO (suf (exx D x m T) k)→ ∀y,V (suf x k) y→fo (exx D x m T) k (zeros ((exx D x m T).zA.length-k)) (nw k y)=y++zeros D
 |0,k,hk,_,y,hy=>by rw[vT (x:=x) (k:=k) (by omega)]at hy;obtain rfl:y=[]:=hy;rw[zI7 h hE hT (by omega),show x.zA.length-k=0 from by omega];rfl
 |d+1,k,hk,hc,y,hy=>by
  have fj:=zW6 h hE hT (by omega) hc;have ih:=zI8 d (k+1) (by omega) fj;rw[yG (x:=x) (by omega)]at hy;cases y with
  |nil=>exact hy.elim
  |cons b y=>
   obtain⟨⟨b0,b1⟩,hy⟩:=hy;change b<at0 x.zA k at b1;have pT:k<x.zA.length:=by omega
   have hz:=zO2 h hE hT (k:=k+1) (by omega);simp only[nw];rw[zDa];have e1:∀c:Nat,(c:Int)<at0 x.zA k→fo (exx D x m T) k (zeros ((exx D x m T).zA.length-k)) (J1 c k)=(c:Int)::zeros ((exx D x m T).zA.length-(k+1)):=by
    intro c
    induction c with
    |zero=>
     intro _;have hl:=wF h hE hT;rw[show(exx D x m T).zA.length-k=(exx D x m T).zA.length-(k+1)+1 from by omega];rfl
    |succ c ihc=>
     intro gC;rw[Lw,zDa,ihc (by omega)];show mul _ _ _=_;rw[zGB h hE hT pT fj hz,if_neg (by omega)];have:sig (suf (exx D x m T) (k+1)) (lvl (exx D x m T) k) (zeros ((exx D x m T).zA.length-(k+1)))=zeros ((exx D x m T).zA.length-(k+1)):=by grind[sig,qG,yQ]
     grind
   have e2:∀(w:List Nat)(e:Vec),(∀a∈w,k+1≤a∧a<x.zA.length)→fo (exx D x m T) k (b::e) w=b::fo (exx D x m T) (k+1) e w:=by
    intro w
    induction w with
    |nil=>intro e _;rfl
    |cons a w ihw=>
     intro e hw;rw[sO,zMQ h hE hT pT fj (hw a (by simp)).1 (hw a (by simp)).2 b1,ihw _ (by grind)];rfl
   have:=e1 b.toNat (by omega);rw[this,show((b.toNat:Nat):Int)=b from by omega,e2 _ _ fun a ha=>zQg h (by omega) hy a ha,ih y hy];rfl
variable {k:Nat} (hk:k<x.zA.length) (hc:wO (suf (exx D x m T) (k+1)))
 include hk hc
theorem zI9{b:Int}(hb:b<at0 x.zA k):∀(w:List Nat)(e:Vec),(∀a∈w,k+1≤a∧a<x.zA.length)→fo (exx D x m T) k (b::e) w=b::fo (exx D x m T) (k+1) e w
 | [],e,_=>rfl
 |a::w,e,hw=>by rw[sO,zMQ h hE hT hk hc (hw a (by simp)).1 (hw a (by simp)).2 hb,zI9 hb w _ (by grind)];rfl
 omit hc in
theorem zRn:∀{w:List Nat},(∀a∈w,k+1≤a∧a<x.zA.length)→ ∀{e:Vec},V (suf (exx D x m T) (k+1)) e→V (suf (exx D x m T) (k+1)) (fo (exx D x m T) (k+1) e w)
  | [],_,_,he=>he
  |a::w,hw,e,he=>by rw[sO];exact zRn (fun b hb=>hw b (by simp[hb])) (xH (uG h hE hT (by omega)) he (zDb h hE hT (hw a (by simp)).1 (hw a (by simp)).2))
theorem zTI:∀{w:List Nat},(∀a∈w,k+1≤a∧a<x.zA.length)→ ∀{e d:Vec},V (suf (exx D x m T) (k+1)) e→Row m.Prime D d→fo (exx D x m T) (k+1) (adK m.Prime D (x.zA.length-(k+1)) e d) w=adK m.Prime D (x.zA.length-(k+1)) (fo (exx D x m T) (k+1) e w) (xY m.Prime D d (wM m.Prime D m.zF w (idM D)))
 | [],_,e,d,_,hd=>by show adK _ _ _ e d=adK _ _ _ e (xY m.Prime D d (idM D));rw[jT hd]
 |a::w,hw,e,d,he,hd=>by
  have hp:=hE.m.p.pos;obtain⟨a1,a2⟩:=hw a (by simp);have hA:=hE.m.mat a a2;rw[sO,sO,zXV h hE hT hk hc a1 a2 he hd,zTI (by grind) (by grind[xH,uG,zDb]) (vA (by omega)),zFm hA.1]
  congr 2
  show PM _ _ _ (wM m.Prime D m.zF w (idM D))=wM m.Prime D m.zF w (PM m.Prime D (idM D) (m.zF.getD a []));rw[←zIk (by omega) hA.1 w (tA (by omega)),zB6 hA,zBX hA]
theorem zTJ:∀{w:List Nat},(∀a∈w,k+1≤a∧a<x.zA.length)→ ∀{e f:Vec},V (suf (exx D x m T) (k+1)) e→V (suf (exx D x m T) (k+1)) f→fo (exx D x m T) (k+1) (mul (suf (exx D x m T) (k+1)) e f) w=mul (suf (exx D x m T) (k+1)) e (fo (exx D x m T) (k+1) f w)
 | [],_,_,_,_,_=>rfl
 |a::w,hw,e,f,he,hf=>by have gB:=uG h hE hT (k:=k+1) (by omega);have G:=(zCK _ gB hc).toMon;have hg:=zDb h hE hT (hw a (by simp)).1 (hw a (by simp)).2;rw[sO,sO,G.assoc he hf hg,zTJ (by grind) he (G.cl hf hg)]
theorem zIA{w:List Nat}(hw:∀a∈w,k+1≤a∧a<x.zA.length){e:Vec}(he:V (suf (exx D x m T) (k+1)) e):fo (exx D x m T) (k+1) e w=mul (suf (exx D x m T) (k+1)) e (fo (exx D x m T) (k+1) (zeros ((exx D x m T).zA.length-(k+1))) w):=by rw[←zTJ h hE hT hk hc hw he (by grind[zO2]),zZ0 h hE hT (by omega) he]
def dm(p:Int)(D:Nat)(x:SPr)(m:zB)(T:Mx)(k:Nat):List Nat→Vec
 | []=>zeros D
 |l::ur=>adv p D (xY p D (dm p D x m T k ur) (wM p D m.zF (nw 0 (lcj x k l)) (idM D))) (T.getD (base x.zA.length k+(l-(k+1))) [])
 omit h hE hT hk hc in
theorem zO3(hp:2≤m.Prime):∀ur,Row m.Prime D (dm m.Prime D x m T k ur)
  | []=>xQ (by omega)
  |_::_=>qJ (by omega)
 omit h hE hT hk hc in
theorem zO4(hp:2≤m.Prime):∀(ur:List Nat)(z:List Nat),tv m.Prime D m T (mtr x k ur z)=xY m.Prime D (dm m.Prime D x m T k ur) (wM m.Prime D m.zF z (idM D))
  | [],z=>zAJ.symm
  |l::ur,z=>by show adv m.Prime D _ (tv m.Prime D m T (mtr x k ur (nw 0 (lcj x k l)++z)))=xY m.Prime D (adv m.Prime D _ _) _;rw[zO4 hp ur,zFq,zFr hp,tN]
theorem zTK:∀{ur:List Nat},(∀b∈ur,k+1≤b∧b<x.zA.length)→ur.reverse.foldl (fun acc j=>mul (suf (exx D x m T) (k+1)) acc ((lvl (exx D x m T) k).cs.getD (j-(k+1)) [])) (zeros ((exx D x m T).zA.length-(k+1)))=
  adK m.Prime D (x.zA.length-(k+1)) (fo (exx D x m T) (k+1) (zeros ((exx D x m T).zA.length-(k+1))) (cwd x k ur)) (dm m.Prime D x m T k ur)
 | [],_=>by have hp:=hE.m.p.pos;show zeros _=adK _ _ _ (zeros _) (zeros D);rw[zI7 h hE hT (by omega),kM h hE hT (by omega) (by grind[zv]),vZ (xQ (by omega))]
 |l::ur,hu=>by
  have hp:=hE.m.p.pos;obtain⟨l1,l2⟩:=hu l (by simp);have fU:∀b∈ur,k+1≤b∧b<x.zA.length:=by grind
  have gB:=uG h hE hT (k:=k+1) (by omega);have G:=(zCK _ gB hc).toMon;have hz:=zO2 h hE hT (k:=k+1) (by omega);have pf:=zKV h fU;have hF:=zRn h hE hT hk pf hz;have cZ:=tB h (uB h (show k<l by omega) l2) hk;have gC:V (suf x (k+1)) ((lcj x k l).drop (k+1)):=by grind[jZ,uB]
  have bj:(lvl x k).cs.getD (l-(k+1)) []=(lcj x k l).drop (k+1):=map_drop;have ht:=zDQ h hE hT (show k<l by omega) l2;have hd:=zO3 (D:=D) (x:=x) (m:=m) (T:=T) (k:=k) (by omega) ur;have ii:=zI8 h hE hT (x.zA.length-(k+1)) (k+1) (by omega) hc _ gC;have cQ:=zDA h hE hT (k:=k+1) (by omega) gC (xQ (p:=m.Prime) (D:=D) (by omega));rw[Ul,Gx,zTK fU];show mul _ (adK _ _ _ _ _) ((lvl (exx D x m T) k).cs.getD (l-(k+1)) [])=_;rw[zIy h hE hT hk l1 l2,bj];have e1:(lcj x k l).drop (k+1)++T.getD (base x.zA.length k+(l-(k+1))) []=adK m.Prime D (x.zA.length-(k+1)) ((lcj x k l).drop (k+1)++zeros D) (T.getD (base x.zA.length k+(l-(k+1))) []):=by grind[kM,vZ]
  have gQ:∀b∈nw (k+1) ((lcj x k l).drop (k+1)),k+1≤b∧b<x.zA.length:=by grind
  have fk:=zZ1 h hE hT (k:=k+1) (by omega) hF (d:=dm m.Prime D x m T k ur);rw[e1,zMP h hE hT hk hc cQ ht fk,←ii,←zIA h hE hT hk hc gQ fk,zTI h hE hT hk hc gQ hF hd,zXT h hE hT (by omega) (zRn h hE hT hk gQ hF),←zDa,←cZ.1];rfl
theorem zQh{y:Vec}(hy:V (suf x (k+1)) y):sig (suf (exx D x m T) (k+1)) (lvl (exx D x m T) k) (y++zeros D)=adK m.Prime D (x.zA.length-(k+1)) (fo (exx D x m T) (k+1) (zeros ((exx D x m T).zA.length-(k+1))) (cwd x k (nw (k+1) y).reverse)) (dm m.Prime D x m T k (nw (k+1) y).reverse):=by have hp:=hE.m.p.pos;have e7:=vD h (by omega) hy;have gQ:=zQg h (by omega) hy;rw[←zTK h hE hT hk hc (by grind),Km,zCg h hE hT hk hy (xQ (by omega)),zAJ];obtain⟨y1,u1,e,fq,cJ⟩:=(sN h hE hT (x.zA.length-(k+1)) (k+1) (by omega) _).1 (zIw h hE hT hk (y:=y));have gM:=vD h (by omega) fq;rw[e,Jp gM,K0 gM,zAI cJ,←e];unfold sgG;rw[yQ];refine zI6 _ (fun j=>(lvl (exx D x m T) k).cs.getD (j-(k+1)) []) [] _ _ _ _ (fun j hj=>?_) (by grind[tW]);rw[tW h hE hT]at hj;rw[show k+1+j-(k+1)=j from by omega,zCf h hE hT hk,J2,J2,Jx (by grind[tW])]
end
end Go.Pl

namespace Go.Pl
open Go Go.Ab Go.Wk Go.Pc
section
variable {x:SPr} (h:Pres x)
 include h
theorem zMR{D:Nat}{m:zB}{T:Mx}(hE:ExB x.zA.length D x m T)(hT:∀i,i<T.length→Row m.Prime D (T.getD i [])){k:Nat}(hk:k≤x.zA.length)(hc:wO (suf (exx D x m T) k)):wO (suf (exx D x m T) (k+1)):=by have hl:=wF h hE hT;have:=hE.m.d1;rw[yG (x:=exx D x m T) (by omega)]at hc;exact hc.1
structure qR (x:SPr) (k:Nat) (z:List Nat) (tr:List (Nat×List Nat)) (y:Vec):Prop where
 col:Col x k z tr (nw k y)
 v:V (suf x k) y
 val:∀(D:Nat)(m:zB)(T:Mx),ExB x.zA.length D x m T→(∀i,i<T.length→Row m.Prime D (T.getD i []))→wO (suf (exx D x m T) (k+1))→fo (exx D x m T) k (zeros ((exx D x m T).zA.length-k)) z=y++tv m.Prime D m T tr
theorem zQi{k:Nat}(hk:k<x.zA.length)(P:∀v:List Nat,(∀a∈v,k+1≤a∧a<x.zA.length)→ ∃tr y,qR x (k+1) v tr y):∀(z:List Nat),(∀a∈z,k≤a∧a<x.zA.length)→ ∀(a:Nat),a<yH x k→ ∀(v:List Nat),(∀a∈v,k+1≤a∧a<x.zA.length)→
  ∃tr y,Col x k (J1 a k++(v++z)) tr (nw k y)∧V (suf x k) y∧ ∀(D:Nat)(m:zB)(T:Mx),ExB x.zA.length D x m T→(∀i,i<T.length→Row m.Prime D (T.getD i []))→wO (suf (exx D x m T) (k+1))→
   fo (exx D x m T) k ((a:Int)::fo (exx D x m T) (k+1) (zeros ((exx D x m T).zA.length-(k+1))) v) z=y++tv m.Prime D m T tr
 | [],_,a,ha,v,hv=>by
  obtain⟨tr,y,c1,c2,c3⟩:=P v hv;have hc:=Col.ctx h hk ha (s:=[]) (by simp) c1;rw[show(fun q:Nat×List Nat=>(q.1,q.2++[]))=id from by grind,List.map_id,Je,Je]at hc;refine⟨tr,(a:Int)::y,?_,?_,fun D m T hE hT hc=>?_⟩
  ·grind[nw]
  ·rw[yG hk]
   refine⟨⟨by omega,?_⟩,c2⟩;show(a:Int)<at0 x.zA k
   grind
  ·rw[c3 D m T hE hT (by grind[zMR])];rfl
 |l::z,hz,a,ha,v,hv=>by
  have eR:∀b∈z,k≤b∧b<x.zA.length:=by grind
  obtain⟨l1,l2⟩:=hz l (by simp);have ml:(a:Int)<at0 x.zA k:=by grind
  rcases Jj k l with g|g
  ·obtain⟨tr,y,c1,c2,c3⟩:=zQi hk P z eR a ha (v++[l]) (by grind)
   refine⟨tr,y,by grind,c2,fun D m T hE hT hc=>?_⟩;rw[←c3 D m T hE hT hc,sO,zMQ h hE hT hk hc g l2 ml,zDa];rfl
  ·obtain rfl:l=k:=by omega
   obtain⟨tr1,y1,c1,c2,c3⟩:=P v hv;have gQ:=zQg h (by omega) c2;have p6:∀b∈(nw (l+1) y1).reverse,l+1≤b∧b<x.zA.length:=by grind
   have k1:=Col.ctx h hk ha (s:=l::z) hz c1;have k2:=Col.move h hk ha p6 (by rw[Km];exact zGj h _ _ (by omega:l+1+(x.zA.length-(l+1))=x.zA.length) y1 c2) eR;rw[Km]at k2;have pf:=zKV h p6;have val:∀(D:Nat)(m:zB)(T:Mx)(hE:ExB x.zA.length D x m T)(hT:∀i,i<T.length→Row m.Prime D (T.getD i []))(hc:wO (suf (exx D x m T) (l+1))),
     fo (exx D x m T) l ((a:Int)::fo (exx D x m T) (l+1) (zeros ((exx D x m T).zA.length-(l+1))) v) (l::z)=adK m.Prime D (x.zA.length-l) (fo (exx D x m T) l (mul (suf (exx D x m T) l) ((a:Int)::(y1++zeros D)) (xM ((exx D x m T).zA.length-l) (l-l))) z) (tv m.Prime D m T (tr1.map fun q=>(q.1,q.2++l::z))):=by
    intro D m T hE hT hc;have hp:=hE.m.p.pos;have ht:=zKT (D:=D) (m:=m) (T:=T) (p:=m.Prime) (by omega) tr1;have ta:=zDA h hE hT (k:=l+1) (by omega) c2 (xQ (p:=m.Prime) (D:=D) (by omega));have aW:V (suf (exx D x m T) l) ((a:Int)::(y1++zeros D)):=by rw[yG (x:=exx D x m T) (by rw[wF h hE hT];omega)];refine⟨⟨by omega,?_⟩,ta⟩;show(a:Int)<at0 (exx D x m T).zA l;rw[tF h hE hT hk];exact ml
    rw[c3 D m T hE hT (zMR h hE hT (by omega) hc),show y1++tv m.Prime D m T tr1=adK m.Prime D (x.zA.length-(l+1)) (y1++zeros D) (tv m.Prime D m T tr1)from by rw[kM h hE hT (by omega) c2,vZ ht],←zAZ h hE hT hk,zQf h hE hT hk hc hz aW ht,zTG (by omega)];rfl
   have foV:∀(D:Nat)(m:zB)(T:Mx)(hE:ExB x.zA.length D x m T)(hT:∀i,i<T.length→Row m.Prime D (T.getD i []))(_hc:wO (suf (exx D x m T) (l+1))),V (suf (exx D x m T) (l+1)) (fo (exx D x m T) (l+1) (zeros ((exx D x m T).zA.length-(l+1))) (cwd x l (nw (l+1) y1).reverse)):=fun D m T hE hT _hc=>zRn h hE hT hk pf (zO2 h hE hT (by omega))
   rcases Jj (a+1) (yH x l)with g2|g2
   ·obtain⟨tr2,y2,d1,d2,d3⟩:=zQi hk P z eR (a+1) g2 (cwd x l (nw (l+1) y1).reverse) pf
    refine⟨_,y2,k1.trans (k2.trans d1),d2,fun D m T hE hT hc=>?_⟩;have hp:=hE.m.p.pos;have ta:=zDA h hE hT (k:=l+1) (by omega) c2 (xQ (p:=m.Prime) (D:=D) (by omega));have g3:(a:Int)+1<at0 x.zA l:=by have:a+1<(at0 x.zA l).toNat:=g2;omega
    have hF:=foV D m T hE hT hc;have aW:V (suf (exx D x m T) l) (((a:Int)+1)::fo (exx D x m T) (l+1) (zeros ((exx D x m T).zA.length-(l+1))) (cwd x l (nw (l+1) y1).reverse)):=by rw[yG (x:=exx D x m T) (by rw[wF h hE hT];omega)];refine⟨⟨by omega,?_⟩,hF⟩;show(a:Int)+1<at0 (exx D x m T).zA l;rw[tF h hE hT hk];exact g3
    have hd:=zO3 (D:=D) (x:=x) (m:=m) (T:=T) (k:=l) (by omega) (nw (l+1) y1).reverse;have d3':=d3 D m T hE hT hc;rw[show(((a+1:Nat):Int))=(a:Int)+1 from by omega]at d3';rw[val D m T hE hT hc,zGB h hE hT hk hc ta,if_neg (by omega),zQh h hE hT hk hc c2,←zAZ h hE hT hk,zQf h hE hT hk hc eR aW hd,d3',kM h hE hT (by omega) d2,kM h hE hT (by omega) d2,←zO4 (by omega),zI5 (by omega),zI5 (by omega),tN,tN (u:=tv m.Prime D m T tr2)]
   ·have g4:a+1=yH x l:=by omega
    have pd:=qK h hk;have pI:=tB h pd hk;have d6:∀b∈nw 0 (x.zS.getD l [])++cwd x l (nw (l+1) y1).reverse,l+1≤b∧b<x.zA.length:=fun b hb=>by
     simp only[Jd]at hb;rcases hb with hb|hb
     ·exact pI.2 b hb
     ·exact pf b hb
    obtain⟨tr2,y2,d1,d2,d3⟩:=zQi hk P z eR 0 (by omega) _ d6;rw[H2,Jv,Jf]at d1;have k3:Col x l (J1 (a+1) l++(cwd x l (nw (l+1) y1).reverse++z)) ((l,cwd x l (nw (l+1) y1).reverse++z)::tr2) (nw l y2):=by
     refine .step (fun b hb=>?_) (by rw[g4];exact zXS (zKU h hk) _) d1;simp only[Jd]at hb;rcases hb with hb|hb|hb
     ·have:=K9 hb;omega
     ·have:=pf b hb;omega
     ·exact eR b hb
    refine⟨_,y2,k1.trans (k2.trans k3),d2,fun D m T hE hT hc=>?_⟩;have hp:=hE.m.p.pos;have ta:=zDA h hE hT (k:=l+1) (by omega) c2 (xQ (p:=m.Prime) (D:=D) (by omega));have g3:(a:Int)+1=at0 x.zA l:=by have:a+1=(at0 x.zA l).toNat:=g4;omega
    have hF:=foV D m T hE hT hc;have hd:=zO3 (D:=D) (x:=x) (m:=m) (T:=T) (k:=l) (by omega) (nw (l+1) y1).reverse;have ey:=zCh h hE hT hk;have cE:V (suf x (l+1)) ((x.zS.getD l []).drop (l+1)):=jZ pd hk;have pS:=zDA h hE hT (k:=l+1) (by omega) cE (xQ (p:=m.Prime) (D:=D) (by omega));have hw:(lvl (exx D x m T) l).w=adK m.Prime D (x.zA.length-(l+1)) ((x.zS.getD l []).drop (l+1)++zeros D) (T.getD l []):=by rw[zIu h hE hT hk,kM h hE hT (by omega) cE,vZ ey];rfl
    have fW:=zRm h hE hT hk;have hFw:=zRn h hE hT hk d6 (zO2 h hE hT (by omega));have em:mul (suf (exx D x m T) (l+1)) (lvl (exx D x m T) l).w (fo (exx D x m T) (l+1) (zeros ((exx D x m T).zA.length-(l+1))) (cwd x l (nw (l+1) y1).reverse))=adK m.Prime D (x.zA.length-(l+1)) (fo (exx D x m T) (l+1) (zeros ((exx D x m T).zA.length-(l+1))) (nw 0 (x.zS.getD l [])++cwd x l (nw (l+1) y1).reverse)) (xY m.Prime D (T.getD l []) (wM m.Prime D m.zF (cwd x l (nw (l+1) y1).reverse) (idM D))):=by rw[←zIA h hE hT hk hc pf fW,hw,zTI h hE hT hk hc pf pS ey,←zI8 h hE hT _ (l+1) (by omega:l+1+(x.zA.length-(l+1))=x.zA.length) hc _ cE,←zDa,←pI.1]
    have aW:V (suf (exx D x m T) l) ((0:Int)::fo (exx D x m T) (l+1) (zeros ((exx D x m T).zA.length-(l+1))) (nw 0 (x.zS.getD l [])++cwd x l (nw (l+1) y1).reverse)):=by rw[yG (x:=exx D x m T) (by rw[wF h hE hT];omega)];refine⟨⟨by omega,?_⟩,hFw⟩;show(0:Int)<at0 (exx D x m T).zA l;rw[tF h hE hT hk];omega
    have d3':=d3 D m T hE hT hc;rw[show(((0:Nat):Int))=0 from rfl]at d3';rw[val D m T hE hT hc,zGB h hE hT hk hc ta,if_pos (by omega),zQh h hE hT hk hc c2,zMP h hE hT hk hc hF hd fW,em,zXT h hE hT (by omega) hFw,g3,Int.sub_self,←zAZ h hE hT hk,zQf h hE hT hk hc eR aW (qJ (by omega)),d3',kM h hE hT (by omega) d2,kM h hE hT (by omega) d2,zFq,←zO4 (by omega),←zFr (by omega),zI5 (by omega),zI5 (by omega)];show y2++adv m.Prime D (adv m.Prime D (tv m.Prime D m T tr2) (adv m.Prime D _ _)) _=y2++adv m.Prime D _ (adv m.Prime D _ (adv m.Prime D _ (tv m.Prime D m T tr2)));rw[tN,tN (u:=tv m.Prime D m T tr2),tN (u:=xY m.Prime D (T.getD l []) _),zDz]
theorem zW7:∀(d k:Nat),k+d=x.zA.length→ ∀z:List Nat,(∀a∈z,k≤a∧a<x.zA.length)→ ∃tr y,qR x k z tr y
 |0,k,hk,z,hz=>by
  have:z=[]:=by
   cases z with
   |nil=>rfl
   |cons a z=>have:=hz a (by simp);omega
  subst this;refine⟨[],[],.refl _,by rw[vT (x:=x) (k:=k) (by omega)];rfl,fun D m T hE hT _=>?_⟩;show zeros _=[]++zeros D;rw[zI7 h hE hT (by omega),show x.zA.length-k=0 from by omega];rfl
 |d+1,k,hk,z,hz=>by have ho:=zKU h (show k<x.zA.length by omega);obtain⟨tr,y,c1,c2,c3⟩:=zQi h (by omega) (zW7 d (k+1) (by omega)) z hz 0 (by omega) [] (by simp);refine⟨tr,y,by grind,c2,fun D m T hE hT hc=>?_⟩;rw[←c3 D m T hE hT hc];have hl:=wF h hE hT;rw[show(exx D x m T).zA.length-k=(exx D x m T).zA.length-(k+1)+1 from by omega];rfl
end
end Go.Pl

namespace Go.Pl
open Go Go.Ab Go.Wk Go.Pc
section
variable {D:Nat}{x:SPr}{m:zB}{T:Mx} (h:Pres x) (hE:ExB x.zA.length D x m T) (hT:∀i,i<T.length→Row m.Prime D (T.getD i []))
 include h hE hT
variable {k:Nat} (hk:k<x.zA.length) (hc:wO (suf (exx D x m T) (k+1)))
 include hk hc
theorem zGZ{w1 w2:List Nat}{t1 t2:List (Nat×List Nat)}{y1 y2:Vec}(k1:qR x k w1 t1 y1)(k2:qR x k w2 t2 y2){r1 r2:Nat}{s1 s2:List Nat}{b:Int}{A1 A2:Vec}(hA1:V (suf (exx D x m T) (k+1)) A1)(hA2:V (suf (exx D x m T) (k+1)) A2)
  (v1:fo (exx D x m T) k (zeros ((exx D x m T).zA.length-k)) w1=b::A1)(v2:fo (exx D x m T) k (zeros ((exx D x m T).zA.length-k)) w2=b::A2)
  (ey:(adK m.Prime D (x.zA.length-(k+1)) A1 (xY m.Prime D (T.getD r1 []) (wM m.Prime D m.zF s1 (idM D)))).take (x.zA.length-(k+1))=(adK m.Prime D (x.zA.length-(k+1)) A2 (xY m.Prime D (T.getD r2 []) (wM m.Prime D m.zF s2 (idM D)))).take (x.zA.length-(k+1))):
  tv m.Prime D m T ((r1,s1)::t1)=tv m.Prime D m T ((r2,s2)::t2)↔adK m.Prime D (x.zA.length-(k+1)) A1 (xY m.Prime D (T.getD r1 []) (wM m.Prime D m.zF s1 (idM D)))=adK m.Prime D (x.zA.length-(k+1)) A2 (xY m.Prime D (T.getD r2 []) (wM m.Prime D m.zF s2 (idM D))):=by
 have _:=hA1;have _:=hA2;have key:∀(w:List Nat)(t:List (Nat×List Nat))(y:Vec)(A:Vec)(r:Nat)(s:List Nat),qR x k w t y→fo (exx D x m T) k (zeros ((exx D x m T).zA.length-k)) w=b::A→
   b::adK m.Prime D (x.zA.length-(k+1)) A (xY m.Prime D (T.getD r []) (wM m.Prime D m.zF s (idM D)))=y++tv m.Prime D m T ((r,s)::t):=by
  intro w t y A r s kc v;rw[←zAZ h hE hT hk,←v,kc.val D m T hE hT hc,kM h hE hT (by omega) kc.v,tN];rfl
 have e1:=key w1 t1 y1 A1 r1 s1 k1 v1;have e2:=key w2 t2 y2 A2 r2 s2 k2 v2;have l1:=vD h (by omega) k1.v;have l2:=vD h (by omega) k2.v;have hy:y1=y2:=by
  have a1:=congrArg (Jb7 (x.zA.length-(k+1)+1)) e1;have a2:=congrArg (Jb7 (x.zA.length-(k+1)+1)) e2
  grind
 subst hy;constructor
 all_goals grind[List.append_cancel_left]
theorem zEz{v:List Nat}(hv:∀a∈v,k+1≤a∧a<x.zA.length){z:List Nat}:fo (exx D x m T) k (zeros ((exx D x m T).zA.length-k)) (v++k::z)=fo (exx D x m T) k ((1:Int)::sig (suf (exx D x m T) (k+1)) (lvl (exx D x m T) k) (fo (exx D x m T) (k+1) (zeros ((exx D x m T).zA.length-(k+1))) v)) z:=by
 have ho:=(h.os.2 k hk).pos;have hl:=wF h hE hT;have hF:=zRn h hE hT hk hv (zO2 h hE hT (by omega));rw[show zeros ((exx D x m T).zA.length-k)=0::zeros ((exx D x m T).zA.length-(k+1))from by rw[show(exx D x m T).zA.length-k=(exx D x m T).zA.length-(k+1)+1 from by omega];rfl,zDa,zI9 h hE hT hk hc (by omega) v _ hv,sO,zGB h hE hT hk hc hF,if_neg (by omega)];rfl
 omit hc in
theorem zFs{y:Vec}(hy:V (suf x (k+1)) y):sig (suf (exx D x m T) (k+1)) (lvl (exx D x m T) k) (y++zeros D)=(nw (k+1) y).foldl (fun acc j=>mul (suf (exx D x m T) (k+1)) acc ((lvl (exx D x m T) k).cs.getD (j-(k+1)) [])) (zeros ((exx D x m T).zA.length-(k+1))):=by
  have hp:=hE.m.p.pos;have e7:=vD h (by omega) hy;rw[zCg h hE hT hk hy (xQ (by omega)),zAJ];obtain⟨y1,u1,e,fq,cJ⟩:=(sN h hE hT (x.zA.length-(k+1)) (k+1) (by omega) _).1 (zIw h hE hT hk (y:=y));have gM:=vD h (by omega) fq;rw[e,Jp gM,K0 gM,zAI cJ,←e];unfold sgG;rw[yQ];refine zI6 _ (fun j=>(lvl (exx D x m T) k).cs.getD (j-(k+1)) []) [] _ _ _ _ (fun j hj=>?_) (by grind[tW])
  grind[zCf]
 omit hc in
theorem zMS{j:Nat}(h1:k+1≤j)(h2:j<x.zA.length):V (suf (exx D x m T) (k+1)) ((lvl (exx D x m T) k).cs.getD (j-(k+1)) []):=by
  have gC:V (suf x (k+1)) ((lcj x k j).drop (k+1)):=by grind[jZ,uB]
  rw[zIy h hE hT hk h1 h2,show(lvl x k).cs.getD (j-(k+1)) []=(lcj x k j).drop (k+1)from map_drop]
  grind[zDA,zDQ]
theorem zMT:∀{v:List Nat},(∀a∈v,k+1≤a∧a<x.zA.length)→ ∀{e f:Vec},V (suf (exx D x m T) (k+1)) e→V (suf (exx D x m T) (k+1)) f→v.foldl (fun acc j=>mul (suf (exx D x m T) (k+1)) acc ((lvl (exx D x m T) k).cs.getD (j-(k+1)) [])) (mul (suf (exx D x m T) (k+1)) e f)=mul (suf (exx D x m T) (k+1)) e (v.foldl (fun acc j=>mul (suf (exx D x m T) (k+1)) acc ((lvl (exx D x m T) k).cs.getD (j-(k+1)) [])) f)
 | [],_,_,_,_,_=>rfl
 |a::w,hw,e,f,he,hf=>by have gB:=uG h hE hT (k:=k+1) (by omega);have G:=(zCK _ gB hc).toMon;have hg:=zMS h hE hT hk (hw a (by simp)).1 (hw a (by simp)).2;simp only[Gd];rw[G.assoc he hf hg,zMT (by grind) he (G.cl hf hg)]
theorem csE{j:Nat}(h1:k+1≤j)(h2:j<x.zA.length):V (suf x (k+1)) ((lcj x k j).drop (k+1))∧(lvl (exx D x m T) k).cs.getD (j-(k+1)) []=adK m.Prime D (x.zA.length-(k+1)) ((lcj x k j).drop (k+1)++zeros D) (T.getD (base x.zA.length k+(j-(k+1))) [])∧
  fo (exx D x m T) (k+1) (zeros ((exx D x m T).zA.length-(k+1))) (nw 0 (lcj x k j))=(lcj x k j).drop (k+1)++zeros D∧(∀a∈nw 0 (lcj x k j),k+1≤a∧a<x.zA.length):=by
 have gC:V (suf x (k+1)) ((lcj x k j).drop (k+1)):=by grind[jZ,uB]
 have cZ:=tB h (uB h (show k<j by omega) h2) hk;refine⟨gC,?_,?_,cZ.2⟩
 ·rw[zIy h hE hT hk h1 h2,show(lvl x k).cs.getD (j-(k+1)) []=(lcj x k j).drop (k+1)from map_drop,kM h hE hT (by omega) gC,vZ (zDQ h hE hT (by omega) h2)]
 ·rw[cZ.1];exact zI8 h hE hT _ (k+1) (by omega:k+1+(x.zA.length-(k+1))=x.zA.length) hc _ gC
theorem wE:V (suf x (k+1)) ((x.zS.getD k []).drop (k+1))∧(lvl (exx D x m T) k).w=adK m.Prime D (x.zA.length-(k+1)) ((x.zS.getD k []).drop (k+1)++zeros D) (T.getD k [])∧
  fo (exx D x m T) (k+1) (zeros ((exx D x m T).zA.length-(k+1))) (nw 0 (x.zS.getD k []))=(x.zS.getD k []).drop (k+1)++zeros D∧(∀a∈nw 0 (x.zS.getD k []),k+1≤a∧a<x.zA.length):=by
 have cE:V (suf x (k+1)) ((x.zS.getD k []).drop (k+1)):=jZ (qK h hk) hk;have pI:=tB h (qK h hk) hk;refine⟨cE,?_,?_,pI.2⟩
 ·rw[zIu h hE hT hk,kM h hE hT (by omega) cE,vZ (zCh h hE hT hk)];rfl
 ·rw[pI.1];exact zI8 h hE hT _ (k+1) (by omega:k+1+(x.zA.length-(k+1))=x.zA.length) hc _ cE
 omit hc in
theorem zKW{a:Nat}(ha:a<x.zA.length):wM m.Prime D m.zF [a] (idM D)=m.zF.getD a []:=by have _:=h;have _:=hT;have _:=hk;show PM m.Prime D (idM D) (m.zF.getD a [])=_;exact zBX (hE.m.mat a ha)
theorem zXW(hL:LC x k){t1 t2:List (Nat×List Nat)}{y1 y2:Vec}(k1:qR x k (nw 0 (x.zS.getD k [])++[k]) t1 y1)(k2:qR x k (k::nw 0 (x.zS.getD k [])) t2 y2):
  tv m.Prime D m T ((k,[k])::t1)=tv m.Prime D m T ((k,[])::t2)↔sig (suf (exx D x m T) (k+1)) (lvl (exx D x m T) k) (lvl (exx D x m T) k).w=(lvl (exx D x m T) k).w:=by
 have hp:=hE.m.p.pos;have ho:=(h.os.2 k hk).pos;obtain⟨w1,w2,w3,w4⟩:=wE h hE hT hk hc;have ey:=zCh h hE hT hk;have pS:=zDA h hE hT (k:=k+1) (by omega) w1 (xQ (p:=m.Prime) (D:=D) (by omega));have fW:=zRm h hE hT hk;have v1:=zEz h hE hT hk hc w4 (z:=[]);rw[w3]at v1;have v2:=zEz h hE hT hk hc (v:=[]) (by simp) (z:=nw 0 (x.zS.getD k []));have hz:fo (exx D x m T) (k+1) (zeros ((exx D x m T).zA.length-(k+1))) []=zeros ((exx D x m T).zA.length-(k+1)):=rfl;have hs:sig (suf (exx D x m T) (k+1)) (lvl (exx D x m T) k) (zeros ((exx D x m T).zA.length-(k+1)))=zeros ((exx D x m T).zA.length-(k+1)):=by grind[sig,qG,yQ]
 rw[hz,hs,zI9 h hE hT hk hc (by omega) _ _ w4,w3]at v2;have e1:adK m.Prime D (x.zA.length-(k+1)) (sig (suf (exx D x m T) (k+1)) (lvl (exx D x m T) k) ((x.zS.getD k []).drop (k+1)++zeros D)) (xY m.Prime D (T.getD k []) (wM m.Prime D m.zF [k] (idM D)))=sig (suf (exx D x m T) (k+1)) (lvl (exx D x m T) k) (lvl (exx D x m T) k).w:=by grind[zKW,zI4]
 have e2:adK m.Prime D (x.zA.length-(k+1)) ((x.zS.getD k []).drop (k+1)++zeros D) (xY m.Prime D (T.getD k []) (wM m.Prime D m.zF [] (idM D)))=(lvl (exx D x m T) k).w:=by rw[show wM m.Prime D m.zF [] (idM D)=idM D from rfl,jT ey,w2]
 have:=zGZ h hE hT hk hc k1 k2 (r1:=k) (r2:=k) (s1:=[k]) (s2:=[]) (zAK h hE hT hk pS) pS v1 v2 (by rw[e1,e2,zEw h hE hT hk fW,zIu h hE hT hk,Jp (by have:=vD h (by omega) w1;exact this)];exact hL.c3)
 grind
end
end Go.Pl

namespace Go.Pl
open Go Go.Ab Go.Wk Go.Pc
theorem zXX:∀(a o:Nat)(b:Int)(c:Vec),nw o (zeros a++b::c)=J1 b.toNat (o+a)++nw (o+a+1) c
 |0,o,b,c=>rfl
 |a+1,o,b,c=>by rw[show zeros (a+1)++b::c=0::(zeros a++b::c)from rfl];simp only[nw,Gw,H2,Jv];rw[zXX a (o+1) b c,show o+1+a=o+(a+1)from by omega]
theorem zKX{os v:List Int}{j k:Nat}(hv:Exp os v j)(hk:k≤j):Exp os v k:=⟨hv.1,fun i hi=>hv.2 i (by omega)⟩
section
variable {x:SPr} (h:Pres x)
 include h
theorem zXY:∀(a k:Nat){b:Int}{c:Vec},k+a<x.zA.length→0≤b→b<at0 x.zA (k+a)→V (suf x (k+a+1)) c→V (suf x k) (zeros a++b::c)
 |0,k,b,c,ha,h0,h1,hc=>by rw[yG (x:=x) (by omega)];exact⟨⟨h0,h1⟩,hc⟩
 |a+1,k,b,c,ha,h0,h1,hc=>by
  have:=(h.os.2 k (by omega)).pos;rw[yG (x:=x) (by omega)];refine⟨⟨Int.le_refl 0,?_⟩,?_⟩
  ·show(0:Int)<at0 x.zA k
   omega
  ·exact zXY a (k+1) (by omega) h0 (by grind) (by grind)
end
section
variable {D:Nat}{x:SPr}{m:zB}{T:Mx} (h:Pres x) (hE:ExB x.zA.length D x m T) (hT:∀i,i<T.length→Row m.Prime D (T.getD i []))
 include h hE hT
variable {k:Nat} (hk:k<x.zA.length) (hc:wO (suf (exx D x m T) (k+1)))
 include hk hc
theorem zO5{j:Nat}(h1:k+1≤j)(h2:j<x.zA.length){b:Int}(h0:0≤b)(hb:b<at0 x.zA j){c:Vec}(pg:V (suf x (j+1)) c):V (suf x (k+1)) (zeros (j-(k+1))++b::c)∧nw (k+1) (zeros (j-(k+1))++b::c)=J1 b.toNat j++nw (j+1) c∧
  fo (exx D x m T) (k+1) (zeros ((exx D x m T).zA.length-(k+1))) (J1 b.toNat j++nw (j+1) c)=(zeros (j-(k+1))++b::c)++zeros D:=by
 have e:k+1+(j-(k+1))=j:=by omega
 have hv:V (suf x (k+1)) (zeros (j-(k+1))++b::c):=by grind[zXY]
 have hn:nw (k+1) (zeros (j-(k+1))++b::c)=J1 b.toNat j++nw (j+1) c:=by rw[zXX,e]
 refine⟨hv,hn,?_⟩;rw[←hn];exact zI8 h hE hT _ (k+1) (by omega:k+1+(x.zA.length-(k+1))=x.zA.length) hc _ hv
theorem zQj{e:Vec}(he:V (suf (exx D x m T) (k+1)) e):mul (suf (exx D x m T) (k+1)) (zeros ((exx D x m T).zA.length-(k+1))) e=e:=by
 have G:=(zCK _ (uG h hE hT (k:=k+1) (by omega)) hc).toMon;have:=G.onel he
 grind[yQ]
theorem zQk{j:Nat}(h1:k+1≤j)(h2:j<x.zA.length):fo (exx D x m T) (k+1) (zeros ((exx D x m T).zA.length-(k+1))) [j]=xM ((exx D x m T).zA.length-(k+1)) (j-(k+1))∧sig (suf (exx D x m T) (k+1)) (lvl (exx D x m T) k) (xM ((exx D x m T).zA.length-(k+1)) (j-(k+1)))=(lvl (exx D x m T) k).cs.getD (j-(k+1)) []:=by
 have ho:=(h.os.2 j h2).pos;have hz:V (suf x (j+1)) (zeros (x.zA.length-(j+1))):=by have:=wS (h.okAt (k:=j+1) (by omega));grind[yQ]
 obtain⟨v1,v2,v3⟩:=zO5 h hE hT hk hc h1 h2 (b:=1) (by omega) (by omega) hz;have hn:nw (j+1) (zeros (x.zA.length-(j+1)))=[]:=zCZ _ _;rw[hn]at v2 v3;have hf:fo (exx D x m T) (k+1) (zeros ((exx D x m T).zA.length-(k+1))) [j]=xM ((exx D x m T).zA.length-(k+1)) (j-(k+1)):=zQj h hE hT hk hc (zDb h hE hT h1 h2);refine⟨hf,?_⟩;rw[←hf];have v3':fo (exx D x m T) (k+1) (zeros ((exx D x m T).zA.length-(k+1))) [j]=_:=v3
 grind[zFs,zQj,zMS]
theorem zXZ(hL:LC x k){j:Nat}(h1:k+1≤j)(h2:j<x.zA.length){t1 t2:List (Nat×List Nat)}{y1 y2:Vec}(k1:qR x k (nw 0 (x.zS.getD j [])++[k]) t1 y1)(k2:qR x k (J1 (yH x j-1) j++k::nw 0 (lcj x k j)) t2 y2):
  tv m.Prime D m T ((j,[k])::t1)=tv m.Prime D m T ((base x.zA.length k+(j-(k+1)),[])::t2)↔c1E (exx D x m T) k j:=by
 have hp:=hE.m.p.pos;have ho:=(h.os.2 k hk).pos;have hj:=(h.os.2 j h2).pos;have pd:=zKX (qK h h2) (show k≤j by omega);have cE:V (suf x (k+1)) ((x.zS.getD j []).drop (k+1)):=jZ pd hk;have pI:=tB h pd hk;have a7:=zCh h hE hT h2;have pS:=zDA h hE hT (k:=k+1) (by omega) cE (xQ (p:=m.Prime) (D:=D) (by omega));obtain⟨c1,c2,c3,c4⟩:=csE h hE hT hk hc h1 h2;have cQ:=zDA h hE hT (k:=k+1) (by omega) c1 (xQ (p:=m.Prime) (D:=D) (by omega));have hcV:=zMS h hE hT hk h1 h2;have ey:=zDQ h hE hT (show k<j by omega) h2;have mH:V (suf x (j+1)) (zeros (x.zA.length-(j+1))):=by have:=wS (h.okAt (k:=j+1) (by omega));rwa [yQ]at this
 obtain⟨u1,u2,u3⟩:=zO5 h hE hT hk hc h1 h2 (b:=at0 x.zA j-1) (by omega) (by omega) mH;rw[zCZ,Je,show(at0 x.zA j-1).toNat=yH x j-1 from by show _=(at0 x.zA j).toNat-1;omega]at u2 u3;have gB:=uG h hE hT (k:=k+1) (by omega);have G:=(zCK _ gB hc).toMon;have v1:=zEz h hE hT hk hc pI.2 (z:=[]);rw[pI.1,zI8 h hE hT _ (k+1) (by omega:k+1+(x.zA.length-(k+1))=x.zA.length) hc _ cE,←pI.1]at v1;have hr:∀a∈J1 (yH x j-1) j,k+1≤a∧a<x.zA.length:=fun a ha=>by have:=K9 ha;omega
 have v2:=zEz h hE hT hk hc hr (z:=nw 0 (lcj x k j));have ud:∀q(e:Vec),(J1 q j).foldl (fun acc j=>mul (suf (exx D x m T) (k+1)) acc ((lvl (exx D x m T) k).cs.getD (j-(k+1)) [])) e=iter q (fun v=>mul (suf (exx D x m T) (k+1)) v ((lvl (exx D x m T) k).cs.getD (j-(k+1)) [])) e:=by
  intro q
  induction q with
  |zero=>intro e;rfl
  |succ q ih=>intro e;rw[Ju,Gd,ih];rfl
 have hpq:sig (suf (exx D x m T) (k+1)) (lvl (exx D x m T) k) (fo (exx D x m T) (k+1) (zeros ((exx D x m T).zA.length-(k+1))) (J1 (yH x j-1) j))=pw (mul (suf (exx D x m T) (k+1))) (zeros (suf (exx D x m T) (k+1)).length) ((lvl (exx D x m T) k).cs.getD (j-(k+1)) []) (yH x j-1):=by rw[u3,zFs h hE hT hk u1,u2,ud,yQ];rfl
 have uk:V (suf (exx D x m T) (k+1)) (pw (mul (suf (exx D x m T) (k+1))) (zeros (suf (exx D x m T) (k+1)).length) ((lvl (exx D x m T) k).cs.getD (j-(k+1)) []) (yH x j-1)):=tS G hcV _;rw[hpq,zI9 h hE hT hk hc (by omega) _ _ c4,zIA h hE hT hk hc c4 uk,c3]at v2;have e1:adK m.Prime D (x.zA.length-(k+1)) (sig (suf (exx D x m T) (k+1)) (lvl (exx D x m T) k) ((x.zS.getD j []).drop (k+1)++zeros D)) (xY m.Prime D (T.getD j []) (wM m.Prime D m.zF [k] (idM D)))=sig (suf (exx D x m T) (k+1)) (lvl (exx D x m T) k) (((exx D x m T).zS.getD j []).drop (k+1)):=by rw[zKW h hE hT hk hk,zEu h hE hT (by omega) h2,←zI4 h hE hT hk pS a7,kM h hE hT (by omega) cE,vZ a7]
 have e2:adK m.Prime D (x.zA.length-(k+1)) (mul (suf (exx D x m T) (k+1)) (pw (mul (suf (exx D x m T) (k+1))) (zeros (suf (exx D x m T) (k+1)).length) ((lvl (exx D x m T) k).cs.getD (j-(k+1)) []) (yH x j-1)) ((lcj x k j).drop (k+1)++zeros D)) (xY m.Prime D (T.getD (base x.zA.length k+(j-(k+1))) []) (wM m.Prime D m.zF [] (idM D)))=pw (mul (suf (exx D x m T) (k+1))) (zeros (suf (exx D x m T) (k+1)).length) ((lvl (exx D x m T) k).cs.getD (j-(k+1)) []) (at0 (exx D x m T).zA j).toNat:=by
  rw[show wM m.Prime D m.zF [] (idM D)=idM D from rfl,jT ey,←zMP h hE hT hk hc cQ ey uk,←c2,tF h hE hT h2,show(at0 x.zA j).toNat=(yH x j-1)+1 from by show _=(at0 x.zA j).toNat-1+1;omega]
  conv=>rhs;rw[pw,vH]
  rfl
 have eP:V (suf (exx D x m T) (k+1)) (((exx D x m T).zS.getD j []).drop (k+1)):=by rw[zEu h hE hT (by omega) h2];exact zDA h hE hT (by omega) cE a7
 have:=zGZ h hE hT hk hc k1 k2 (r1:=j) (r2:=base x.zA.length k+(j-(k+1))) (s1:=[k]) (s2:=[]) (zAK h hE hT hk pS) (xH gB uk cQ) v1 v2 (by rw[e1,e2,zEw h hE hT hk eP,zI2 h hE hT hk (by omega) h2,zXR h hE hT (by omega) hcV,zJR h hE hT hk h1 h2,tF h hE hT h2];exact(hL.c1 j h1 h2).symm)
 rw[e1,e2]at this;rw[this];exact eq_comm
theorem zYa(hL:LC x k){i j:Nat}(h1:k+1≤i)(gO:i<j)(h2:j<x.zA.length){t1 t2:List (Nat×List Nat)}{y1 y2:Vec}(k1:qR x k (i::(nw 0 (lcj x i j)++[k])) t1 y1)(k2:qR x k (j::k::nw 0 (lcj x k i)) t2 y2):
  tv m.Prime D m T ((base x.zA.length i+(j-(i+1)),[k])::t1)=tv m.Prime D m T ((base x.zA.length k+(i-(k+1)),[])::t2)↔c2E (exx D x m T) k i j:=by
 have hp:=hE.m.p.pos;have ho:=(h.os.2 k hk).pos;have hi:=(h.os.2 i (by omega)).pos;have bq:=uB h gO h2;have bY:=zKX bq (show k≤i by omega);have bX:V (suf x (k+1)) ((lcj x i j).drop (k+1)):=jZ bY hk;have hci:V (suf x (i+1)) ((lcj x i j).drop (i+1)):=jZ bq (by omega);have hn:=tB h bY hk;have hni:=tB h bq (by omega);have a8:=zDQ h hE hT gO h2;have du:=zDA h hE hT (k:=k+1) (by omega) bX (xQ (p:=m.Prime) (D:=D) (by omega));obtain⟨c1,c2,c3,c4⟩:=csE h hE hT hk hc h1 (show i<x.zA.length by omega);have cQ:=zDA h hE hT (k:=k+1) (by omega) c1 (xQ (p:=m.Prime) (D:=D) (by omega));have cz:=zMS h hE hT hk h1 (show i<x.zA.length by omega);have mg:=zMS h hE hT hk (show k+1≤j by omega) h2;have ey:=zDQ h hE hT (show k<i by omega) (show i<x.zA.length by omega);have gB:=uG h hE hT (k:=k+1) (by omega);obtain⟨u1,u2,u3⟩:=zO5 h hE hT hk hc h1 (show i<x.zA.length by omega) (b:=1) (by omega) (by omega) hci;rw[←hni.1,show J1 (1:Int).toNat i++nw 0 (lcj x i j)=i::nw 0 (lcj x i j)from rfl]at u2 u3;have hr:∀a∈i::nw 0 (lcj x i j),k+1≤a∧a<x.zA.length:=fun a ha=>by
  simp only[J9]at ha;rcases ha with rfl|ha
  ·omega
  ·exact hn.2 a ha
 have v1:=zEz h hE hT hk hc hr (z:=[]);have es:sig (suf (exx D x m T) (k+1)) (lvl (exx D x m T) k) (fo (exx D x m T) (k+1) (zeros ((exx D x m T).zA.length-(k+1))) (i::nw 0 (lcj x i j)))=mul (suf (exx D x m T) (k+1)) ((lvl (exx D x m T) k).cs.getD (i-(k+1)) []) (sig (suf (exx D x m T) (k+1)) (lvl (exx D x m T) k) ((lcj x i j).drop (k+1)++zeros D)):=by rw[u3,zFs h hE hT hk u1,u2,Gd,zQj h hE hT hk hc cz,zFs h hE hT hk bX,←hn.1];have:=zMT h hE hT hk hc hn.2 cz (zO2 h hE hT (k:=k+1) (by omega));rw[zZ0 h hE hT (by omega) cz]at this;exact this
 rw[es]at v1;have v2:=zEz h hE hT hk hc (v:=[j]) (fun a ha=>by simp only[List.mem_singleton]at ha;omega) (z:=nw 0 (lcj x k i));obtain⟨g1,g2⟩:=zQk h hE hT hk hc (show k+1≤j by omega) h2;rw[g1,g2,zI9 h hE hT hk hc (by omega) _ _ c4,zIA h hE hT hk hc c4 mg,c3]at v2;have p9:=zAK h hE hT hk du;have eH:((((exx D x m T).zG.getD i []).getD (j-(i+1)) []).drop (k+1))=adK m.Prime D (x.zA.length-(k+1)) ((lcj x i j).drop (k+1)++zeros D) (T.getD (base x.zA.length i+(j-(i+1))) []):=by rw[zGg h hE hT (by omega) gO h2,kM h hE hT (by omega) bX,vZ a8]
 have e1:adK m.Prime D (x.zA.length-(k+1)) (mul (suf (exx D x m T) (k+1)) ((lvl (exx D x m T) k).cs.getD (i-(k+1)) []) (sig (suf (exx D x m T) (k+1)) (lvl (exx D x m T) k) ((lcj x i j).drop (k+1)++zeros D))) (xY m.Prime D (T.getD (base x.zA.length i+(j-(i+1))) []) (wM m.Prime D m.zF [k] (idM D)))=mul (suf (exx D x m T) (k+1)) ((lvl (exx D x m T) k).cs.getD (i-(k+1)) []) (sig (suf (exx D x m T) (k+1)) (lvl (exx D x m T) k) ((((exx D x m T).zG.getD i []).getD (j-(i+1)) []).drop (k+1))):=by rw[zKW h hE hT hk hk,←zMP h hE hT hk hc p9 (vA (by omega)) cz,←zI4 h hE hT hk du a8,←eH]
 have e2:adK m.Prime D (x.zA.length-(k+1)) (mul (suf (exx D x m T) (k+1)) ((lvl (exx D x m T) k).cs.getD (j-(k+1)) []) ((lcj x k i).drop (k+1)++zeros D)) (xY m.Prime D (T.getD (base x.zA.length k+(i-(k+1))) []) (wM m.Prime D m.zF [] (idM D)))=mul (suf (exx D x m T) (k+1)) ((lvl (exx D x m T) k).cs.getD (j-(k+1)) []) ((lvl (exx D x m T) k).cs.getD (i-(k+1)) []):=by rw[show wM m.Prime D m.zF [] (idM D)=idM D from rfl,jT ey,←zMP h hE hT hk hc cQ ey mg,←c2]
 have aR:V (suf (exx D x m T) (k+1)) ((((exx D x m T).zG.getD i []).getD (j-(i+1)) []).drop (k+1)):=by rw[eH];exact zZ1 h hE hT (by omega) du
 have:=zGZ h hE hT hk hc k1 k2 (r1:=base x.zA.length i+(j-(i+1))) (r2:=base x.zA.length k+(i-(k+1))) (s1:=[k]) (s2:=[]) (xH gB cz p9) (xH gB mg cQ) v1 v2 (by rw[e1,e2,zCj h hE hT (by omega) cz (zAK h hE hT hk aR),zCj h hE hT (by omega) mg cz,zEw h hE hT hk aR,zJR h hE hT hk h1 (by omega),zJR h hE hT hk (by omega) h2,zT9 h hE hT hk h1 gO h2];exact(hL.c2 i h1 (by omega) j (by omega) h2).symm)
 rw[e1,e2]at this;rw[this];exact eq_comm
end
end Go.Pl

namespace Go.Pl
open Go Go.Ab Go.Wk Go.Pc
section
variable {D:Nat}{x:SPr}{m:zB}{T:Mx} (h:Pres x) (hE:ExB x.zA.length D x m T) (hT:∀i,i<T.length→Row m.Prime D (T.getD i []))
 include h hE hT
variable {k:Nat} (hk:k<x.zA.length) (hc:wO (suf (exx D x m T) (k+1)))
 include hk hc
 omit hc in
theorem zO6:∀(q:Nat){e:Vec},V (suf (exx D x m T) (k+1)) e→V (suf (exx D x m T) (k+1)) (iter q (sig (suf (exx D x m T) (k+1)) (lvl (exx D x m T) k)) e)
  |0,_,he=>he
  |q+1,_,he=>zO6 q (zAK h hE hT hk he)
 omit hc in
theorem zYb:∀(q:Nat){e d:Vec},V (suf (exx D x m T) (k+1)) e→Row m.Prime D d→iter q (sig (suf (exx D x m T) (k+1)) (lvl (exx D x m T) k)) (adK m.Prime D (x.zA.length-(k+1)) e d)=adK m.Prime D (x.zA.length-(k+1)) (iter q (sig (suf (exx D x m T) (k+1)) (lvl (exx D x m T) k)) e) (xY m.Prime D d (wM m.Prime D m.zF (J1 q k) (idM D)))
  |0,e,d,_,hd=>by show adK _ _ _ e d=adK _ _ _ e (xY m.Prime D d (idM D));rw[jT hd]
  |q+1,e,d,he,hd=>by have hp:=hE.m.p.pos;show iter q _ (sig _ _ (adK _ _ _ e d))=adK _ _ _ (iter q _ (sig _ _ e)) _;rw[zI4 h hE hT hk he hd,zYb q (zAK h hE hT hk he) (vA (by omega)),Ju,show k::J1 q k=[k]++J1 q k from rfl,zFr (by omega),zKW h hE hT hk hk]
theorem zTL:∀(q:Nat){c:Int}{e:Vec},0≤c→c+(q:Int)<at0 x.zA k→V (suf (exx D x m T) (k+1)) e→fo (exx D x m T) k (c::e) (J1 q k)=(c+(q:Int))::iter q (sig (suf (exx D x m T) (k+1)) (lvl (exx D x m T) k)) e
 |0,c,e,_,_,_=>by
  show c::e=(c+((0:Nat):Int))::e
  congr 1;omega
 |q+1,c,e,h0,h1,he=>by
  rw[Ju,sO,zGB h hE hT hk hc he,if_neg (by omega),zTL q (by omega) (by omega) (zAK h hE hT hk he)];show(c+1+(q:Int))::iter q _ (sig _ _ e)=(c+((q+1:Nat):Int))::iter q _ (sig _ _ e)
  congr 1;omega
theorem zYc(hL:LC x k){j:Nat}(h1:k+1≤j)(h2:j<x.zA.length){t1 t2:List (Nat×List Nat)}{y1 y2:Vec}(k1:qR x k (k::(nw 0 (lcj x k j)++J1 (yH x k-1) k)) t1 y1)(k2:qR x k (j::nw 0 (x.zS.getD k [])) t2 y2):
  tv m.Prime D m T ((base x.zA.length k+(j-(k+1)),J1 (yH x k-1) k)::t1)=tv m.Prime D m T ((k,[])::t2)↔c4E (exx D x m T) k j:=by
 have hp:=hE.m.p.pos;have ho:=(h.os.2 k hk).pos;have hon:(yH x k:Int)=at0 x.zA k:=by show(((at0 x.zA k).toNat:Nat):Int)=_;omega
 obtain⟨w1,w2,w3,w4⟩:=wE h hE hT hk hc;have pS:=zDA h hE hT (k:=k+1) (by omega) w1 (xQ (p:=m.Prime) (D:=D) (by omega));have fW:=zRm h hE hT hk;have ey:=zCh h hE hT hk;obtain⟨c1,c2,c3,c4⟩:=csE h hE hT hk hc h1 h2;have cQ:=zDA h hE hT (k:=k+1) (by omega) c1 (xQ (p:=m.Prime) (D:=D) (by omega));have a7:=zDQ h hE hT (show k<j by omega) h2;have gB:=uG h hE hT (k:=k+1) (by omega);have hg:=zDb h hE hT h1 h2;obtain⟨g1,g2⟩:=zQk h hE hT hk hc h1 h2;have hz:fo (exx D x m T) (k+1) (zeros ((exx D x m T).zA.length-(k+1))) []=zeros ((exx D x m T).zA.length-(k+1)):=rfl;have hs:sig (suf (exx D x m T) (k+1)) (lvl (exx D x m T) k) (zeros ((exx D x m T).zA.length-(k+1)))=zeros ((exx D x m T).zA.length-(k+1)):=by unfold sig;rw[qG,yQ]
 have hl:=wF h hE hT;have v1:=zEz h hE hT hk hc (v:=[]) (fun a ha=>by simp at ha) (z:=nw 0 (lcj x k j)++J1 (yH x k-1) k);rw[hz,hs]at v1;have v0:=v1.trans (zDa (e:=exx D x m T) (k:=k) (u:=(1:Int)::zeros ((exx D x m T).zA.length-(k+1))) (v:=nw 0 (lcj x k j)) (w:=J1 (yH x k-1) k));rw[zI9 h hE hT hk hc (by omega) _ _ c4,c3]at v0;have ei:=zO6 h hE hT hk (yH x k-2) cQ;have v1':fo (exx D x m T) k (zeros ((exx D x m T).zA.length-k)) (k::(nw 0 (lcj x k j)++J1 (yH x k-1) k))=0::mul (suf (exx D x m T) (k+1)) (lvl (exx D x m T) k).w (iter (yH x k-1) (sig (suf (exx D x m T) (k+1)) (lvl (exx D x m T) k)) ((lcj x k j).drop (k+1)++zeros D)):=by
  refine v0.trans ?_;rw[show yH x k-1=(yH x k-2)+1 from by omega,Lw,zDa,zTL h hE hT hk hc (yH x k-2) (by omega) (by omega) cQ];show mul _ _ _=_;rw[zGB h hE hT hk hc ei,if_pos (by omega),vH]
  congr 1;omega
 have hr:∀a∈j::nw 0 (x.zS.getD k []),k+1≤a∧a<x.zA.length:=fun a ha=>by
  simp only[J9]at ha;rcases ha with rfl|ha
  ·omega
  ·exact w4 a ha
 have v2:fo (exx D x m T) k (zeros ((exx D x m T).zA.length-k)) (j::nw 0 (x.zS.getD k []))=0::mul (suf (exx D x m T) (k+1)) (xM ((exx D x m T).zA.length-(k+1)) (j-(k+1))) ((x.zS.getD k []).drop (k+1)++zeros D):=by rw[show zeros ((exx D x m T).zA.length-k)=0::zeros ((exx D x m T).zA.length-(k+1))from by rw[show(exx D x m T).zA.length-k=(exx D x m T).zA.length-(k+1)+1 from by omega];rfl,zI9 h hE hT hk hc (by omega) _ _ hr,sO,zQj h hE hT hk hc hg,zIA h hE hT hk hc w4 hg,w3]
 have e1:adK m.Prime D (x.zA.length-(k+1)) (mul (suf (exx D x m T) (k+1)) (lvl (exx D x m T) k).w (iter (yH x k-1) (sig (suf (exx D x m T) (k+1)) (lvl (exx D x m T) k)) ((lcj x k j).drop (k+1)++zeros D))) (xY m.Prime D (T.getD (base x.zA.length k+(j-(k+1))) []) (wM m.Prime D m.zF (J1 (yH x k-1) k) (idM D)))=mul (suf (exx D x m T) (k+1)) (lvl (exx D x m T) k).w (iter (lvl (exx D x m T) k).o.toNat (sig (suf (exx D x m T) (k+1)) (lvl (exx D x m T) k)) (xM ((exx D x m T).zA.length-(k+1)) (j-(k+1)))):=by rw[←zMP h hE hT hk hc (zO6 h hE hT hk _ cQ) (vA (by omega)) fW,←zYb h hE hT hk _ cQ a7,←c2,←g2,zBB h hE hT hk,show(at0 x.zA k).toNat=(yH x k-1)+1 from by show _=(at0 x.zA k).toNat-1+1;omega];rfl
 have e2:adK m.Prime D (x.zA.length-(k+1)) (mul (suf (exx D x m T) (k+1)) (xM ((exx D x m T).zA.length-(k+1)) (j-(k+1))) ((x.zS.getD k []).drop (k+1)++zeros D)) (xY m.Prime D (T.getD k []) (wM m.Prime D m.zF [] (idM D)))=mul (suf (exx D x m T) (k+1)) (xM ((exx D x m T).zA.length-(k+1)) (j-(k+1))) (lvl (exx D x m T) k).w:=by rw[show wM m.Prime D m.zF [] (idM D)=idM D from rfl,jT ey,←zMP h hE hT hk hc pS ey hg,←w2]
 have dF:(lvl (exx D x m T) k).w.take (x.zA.length-(k+1))=(lvl x k).w:=zI2 h hE hT hk (Jh k) hk;have eY:(xM (x.zA.length-(k+1)) (j-(k+1))).length=x.zA.length-(k+1):=by simp[xM,zeros]
 have:=zGZ h hE hT hk hc k1 k2 (r1:=base x.zA.length k+(j-(k+1))) (r2:=k) (s1:=J1 (yH x k-1) k) (s2:=[]) (xH gB fW (zO6 h hE hT hk _ cQ)) (xH gB hg pS) v1' v2 (by rw[e1,e2,zCj h hE hT (by omega) fW (zO6 h hE hT hk _ hg),zCj h hE hT (by omega) hg fW,zKP h hE hT hk _ hg,dF,zTA h hE hT hk h1 h2,Jp eY,zBB h hE hT hk];exact hL.c4 j h1 h2)
 rw[e1,e2]at this;exact this
end
structure zKY (x:SPr) (k:Nat) (r1:Nat) (s1 w1:List Nat) (r2:Nat) (s2 w2:List Nat) (t1 t2:List (Nat×List Nat)):Prop where
 a:∃u1 y1,t1=(r1,s1)::u1∧qR x k w1 u1 y1
 b:∃u2 y2,t2=(r2,s2)::u2∧qR x k w2 u2 y2
structure zYd (x:SPr) (D:Nat) (m:zB) (T:Mx):Prop where
 p1:∀k j,k<j→j<x.zA.length→ ∀t1 t2,zKY x k j [k] (nw 0 (x.zS.getD j [])++[k]) (base x.zA.length k+(j-(k+1))) [] (J1 (yH x j-1) j++k::nw 0 (lcj x k j)) t1 t2→tv m.Prime D m T t1=tv m.Prime D m T t2
 p2:∀k i j,k<i→i<j→j<x.zA.length→ ∀t1 t2,zKY x k (base x.zA.length i+(j-(i+1))) [k] (i::(nw 0 (lcj x i j)++[k])) (base x.zA.length k+(i-(k+1))) [] (j::k::nw 0 (lcj x k i)) t1 t2→tv m.Prime D m T t1=tv m.Prime D m T t2
 p3:∀k,k<x.zA.length→ ∀t1 t2,zKY x k k [k] (nw 0 (x.zS.getD k [])++[k]) k [] (k::nw 0 (x.zS.getD k [])) t1 t2→tv m.Prime D m T t1=tv m.Prime D m T t2
 p4:∀k j,k<j→j<x.zA.length→ ∀t1 t2,zKY x k (base x.zA.length k+(j-(k+1))) (J1 (yH x k-1) k) (k::(nw 0 (lcj x k j)++J1 (yH x k-1) k)) k [] (j::nw 0 (x.zS.getD k [])) t1 t2→tv m.Prime D m T t1=tv m.Prime D m T t2
end Go.Pl

namespace Go.Pl
open Go Go.Ab Go.Wk Go.Pc
section
variable {D:Nat}{x:SPr}{m:zB}{T:Mx} (h:Pres x) (hE:ExB x.zA.length D x m T) (hT:∀i,i<T.length→Row m.Prime D (T.getD i []))
 include h hE hT
theorem zJS{k:Nat}(hk:k<x.zA.length)(hL:LC x k)(hc:wO (suf (exx D x m T) (k+1))):LCn x (exx D x m T) k↔
  (∀j,k<j→j<x.zA.length→ ∀t1 t2,zKY x k j [k] (nw 0 (x.zS.getD j [])++[k]) (base x.zA.length k+(j-(k+1))) [] (J1 (yH x j-1) j++k::nw 0 (lcj x k j)) t1 t2→tv m.Prime D m T t1=tv m.Prime D m T t2)∧
  (∀i j,k<i→i<j→j<x.zA.length→ ∀t1 t2,zKY x k (base x.zA.length i+(j-(i+1))) [k] (i::(nw 0 (lcj x i j)++[k])) (base x.zA.length k+(i-(k+1))) [] (j::k::nw 0 (lcj x k i)) t1 t2→tv m.Prime D m T t1=tv m.Prime D m T t2)∧
  (∀t1 t2,zKY x k k [k] (nw 0 (x.zS.getD k [])++[k]) k [] (k::nw 0 (x.zS.getD k [])) t1 t2→tv m.Prime D m T t1=tv m.Prime D m T t2)∧
  (∀j,k<j→j<x.zA.length→ ∀t1 t2,zKY x k (base x.zA.length k+(j-(k+1))) (J1 (yH x k-1) k) (k::(nw 0 (lcj x k j)++J1 (yH x k-1) k)) k [] (j::nw 0 (x.zS.getD k [])) t1 t2→tv m.Prime D m T t1=tv m.Prime D m T t2):=by
 have hC:=fun(w:List Nat)(hw:∀a∈w,k≤a∧a<x.zA.length)=>zW7 h (x.zA.length-k) k (by omega) w hw
 have eH:∀i j,i<j→j<x.zA.length→ ∀a∈nw 0 (lcj x i j),i+1≤a∧a<x.zA.length:=fun i j hi hj=>(tB h (uB h hi hj) (by omega)).2
 have eP:∀i,i<x.zA.length→ ∀a∈nw 0 (x.zS.getD i []),i+1≤a∧a<x.zA.length:=fun i hi=>(tB h (qK h hi) hi).2
 constructor
 ·intro g
  refine⟨?_,?_,?_,?_⟩
  ·rintro j h1 h2 t1 t2 ⟨⟨u1,y1,rfl,k1⟩,⟨u2,y2,rfl,k2⟩⟩
   exact(zXZ h hE hT hk hc hL (by omega) h2 k1 k2).2 (g.c1 j (by omega) h2)
  ·rintro i j h1 gO h2 t1 t2 ⟨⟨u1,y1,rfl,k1⟩,⟨u2,y2,rfl,k2⟩⟩
   exact(zYa h hE hT hk hc hL (by omega) gO h2 k1 k2).2 (g.c2 i (by omega) (by omega) j (by omega) h2)
  ·rintro t1 t2 ⟨⟨u1,y1,rfl,k1⟩,⟨u2,y2,rfl,k2⟩⟩
   exact(zXW h hE hT hk hc hL k1 k2).2 g.c3
  ·rintro j h1 h2 t1 t2 ⟨⟨u1,y1,rfl,k1⟩,⟨u2,y2,rfl,k2⟩⟩
   exact(zYc h hE hT hk hc hL (by omega) h2 k1 k2).2 (g.c4 j (by omega) h2)
 ·rintro⟨g1,g2,g3,g4⟩
  refine⟨fun j h1 h2=>?_,fun i h1 hi j gO h2=>?_,?_,fun j h1 h2=>?_⟩
  ·obtain⟨u1,y1,k1⟩:=hC (nw 0 (x.zS.getD j [])++[k]) (fun a ha=>by
    simp only[Jd,List.mem_singleton]at ha;rcases ha with ha|rfl
    ·have:=eP j h2 a ha;omega
    ·omega)
   obtain⟨u2,y2,k2⟩:=hC (J1 (yH x j-1) j++k::nw 0 (lcj x k j)) (fun a ha=>by
    simp only[Jd,J9]at ha;rcases ha with ha|rfl|ha
    ·have:=K9 ha;omega
    ·omega
    ·have:=eH k j (by omega) h2 a ha;omega)
   exact(zXZ h hE hT hk hc hL h1 h2 k1 k2).1 (g1 j (by omega) h2 _ _ ⟨⟨u1,y1,rfl,k1⟩,⟨u2,y2,rfl,k2⟩⟩)
  ·obtain⟨u1,y1,k1⟩:=hC (i::(nw 0 (lcj x i j)++[k])) (fun a ha=>by
    simp only[Jd,J9,Q5,or_false]at ha;rcases ha with rfl|ha|rfl
    ·omega
    ·have:=eH i j (by omega) h2 a ha;omega
    ·omega)
   obtain⟨u2,y2,k2⟩:=hC (j::k::nw 0 (lcj x k i)) (fun a ha=>by
    simp only[J9]at ha;rcases ha with rfl|rfl|ha
    ·omega
    ·omega
    ·have:=eH k i (by omega) hi a ha;omega)
   exact(zYa h hE hT hk hc hL h1 (by omega) h2 k1 k2).1 (g2 i j (by omega) (by omega) h2 _ _ ⟨⟨u1,y1,rfl,k1⟩,⟨u2,y2,rfl,k2⟩⟩)
  ·obtain⟨u1,y1,k1⟩:=hC (nw 0 (x.zS.getD k [])++[k]) (fun a ha=>by
    simp only[Jd,List.mem_singleton]at ha;rcases ha with ha|rfl
    ·have:=eP k hk a ha;omega
    ·omega)
   obtain⟨u2,y2,k2⟩:=hC (k::nw 0 (x.zS.getD k [])) (fun a ha=>by
    simp only[J9]at ha;rcases ha with rfl|ha
    ·omega
    ·have:=eP k hk a ha;omega)
   exact(zXW h hE hT hk hc hL k1 k2).1 (g3 _ _ ⟨⟨u1,y1,rfl,k1⟩,⟨u2,y2,rfl,k2⟩⟩)
  ·obtain⟨u1,y1,k1⟩:=hC (k::(nw 0 (lcj x k j)++J1 (yH x k-1) k)) (fun a ha=>by
    simp only[Jd,J9]at ha;rcases ha with rfl|ha|ha
    ·omega
    ·have:=eH k j (by omega) h2 a ha;omega
    ·have:=K9 ha;omega)
   obtain⟨u2,y2,k2⟩:=hC (j::nw 0 (x.zS.getD k [])) (fun a ha=>by
    simp only[J9]at ha;rcases ha with rfl|ha
    ·omega
    ·have:=eP k hk a ha;omega)
   exact(zYc h hE hT hk hc hL h1 h2 k1 k2).1 (g4 j (by omega) h2 _ _ ⟨⟨u1,y1,rfl,k1⟩,⟨u2,y2,rfl,k2⟩⟩)
theorem zRo(hx:wO (suf x 0))(hr:zCv x m D):zYd x D m T↔wO (suf (exx D x m T) 0):=by
 have hl:=wF h hE hT;have bj:∀k,k<x.zA.length→LC x k:=fun k hk=>((zAd h.w hk).1 (zA6 hx k)).2
 constructor
 ·intro g
  have key:∀(d k:Nat),k+d=x.zA.length→wO (suf (exx D x m T) k):=by
   intro d
   induction d with
   |zero=>intro k hk;exact zI0 h hE hT D k (by omega) (by omega)
   |succ d ih=>
    intro k hk;have hc:=ih (k+1) (by omega);refine(zAd (zFk h hE hT) (by omega)).2 ⟨hc,zT4 h hE hT hr (by omega) ((zJS h hE hT (by omega) (bj k (by omega)) hc).2 ⟨?_,?_,?_,?_⟩)⟩
    ·exact fun j h1 h2 t1 t2 b=>g.p1 k j h1 h2 t1 t2 b
    ·exact fun i j h1 gO h2 t1 t2 b=>g.p2 k i j h1 gO h2 t1 t2 b
    ·exact fun t1 t2 b=>g.p3 k (by omega) t1 t2 b
    ·exact fun j h1 h2 t1 t2 b=>g.p4 k j h1 h2 t1 t2 b
  exact key x.zA.length 0 (by omega)
 ·intro g
  have g0:=(zKM h hE hT hr).1 g;have hck:∀k,k<x.zA.length→wO (suf (exx D x m T) (k+1)):=fun k _=>zA6 g (k+1)
  have key:=fun k(hk:k<x.zA.length)=>(zJS h hE hT hk (bj k hk) (hck k hk)).1 (g0 k hk)
  exact⟨fun k j h1 h2=>(key k (by omega)).1 j h1 h2,fun k i j h1 gO h2=>(key k (by omega)).2.1 i j h1 gO h2,fun k hk=>(key k hk).2.2.1,fun k j h1 h2=>(key k (by omega)).2.2.2 j h1 h2⟩
end
theorem Col.det{x:SPr}{k k':Nat}{w:List Nat}{t1 t2:List (Nat×List Nat)}{w1 w2:List Nat}(h1:Col x k w t1 w1)(h2:Col x k' w t2 w2)(n1:stS x w1=iH)(n2:stS x w2=iH):t1=t2∧w1=w2:=by
 induction h1 generalizing t2 with
 |refl w=>
  cases h2 with
  |refl=>exact⟨rfl,rfl⟩
  |step _ hs _=>rw[n1]at hs;cases hs
 |step hw hs hc ih=>
  cases h2 with
  |refl=>rw[n2]at hs;cases hs
  |step _ bO fh=>
   rw[hs]at bO;cases bO;obtain⟨rfl,rfl⟩:=ih fh n1;exact⟨rfl,rfl⟩
end Go.Pl

namespace Go.Pl
open Go Go.Ab Go.Wk Go.Pc
structure Fh (n D D2:Nat) (m m2:zB) (T T2:Mx) (φ:Vec→Vec):Prop where
 pr:m2.Prime=m.Prime
 row:∀u,Row m.Prime D u→Row m.Prime D2 (φ u)
 z:φ (zeros D)=zeros D2
 add:∀u v,Row m.Prime D u→Row m.Prime D v→φ (adv m.Prime D u v)=adv m.Prime D2 (φ u) (φ v)
 act:∀k,k<n→ ∀u,Row m.Prime D u→φ (xY m.Prime D u (m.zF.getD k []))=xY m.Prime D2 (φ u) (m2.zF.getD k [])
 t:∀r,r<base n n→φ (T.getD r [])=T2.getD r []
def Fm(φ:Vec→Vec)(N:Nat)(e:Vec):Vec:=e.take N++φ (e.drop N)
theorem zAL{φ:Vec→Vec}{N:Nat}{y u:Vec}(hy:y.length=N):Fm φ N (y++u)=y++φ u:=by rw[Fm,Jp hy,K0 hy]
theorem zHa{φ:Vec→Vec}{N:Nat}{b:Int}{e:Vec}:Fm φ (N+1) (b::e)=b::Fm φ N e:=by simp only[Fm,Lf,List.drop_succ_cons,K6]
section
variable {D D2:Nat}{x:SPr}{m m2:zB}{T T2:Mx}{φ:Vec→Vec} (h:Pres x) (hE:ExB x.zA.length D x m T) (hT:∀i,i<T.length→Row m.Prime D (T.getD i [])) (gN:ExB x.zA.length D2 x m2 T2) (gT:∀i,i<T2.length→Row m2.Prime D2 (T2.getD i [])) (hF:Fh x.zA.length D D2 m m2 T T2 φ)
 include h hE hT gN gT hF
theorem yB8{k:Nat}(hk:k≤x.zA.length):Fm φ (x.zA.length-k) (zeros (suf (exx D x m T) k).length)=zeros (suf (exx D2 x m2 T2) k).length:=by rw[zBm h hE hT hk,zBm h gN gT hk,zAL (yC _),hF.z]
theorem zQl{k j:Nat}(h1:k+1≤j)(h2:j<x.zA.length):Fm φ (x.zA.length-(k+1)) ((lvl (exx D x m T) k).cs.getD (j-(k+1)) [])=(lvl (exx D2 x m2 T2) k).cs.getD (j-(k+1)) []:=by have hn:=hE.hn;have hb:=zAX x.zA.length (by omega) k (by omega);have gC:V (suf x (k+1)) ((lcj x k j).drop (k+1)):=jZ (uB h (by omega) h2) (by omega);rw[zIy h hE hT (by omega) h1 h2,zIy h gN gT (by omega) h1 h2,show(lvl x k).cs.getD (j-(k+1)) []=(lcj x k j).drop (k+1)from map_drop,zAL (vD h (by omega) gC),hF.t _ (by omega)]
theorem zZ3{k:Nat}(hk:k<x.zA.length):Fm φ (x.zA.length-(k+1)) (lvl (exx D x m T) k).w=(lvl (exx D2 x m2 T2) k).w:=by have hn:=hE.hn;have hb:=wT x.zA.length (by omega);have cE:V (suf x (k+1)) ((x.zS.getD k []).drop (k+1)):=jZ (qK h hk) hk;rw[zIu h hE hT hk,zIu h gN gT hk,show(lvl x k).w=(x.zS.getD k []).drop (k+1)from rfl,zAL (vD h (by omega) cE),hF.t _ (by omega)]
theorem zTM{k:Nat}(hk:k<x.zA.length)(ih:∀a b,V (suf (exx D x m T) (k+1)) a→V (suf (exx D x m T) (k+1)) b→Fm φ (x.zA.length-(k+1)) (mul (suf (exx D x m T) (k+1)) a b)=mul (suf (exx D2 x m2 T2) (k+1)) (Fm φ (x.zA.length-(k+1)) a) (Fm φ (x.zA.length-(k+1)) b)){v:Vec}(hv:V (suf (exx D x m T) (k+1)) v):
  Fm φ (x.zA.length-(k+1)) (sig (suf (exx D x m T) (k+1)) (lvl (exx D x m T) k) v)=sig (suf (exx D2 x m2 T2) (k+1)) (lvl (exx D2 x m2 T2) k) (Fm φ (x.zA.length-(k+1)) v):=by
 have hp:=hE.m.p.pos;have ok:=uG h hE hT (k:=k+1) (by omega);obtain⟨y,u,rfl,hy,hu⟩:=(sN h hE hT (x.zA.length-(k+1)) (k+1) (by omega) _).1 hv;have e7:=vD h (by omega) hy;have fU:Row m2.Prime D2 (φ u):=by rw[hF.pr];exact hF.row u hu
 have hsg:Fm φ (x.zA.length-(k+1)) (sgG D x m T k y)=sgG D2 x m2 T2 k y:=by
  unfold sgG;rw[zFl (S:=V (suf (exx D x m T) (k+1))) (n:=mul (suf (exx D2 x m2 T2) (k+1))) (Fm φ (x.zA.length-(k+1))) (fun a b=>xH ok) ih _ _ _ (zQa h hE hT hk) (wS ok),yB8 h hE hT gN gT hF (by omega)]
  congr 1
  apply U7
  ·rw[Ji,tW h hE hT,tW h gN gT]
  ·intro i h1 h2
   rw[Ji,tW h hE hT]at h1;have e1:(eC1 x T k)[i]'(by rw[tW h hE hT];exact h1)=(lvl (exx D x m T) k).cs.getD (k+1+i-(k+1)) []:=by rw[show k+1+i-(k+1)=i from by omega,zCf h hE hT hk,J2,Jx (by rw[tW h hE hT];exact h1),J3 (by rw[tW h hE hT];exact h1)];rfl
   have e2:(eC1 x T2 k)[i]'h2=(lvl (exx D2 x m2 T2) k).cs.getD (k+1+i-(k+1)) []:=by rw[show k+1+i-(k+1)=i from by omega,zCf h gN gT hk,J2,Jx h2,J3 h2];rfl
   rw[Jby,e1,e2,zQl h hE hT gN gT hF (by omega) (by omega)]
 obtain⟨y1,u1,e,fq,cJ⟩:=(sN h hE hT (x.zA.length-(k+1)) (k+1) (by omega) _).1 (zIw h hE hT hk (y:=y));have gM:=vD h (by omega) fq;rw[e,zAL gM]at hsg;rw[zCg h hE hT hk hy hu,e,Jp gM,K0 gM,zAL gM,zAL e7,zCg h gN gT hk hy fU,←hsg,Jp gM,K0 gM,hF.pr,hF.add _ _ cJ (vA (by omega)),hF.act k hk u hu]
theorem zKZ{k:Nat}(hk:k<x.zA.length)(ih:∀a b,V (suf (exx D x m T) (k+1)) a→V (suf (exx D x m T) (k+1)) b→Fm φ (x.zA.length-(k+1)) (mul (suf (exx D x m T) (k+1)) a b)=mul (suf (exx D2 x m2 T2) (k+1)) (Fm φ (x.zA.length-(k+1)) a) (Fm φ (x.zA.length-(k+1)) b)):∀(q:Nat){v:Vec},V (suf (exx D x m T) (k+1)) v→
  Fm φ (x.zA.length-(k+1)) (iter q (sig (suf (exx D x m T) (k+1)) (lvl (exx D x m T) k)) v)=iter q (sig (suf (exx D2 x m2 T2) (k+1)) (lvl (exx D2 x m2 T2) k)) (Fm φ (x.zA.length-(k+1)) v)
 |0,_,_=>rfl
 |q+1,v,hv=>by show Fm φ _ (iter q _ (sig _ _ v))=iter q _ (sig _ _ (Fm φ _ v));rw[zKZ hk ih q (zAK h hE hT hk hv),zTM h hE hT gN gT hF hk ih hv]
theorem zO7:∀(d k:Nat),k+d=x.zA.length→ ∀a b,V (suf (exx D x m T) k) a→V (suf (exx D x m T) k) b→Fm φ (x.zA.length-k) (mul (suf (exx D x m T) k) a b)=mul (suf (exx D2 x m2 T2) k) (Fm φ (x.zA.length-k) a) (Fm φ (x.zA.length-k) b)
 |0,k,hk,a,b,ha,hb=>by
  have hp:=hE.m.p.pos;have ax:=gN.m.p.pos;rw[zA1 h hE hT D k (by omega) (by omega)]at ha hb ⊢
  rw[zA1 h gN gT D2 k (by omega) (by omega)];have ml:=(zDP _ _).1 ha;have f7:=(zDP _ _).1 hb;have e:∀w:Vec,Fm φ (x.zA.length-k) w=φ w:=fun w=>by rw[Fm,show x.zA.length-k=0 from by omega];rfl
  rw[e,e,e,qZ (by omega) D _ _ ml f7,hF.add _ _ ml f7,hF.pr,qZ (by omega) D2 _ _ (hF.row _ ml) (hF.row _ f7)]
 |d+1,k,hk,a,b,ha,hb=>by
  have pT:k<x.zA.length:=by omega
  have ih:=zO7 d (k+1) (by omega);have hl:=wF h hE hT;have aH:=wF h gN gT;have ok:=uG h hE hT (k:=k+1) (by omega);have fW:=zRm h hE hT pT;rw[yG (x:=exx D x m T) (by omega)]at ha hb ⊢
  rw[yG (x:=exx D2 x m2 T2) (by omega)];cases a with
  |nil=>exact ha.elim
  |cons a u=>
  cases b with
  |nil=>exact hb.elim
  |cons b v=>
   obtain⟨_,ha⟩:=ha;obtain⟨_,hb⟩:=hb;have ei:=zO6 h hE hT pT b.toNat ha;have hm:=xH ok ei hb;rw[show x.zA.length-k=x.zA.length-(k+1)+1 from by omega,zHa,zHa,yZ,yZ,zBB h hE hT pT,zBB h gN gT pT,←zKZ h hE hT gN gT hF pT ih _ ha,←ih _ _ ei hb]
   by_cases g:a+b≥at0 x.zA k
   ·rw[if_pos g,if_pos g,zHa,ih _ _ fW hm,zZ3 h hE hT gN gT hF pT]
   ·rw[if_neg g,if_neg g,zHa]
end
end Go.Pl
