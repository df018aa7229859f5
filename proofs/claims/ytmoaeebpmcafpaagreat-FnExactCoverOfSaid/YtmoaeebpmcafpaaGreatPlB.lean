/- The program's CoverOf returns what the reference's returns,for all arguments;no conditions. -/
import Derived.Test.YtmoaeebpmcafpaaGreatPlA
open List renaming replicate→J0,getD_eq_getElem?_getD→J2,getElem?_eq_getElem→J3,length_append→J5,length_cons→J6,length_replicate→J8,append_nil→Ja,getElem?_append_right→Jb,mem_cons→Jc,append_assoc→Jd,length_map→Je,length_nil→Jg,mem_append→Jh,range→Ji,eq_of_mem_replicate→Jm,replicate_append_replicate→Jn,take_left'→Jo,getElem?_eq_none→Jp,replicate_succ→Jq,take_of_length_le→Jr,map_cons→Js,mem_map→Jt,nil_append→Ju,getElem?_append_left→Jx,cons_append→Jy,length_take→Jz,take_succ_eq_append_getElem→K0,length_drop→K3,getElem?_map→K4,take_zero→K5,drop_left'→K8,getElem_mem→Ka,getElem?_replicate→Ke,drop_append_of_le_length→Kg,mem_range→Kh,map_append→Kj,reverse_reverse→Kn,replicate_zero→Ko,ext_getElem?→Kr,length_range→Kt,take_succ_cons→Ku,drop_replicate→Lb,take_length→Lj,flatten_cons→Lm,replicate_succ'→Ln,range_succ→Lo,getElem?_drop→Lr,eq_nil_of_length_eq_zero→Ls,getD_cons_zero→H7,map_nil→He,flatten_nil→Hn,mem_iff_getElem→Hu,drop_zero→Hv,drop_eq_getElem_cons→Hy,flatMap_append→G5,take_append_of_le_length→Ga,set_append_right→Ge,head?_cons→Gw,foldl_cons→Gx,getD_cons_succ→U8,foldl_append→Ub,getElem?_take_of_lt→Ug,length_singleton→Uj,getElem?_take→Uq,drop_of_length_le→Ur,mem_append_left→Q3,map_congr_left→Qk,flatten_append→Qm,mem_reverse→Qo,getElem?_replicate_of_lt→Qs,cons→Qt,getElem?_set_ne→Jaa,foldl_nil→Jab,map_map→Jar,take_replicate→Jaw,range_succ_eq_map→Jb0,not_mem_nil→Jb1,mem_of_mem_head?→Jb9,take→Jbh,reverse_cons→Jbi,mem_of_mem_drop→Jbj,length→Jbl,drop_append→Jc9
open Int renaming toNat_natCast→J9,mul_emod→Jv,emod_emod→K9,emod_eq_of_lt→Kb,add_emod→Kf,emod_lt_of_pos→Kl,natCast_add→Ky,mul_zero→L4,emod_nonneg→L5,natCast_mul→Lh,zero_add→Lv,add_mul_emod_self_left→Ly,add_zero→H5,mul_assoc→H8,mul_one→Hf,toNat_zero→Gb,zero_mul→U6,mul_comm→U7,add_emod_right→Uk,sub_mul→Qz,add_mul→Ja2,add_emod_emod→Jbo,one_mul→Jbv,add_assoc→Jc0,toNat_of_nonneg→Jda
open Nat renaming zero_add→Jf,lt_or_ge→Jj,le_refl→Jl,mul_le_mul→K1,succ_mul→K6,mul_le_mul_right→K7,sub_self→Kd,zero_le→L7,add_sub_cancel_left→H6,sub_zero→G7,min_eq_left→G8,add_zero→G9,eq_zero_or_pos→U9,mul_succ→Jad,le_mul_of_pos_right→Jb6,lt_of_not_le→Jbp,lt_irrefl→Jbw
open Bool renaming not_true→Kc,not_false→Kq
open Option renaming some→Ld,map_some→Ho
open Option renaming some→iz,none→iA
open Bool renaming true→iB,false→iC
namespace Go.Pl
open Go Go.Ab Go.Wk Go.Pc
theorem zNF{p:Int}{n:Nat}{R out:Mx}{cf:Nat→Int}(ho:∀i,i<out.length→Sp p n R (out.getD i [])){u:List Int}(hu:∀j,j<n→at0 u j%p=(S out.length fun k=>cf k*ent out k j)%p):Sp p n R u:=
 kY ho ⟨cf,fun j hj=>(hu j hj).symm⟩
theorem Red.len_le{p:Int}{n:Nat}{R:Mx}{pv:Nat→Nat}(h:Red p n R pv):R.length≤n:=by
 have key:∀i,i<R.length→i≤pv i:=by
  intro i
  induction i with
  |zero=>intro _;omega
  |succ i ih=>
   intro hi;have h1:=ih (by omega);have h2:=h.mono i (i+1) (by omega) hi;omega
 rcases U9 R.length with g|g
 ·omega
 ·have h1:=key (R.length-1) (by omega)
  have h2:=h.lt (R.length-1) (by omega);omega
theorem zDl{xs:Mx}{v:List Int}{i:Nat}(h:i<xs.length):(xs++[v]).getD i []=xs.getD i []:=by simp only[J2,Jx h]
theorem zDm{xs:Mx}{v:List Int}:(xs++[v]).getD xs.length []=v:=by simp[J2]
section
variable {p:Int} (hp:Prime p) {n:Nat} (hn:n≤100000)
 include hp hn
theorem zNG{w:List Int}(hw:Row p n w){r:Int}(h0:0≤r)(h1:r≤p-1):zWn p r w=iz (mkv n fun j=>(at0 w j*r)%p):=by
 have h7:=hp.pos;unfold zWn;rw[hw.1,yX (by omega),bs,tW hp (zHI (by omega)) hw ⟨by omega,by omega⟩ (by omega),bs]
 congr 1
 refine zZ fun j hj=>?_
 rw[show at0 (z0 n) j=0 from by simp[z0,at0,J2,hj],Lv,U7]
variable {rows:Mx} (hm:rows.length≤600000) (hr:∀i,i<rows.length→Row p n (rows.getD i []))
 include hm hr
theorem zEL:∃R pv,f_r p rows=iz R∧(Red p n R pv∧R.length≤rows.length)∧jM p n R rows:=by
 have h7:=hp.pos;unfold f_r;have main:=tL (body:=zQY p rows) (s:=([],0)) (Q:=fun R=> ∃pv,(Red p n R pv∧R.length≤rows.length)∧jM p n R rows)
  (fun i s=> ∃(out:Mx)(pv:Nat→Nat),s=(out,(i:Int))∧Red p n out pv∧jM p n out (rows.take i)∧out.length≤i∧i≤rows.length) rows.length (fun i s hi hI=>?_) (fun s hI=>?_) ⟨[],fun _=>0,rfl,Red.empty,by rw[K5];exact jM.refl,L7 _,L7 _⟩
 ·obtain⟨R,h1,pv,h2,h3⟩:=main
  rw[h1,bs];exact⟨R,pv,rfl,h2,h3⟩
 ·obtain⟨out,pv,rfl,h,hs,hl,_⟩:=hI
  have hon:out.length≤n:=h.len_le;left;have hv:=hr i hi;have hw:=zKl hp hn h hv out.length;have gC:=zHJ hp hn h hv (by omega);have hpz:=zYo hp hn h hv out.length (Jl _);obtain⟨cf,cH⟩:=zVD hp hn h hv out.length (Jl _);obtain⟨k,k1,k2,k3,k4⟩:=zJt hw.1 (by omega);have ep:rows.take (i+1)=rows.take i++[rows.getD i []]:=by rw[K0 hi,J2,J3 hi];rfl
  have bL:(rows.take i).length=i:=by rw[Jz];omega
  have fC:∀u,Sp p n (rows.take i) u→Sp p n (rows.take (i+1)) u:=fun u hu=>kY (fun a ha=>by have:=qM (p:=p) (n:=n) (R:=rows.take (i+1)) (i:=a) (by rw[ep,J5];omega);rw[ep,zDl ha,←ep]at this;exact this) hu
  have cW:Sp p n (rows.take (i+1)) (rows.getD i []):=by
   have:=qM (p:=p) (n:=n) (R:=rows.take (i+1)) (i:=i) (by rw[ep,J5,bL];simp);rw[ep]at this;have e:(rows.take i++[rows.getD i []]).getD i []=rows.getD i []:=by have:=zDm (xs:=rows.take i) (v:=rows.getD i []);rw[bL]at this;exact this
   rw[e,←ep]at this;exact this
  by_cases pO:k=n
  ·
   refine⟨(out,((i+1:Nat):Int)),?_,out,pv,rfl,h,⟨fun a ha=>fC _ (hs.1 a ha),fun a ha=>?_⟩,by omega,by omega⟩
   ·unfold zQY
    simp only
    rw[yY hi,zM,yR [] hi];simp only[bs,gC,k2];rw[hw.1,zLX (by omega),zM,zC (by omega) (by omega),bs,cs]
   ·rw[ep,J5,bL,Uj]at ha
    rw[ep];rcases Jj a i with g|g
    ·rw[zDl (by omega)];exact hs.2 a (by omega)
    ·have:a=i:=by omega
     subst this;have e:(rows.take a++[rows.getD a []]).getD a []=rows.getD a []:=by have:=zDm (xs:=rows.take a) (v:=rows.getD a []);rw[bL]at this;exact this
     rw[e];refine zNF (out:=out) (cf:=fun q=> -1*cf q) (fun a ha=>qM ha) fun j hj=>?_
     have h1:=cH j hj;rw[k3 j (by omega)]at h1;rw[xQ (g:=fun q=> -1*(cf q*ent out q j)) (fun q _=>by rw[H8]),zCL];have h2:(at0 (rows.getD a []) j+S out.length fun q=>cf q*ent out q j)%p=0:=by rw[←h1];rfl
     rw[show at0 (rows.getD a []) j=(at0 (rows.getD a []) j+S out.length fun q=>cf q*ent out q j)+ -1*(S out.length fun q=>cf q*ent out q j)from by omega,Kf,h2,Lv,K9]
  ·have hk:k<n:=by omega
   have hwk:=hw.2 k hk;have gf:=k4 hk;obtain⟨r,r1,r2,r3,r4⟩:=zSK hp (x:=at0 (cl p n out pv (rows.getD i []) out.length) k) (by omega) (by omega);have bM:=zNG hp hn hw r2 r3;have hu:Row p n (mkv n fun j=>(at0 (cl p n out pv (rows.getD i []) out.length) j*r)%p):=⟨yA _ _,fun j hj=>by have e1:=L5 (at0 (cl p n out pv (rows.getD i []) out.length) j*r) (show p≠0 by omega);have e2:=Kl (at0 (cl p n out pv (rows.getD i []) out.length) j*r) (show 0<p by omega);rw[yH hj];omega⟩
   have ua:∀j,j<n→at0 (mkv n fun j=>(at0 (cl p n out pv (rows.getD i []) out.length) j*r)%p) j=(at0 (cl p n out pv (rows.getD i []) out.length) j*r)%p:=fun j hj=>yH hj
   generalize mkv n (fun j=>(at0 (cl p n out pv (rows.getD i []) out.length) j*r)%p)=u at bM hu ua
   have u1:at0 u k=1:=by rw[ua k hk];exact r4
   have ul:∀j,j<k→at0 u j=0:=fun j hj=>by rw[ua j (by omega),k3 j hj];simp
   have up:∀a,a<out.length→at0 u (pv a)=0:=fun a ha=>by rw[ua _ (h.lt a ha),hpz a ha];simp
   obtain⟨q,⟨hq,u6⟩,eH⟩:=zD2 (p:=fun q=>q≤out.length∧(q<out.length→k<pv q)) ⟨out.length,Jl _,fun g=>by omega⟩;have q1:∀a,a<q→pv a<k:=fun a ha=>by
    have h1:¬(k<pv a):=fun g=>eH a ha ⟨by omega,fun _=>g⟩
    have h2:pv a≠k:=fun e=>by have:=up a (by omega);rw[e,u1]at this;cases this
    omega
   have q2:∀a,q≤a→a<out.length→k<pv a:=fun a ha ha2=>by
    have h1:=u6 (by omega);rcases Jj q a with g|g
    ·have:=h.mono q a g ha2;omega
    ·rw[show a=q from by omega];exact h1
   have f8:=zMa hp h hu hk u1 ul up hq q1 q2 hn (by omega) (x:=(i:Int));have dL:=zNE hp h hu hk u1 ul up hq q1 q2;obtain⟨s1,s2,s3⟩:=zQw hp h hu hk u1 ul up hq q1 q2;refine⟨(mkR (out.length+1) (sU p n out u k q),((i+1:Nat):Int)),?_,_,_,rfl,dL,⟨fun a ha=>?_,fun a ha=>?_⟩,by rw[sP];omega,by omega⟩
   ·unfold zQY
    simp only
    rw[yY hi,zM,yR [] hi];simp only[bs,gC,k2];rw[hw.1,zLY (by omega),zK,yQ (by rw[hw.1];exact hk)];simp only[bs,r1,bM];cases ex:zH (zIC p (out,(i:Int)) (k:Int) u) ([],iC,0)with
    |none=>rw[ex]at f8;cases f8
    |some r32=>
     rw[ex,bs]at f8;simp only[bs];obtain⟨a1,a2⟩:=r32;cases a2 with
     |true=>
      simp only[Kc,zK]at f8 ⊢
      rw[zC (by omega) (by omega),bs,cs,Ld.inj f8]
     |false=>
      simp only[Kq,zM]at f8 ⊢
      cases hap:xI a1 [u]with
      |none=>rw[hap]at f8;cases f8
      |some v33=>
       rw[hap,bs]at f8;simp only[bs];rw[zC (by omega) (by omega),bs,cs,Ld.inj f8]
   ·rw[sP]at ha
    rw[kO ha];refine kY (fun b hb=>?_) (s1 a ha);rw[J5,Uj]at hb;rcases Jj b out.length with g|g
    ·rw[zDl g];exact fC _ (hs.1 b g)
    ·rw[show b=out.length from by omega,zDm]
     have dq:Sp p n (rows.take (i+1)) (cl p n out pv (rows.getD i []) out.length):=by
      have md:Sp p n (rows.take (i+1)) (mkv n fun j=>S out.length fun k=>cf k*ent out k j):=zNF (out:=out) (cf:=cf) (fun b hb=>fC _ (hs.1 b hb)) fun j hj=>by rw[yH hj]
      refine zBd (k:=1) cW md fun j hj=>?_
      rw[cH j hj,yH hj,Jbv]
     refine zBd (k:=r) (zEH (u:=[]) fun j _=>by simp[at0]) dq fun j hj=>?_
     rw[ua j hj,K9,show at0 ([]:List Int) j=0 from by simp[at0],Lv,U7]
   ·rw[ep,J5,bL,Uj]at ha
    rw[ep];rcases Jj a i with g|g
    ·rw[zDl (by omega)]
     exact kY s2 (hs.2 a (by omega))
    ·have hai:a=i:=by omega
     subst hai;have e:(rows.take a++[rows.getD a []]).getD a []=rows.getD a []:=by have:=zDm (xs:=rows.take a) (v:=rows.getD a []);rw[bL]at this;exact this
     rw[e];have dq:Sp p n (mkR (out.length+1) (sU p n out u k q)) (cl p n out pv (rows.getD a []) out.length):=by
      refine zBd (k:=at0 (cl p n out pv (rows.getD a []) out.length) k) (zEH (u:=[]) fun j _=>by simp[at0]) s3 fun j hj=>?_
      rw[ua j hj,show at0 ([]:List Int) j=0 from by simp[at0],Lv];rw[Jv,K9,←Jv,←H8,U7 (at0 (cl p n out pv (rows.getD a []) out.length) k),H8,Jv,r4,Hf,K9]
     have md:Sp p n (mkR (out.length+1) (sU p n out u k q)) (mkv n fun j=>S out.length fun k=>cf k*ent out k j):=zNF (out:=out) (cf:=cf) s2 fun j hj=>by rw[yH hj]
     refine zBd (k:=-1) dq md fun j hj=>?_
     rw[yH hj,Kf,cH j hj,←Kf]
     congr 1;omega
 ·obtain⟨out,pv,rfl,h,hs,hl,_⟩:=hI
  refine⟨out,?_,pv,⟨h,hl⟩,by rw[Lj]at hs;exact hs⟩;unfold zQY;simp only
  rw[xR,zK]
theorem zMb:∃R pv,f_r p rows=iz R∧Red p n R pv∧jM p n R rows:=by obtain⟨R,pv,h1,h2,h3⟩:=zEL hp hn hm hr;exact⟨R,pv,h1,h2.1,h3⟩
theorem zHK{R:Mx}{pv:Nat→Nat}(h:Red p n R pv)(hs:jM p n R rows):R.length≤rows.length:=by have h7:=hp.pos;obtain⟨R',pv',_,h2,h3⟩:=zEL hp hn hm hr;rw[h.unique (by omega) h2.1 (hs.trans h3.symm)];exact h2.2
theorem kZ:∃R pv,f_r p rows=iz R∧f_j p rows=iz R∧Red p n R pv∧jM p n R rows:=by have h7:=hp.pos;obtain⟨R,pv,h1,h2,h3⟩:=zMb hp hn hm hr;obtain⟨R',pv',g1,g2,g3⟩:=zLZ hp hn hm hr;have e:=h2.unique (by omega) g2 (h3.trans g3.symm);exact⟨R,pv,h1,by rw[e];exact g1,h2,h3⟩
end
end Go.Pl

namespace Go.Pl
open Go Go.Ab Go.Wk Go.Pc
theorem wW{β:Type}{body:List β×Int→Option ((List β×Int)⊕List β)}(n:Nat)(F:Nat→β)(h:∀i acc,i<n→acc.length=i→body (acc,(i:Int))=iz (.inl (acc++[F i],((i+1:Nat):Int))))(he:∀acc,body (acc,(n:Int))=iz (.inr acc)):
  zH body ([],0)=iz ((Ji n).map F):=by
 have:=zV (body:=body) (r:=(Ji n).map F) (fun i=>((Ji i).map F,(i:Int))) n (fun i hi=>by rw[h i _ hi (by simp),Lo,Kj];rfl) (he _)
 exact this
theorem zQx{xs:Mx}(hx:xs.length≤100000)(hf:xs.flatten.length≤1000000):zWy xs=iz xs.flatten:=by
 unfold zWy;have:=zV (body:=zMP xs) (r:=xs.flatten) (fun i=>((xs.take i).flatten,(i:Int))) xs.length (fun i hi=>by
  have h1:=zFA hi;have h2:=zKg (xs:=xs) (i+1);have h3:=congrArg Jbl h1;rw[J5]at h3;unfold zMP;simp only
  rw[yY hi,zM,yR [] hi,bs,yE (by omega),bs,zC (by omega) (by omega),bs,cs,h1]) (by
  unfold zMP;simp only
  rw[xR,zK,Lj])
 rw[show((0:Nat):Int)=0 from rfl,K5]at this;simp only[Hn]at this;rw[this,bs]
theorem zPv{p:Int}{L:Nat}{v:List Int}:Row p L v↔v.length=L∧ ∀a∈v,0≤a∧a≤p-1:=by
 constructor
 ·rintro⟨h1,h2⟩
  refine⟨h1,fun a ha=>?_⟩;obtain⟨i,hi,rfl⟩:=Hu.1 ha;have:=h2 i (by omega);simpa[at0,J2,J3 hi]using this
 ·rintro⟨h1,h2⟩
  refine⟨h1,fun i hi=>?_⟩;have:=h2 v[i] (Ka (by omega));simpa[at0,J2,J3 (show i<v.length by omega)]using this
def tQ(D k:Nat):List Int:=mkv D fun j=>if j=k then 1 else 0
theorem zQy{p:Int}{D k:Nat}(hp:2≤p):Row p D (tQ D k):=⟨yA _ _,fun i hi=>by rw[tQ,yH hi];split<;>omega⟩
theorem zCl{D k:Nat}(hk:k<D)(hD:D≤1000000):zKE (D:Int) (k:Int)=iz (tQ D k):=by
 unfold zKE;rw[yX (by omega),bs,yQ (by simp;exact hk),bs,J9]
 congr 1
 rw[tN,qU,tQ]
end Go.Pl

namespace Go.Pl
open Go Go.Ab Go.Wk Go.Pc
abbrev gl{β:Type}(m:Nat)(F:Nat→β):List β:=(Ji m).map F
theorem xD{β:Type}{m:Nat}{F:Nat→β}:(gl m F).length=m:=by simp[gl]
theorem zAS{β:Type}{m:Nat}{F:Nat→β}{i:Nat}(h:i<m):ixO (gl m F) (i:Int)=iz (F i):=by rw[kN (by rw[xD];exact h)];simp[gl]
theorem uB{β:Type}{m:Nat}{F G:Nat→β}(h:∀i,i<m→F i=G i):gl m F=gl m G:=Qk fun i hi=>h i (Kh.1 hi)
theorem zEc{β:Type}{m:Nat}{F:Nat→β}{i:Nat}{a:β}:(gl m F).set i a=gl m (fun k=>if k=i then a else F k):=by
 apply Kr;intro k
 by_cases hk:k<m
 ·by_cases h:i=k
  ·subst h;simp[gl,hk]
  ·rw[Jaa h];simp[gl,hk,Ne.symm h]
 ·rw[Jp (by simp[gl];omega),Jp (by simp[gl];omega)]
theorem tY{β:Type}{m:Nat}{F:Nat→β}:gl m F++[F m]=gl (m+1) F:=by simp[gl,Lo]
def base(n i:Nat):Nat:=n+i*n-i*(i+1)/2
theorem zQz:∀n,n<7→ ∀i,i<n→base n (i+1)=base n i+(n-1-i):=by decide
theorem zAu:∀n,n<7→ ∀i,i<n→base n i+(n-1-i)≤base n n:=by decide
theorem wT:∀n,n<7→n≤base n n∧base n n≤21∧base n 0=n:=by decide
theorem zHL:∀n:Nat,n<7→ ∀j:Nat,j<n→ ∀i:Nat,i<j→zWq (n:Int) (i:Int) (j:Int)=iz ((base n i+(j-i-1):Nat):Int):=by decide+kernel
def exP(n D:Nat)(x:SPr)(T:Mx)(i:Nat):List Int:=if i<n then x.zR.getD i []++T.getD i []else J0 (n+D) 0
def exF(n:Nat)(x:SPr)(m:zF)(T:Mx)(i j:Nat):List Int:=if j<n-1-i then(x.zE.getD i []).getD j []++T.getD (base n i+j) []else J0 n 0++(m.zP.getD i []).getD (j-(n-1-i)) []
def unC(N i:Nat):Mx:=gl (N-1-i) fun j=>tQ N (i+1+j)
def exC(n D:Nat)(x:SPr)(m:zF)(T:Mx)(i:Nat):Mx:=if i<n then gl (n+D-1-i) (exF n x m T i)else unC (n+D) i
def ext(n D:Nat)(x:SPr)(m:zF)(T:Mx):SPr:=⟨x.zA++J0 D m.Prime,gl (n+D) (exP n D x T),gl (n+D) (exC n D x m T)⟩
structure zNH (n D:Nat) (x:SPr) (m:zF) (T:Mx):Prop where
 hn:n≤6
 o:x.zA.length=n
 p:x.zR.length=n
 c:x.zE.length=n
 cl:∀i,i<n→(x.zE.getD i []).length=n-1-i
 pl:∀i,(x.zR.getD i []).length≤6
 ce:∀i j,((x.zE.getD i []).getD j []).length≤6
 t:T.length=base n n
 tl:∀i,(T.getD i []).length≤30
 m:zYk n m D
section
variable {n D:Nat}{x:SPr}{m:zF}{T:Mx} (h:zNH n D x m T)
 include h
theorem yA7{N k:Nat}(hk:k<N)(hN:N≤100):zQR (N:Int) (k:Int)=iz (tQ N k):=by
 have _:=h;unfold zQR;rw[yX (by omega),bs,yQ (by simpa using hk),bs]
 congr 1
 apply Kr;intro j
 by_cases hj:j<N
 ·by_cases hkj:k=j
  ·subst hkj;simp[tQ,mkv,hk]
  ·rw[J9,Jaa hkj];simp[tQ,mkv,hj,Ne.symm hkj]
 ·rw[Jp (by simp;omega),Jp (by simp[tQ,mkv];omega)]
theorem yA8{i:Nat}(hi:i<n){P:Mx}{C:List Mx}:zH (zQZ x T (P,C,(i:Int))) ([],((i+1:Nat):Int))=iz (gl (n-1-i) (exF n x m T i)):=by
 have h6:=h.hn;have hc:=h.cl i hi;have:=zV (body:=zQZ x T (P,C,(i:Int))) (r:=gl (n-1-i) (exF n x m T i)) (fun j=>(gl j (exF n x m T i),((i+1+j:Nat):Int))) (n-1-i) (fun j hj=>by
  have hb:=zAu n (by omega) i hi;have a1:=h.ce i j;have a2:=h.tl (base n i+j);have e:exF n x m T i j=(x.zE.getD i []).getD j []++T.getD (base n i+j) []:=if_pos hj;unfold zQZ;simp only
  rw[h.o,yY (by omega),zM,yR [] (by rw[h.c];exact hi),bs,zC (by omega) (by omega),bs,zC (by omega) (by omega),bs,
   show((i+1+j:Nat):Int)-(i:Int)-1=(j:Int)from by omega,yR [] (by omega),bs,tM (by omega),bs,
   zHL n (by omega) (i+1+j) (by omega) i (by omega),bs,show i+1+j-i-1=j from by omega,yR [] (by rw[h.t];omega),bs,yE (by omega),bs,yE (by rw[xD];simp;omega),bs,zC (by omega) (by omega),bs,cs,←e,tY];rfl) (by
  unfold zQZ;simp only
  rw[h.o,show i+1+(n-1-i)=n from by omega,xR,zK])
 exact this
theorem yA9{i:Nat}(hi:i<n){P:Mx}{C:List Mx}:zH (zRa x m (P,C,(i:Int))) (gl (n-1-i) (exF n x m T i),0)=iz (gl (n+D-1-i) (exF n x m T i)):=by
 have h6:=h.hn;have h3:=h.m.d3;have pN:=h.m.mat i hi;have:=zV (body:=zRa x m (P,C,(i:Int))) (r:=gl (n+D-1-i) (exF n x m T i)) (fun j=>(gl (n-1-i+j) (exF n x m T i),((j:Nat):Int))) D (fun j hj=>by
  have e:exF n x m T i (n-1-i+j)=J0 n 0++(m.zP.getD i []).getD j []:=by rw[exF,if_neg (by omega),show n-1-i+j-(n-1-i)=j from by omega]
  have hr:=(pN.2 j hj).1;unfold zRa;simp only
  rw[h.m.d,yY hj,zM,h.o,yX (by omega),bs,yR [] (by rw[h.m.len];exact hi),bs,yR [] (by rw[pN.1];exact hj),bs,yE (by rw[hr];simp;omega),bs,yE (by rw[xD];simp;omega),bs,zC (by omega) (by omega),bs,cs,←e,tY];rfl) (by
  unfold zRa;simp only
  rw[h.m.d,xR,zK,show n-1-i+D=n+D-1-i from by omega])
 exact this
theorem yAA:zH (zOp x m T) ([],[],0)=iz (gl n (exP n D x T),gl n (exC n D x m T)):=by
 have h6:=h.hn;have h3:=h.m.d3;have hb:=wT n (by omega);have:=zV (body:=zOp x m T) (r:=(gl n (exP n D x T),gl n (exC n D x m T))) (fun i=>(gl i (exP n D x T),gl i (exC n D x m T),((i:Nat):Int))) n (fun i hi=>by
  have a1:=h.pl i;have a2:=h.tl i;have e1:exP n D x T i=x.zR.getD i []++T.getD i []:=if_pos hi;have e2:exC n D x m T i=gl (n+D-1-i) (exF n x m T i):=if_pos hi;unfold zOp;simp only
  rw[h.o,yY hi,zM,yR [] (by rw[h.p];exact hi),bs,tM (by omega),bs,yR [] (by rw[h.t];omega),bs,yE (by omega),bs,yE (by rw[xD];simp;omega),bs,zC (by omega) (by omega),bs,cs,
   yA8 h hi,bs,yA9 h hi,bs,yE (by rw[xD];simp;omega),bs,bs,←e1,←e2,tY,tY]) (by
  unfold zOp;simp only
  rw[h.o,xR,zK])
 exact this
theorem yAB{k:Nat}(hk:k<D):zH (zRb x m) ([],((k+1:Nat):Int))=iz (unC (n+D) (n+k)):=by
 have h6:=h.hn;have h3:=h.m.d3;have:=zV (body:=zRb x m) (r:=unC (n+D) (n+k)) (fun j=>(gl j fun j=>tQ (n+D) (n+k+1+j),((k+1+j:Nat):Int))) (D-1-k) (fun j hj=>by
  unfold zRb;simp only
  rw[h.m.d,yY (by omega),zM,h.o,zC (by omega) (by omega),bs,zC (by omega) (by omega),bs,←Ky,←Ky,yA7 h (by omega) (by omega),bs,yE (by rw[xD];simp;omega),bs,zC (by omega) (by omega),bs,cs,show n+(k+1+j)=n+k+1+j from by omega,tY (F:=fun j=>tQ (n+D) (n+k+1+j))];rfl) (by
  unfold zRb;simp only
  rw[h.m.d,show k+1+(D-1-k)=D from by omega,xR,zK,unC,show n+D-1-(n+k)=D-1-k from by omega])
 exact this
theorem yAC:zH (zOq x m) (gl n (exP n D x T),gl n (exC n D x m T),0)=iz (gl (n+D) (exP n D x T),gl (n+D) (exC n D x m T)):=by
 have h6:=h.hn;have h3:=h.m.d3;have:=zV (body:=zOq x m) (r:=(gl (n+D) (exP n D x T),gl (n+D) (exC n D x m T))) (fun k=>(gl (n+k) (exP n D x T),gl (n+k) (exC n D x m T),((k:Nat):Int))) D (fun k hk=>by
  have e1:exP n D x T (n+k)=J0 (n+D) 0:=if_neg (by omega);have e2:exC n D x m T (n+k)=unC (n+D) (n+k):=if_neg (by omega);unfold zOq;simp only
  rw[h.m.d,yY hk,zM,h.o,zC (by omega) (by omega),bs,←Ky,yX (by omega),bs,yE (by rw[xD];simp;omega),bs,zC (by omega) (by omega),bs,cs,yAB h hk,bs,yE (by rw[xD];simp;omega),bs,bs,←e1,←e2,tY,tY];rfl) (by
  unfold zOq;simp only
  rw[h.m.d,xR,zK])
 exact this
theorem zSL:f_k x m T=iz (ext n D x m T):=by
 have h6:=h.hn;have h3:=h.m.d3;have:=zV (body:=zUC m) (r:=x.zA++J0 D m.Prime) (fun i=>(x.zA++J0 i m.Prime,((i:Nat):Int))) D (fun i hi=>by
  unfold zUC;simp only
  rw[h.m.d,yY hi,zM,yE (by rw[J5,h.o];simp;omega),bs,zC (by omega) (by omega),bs,cs,Jd,←Ln]) (by
  unfold zUC;simp only
  rw[h.m.d,xR,zK])
 rw[Ko,Ja,show((0:Nat):Int)=0 from rfl]at this;unfold f_k;rw[tM (by rw[h.o];omega),bs,this,bs,yAA h,bs,yAC h,bs];rfl
end
end Go.Pl

namespace Go.Pl
open Go Go.Ab Go.Wk Go.Pc
theorem zPw{a b:List Int}(ha:a.length≤1000)(hb:b.length≤1000):f_s [a,b]=iz (a++b):=by rw[jE (by simp) (by simp;omega)];simp
theorem zJv{v:Int}{k:Nat}(hk:k≤1000):∀d c:Nat,c≤k→(c=0→k=0)→k-c≤d→zH uN (J0 c v++J0 (k-c) 0,(c:Int))=iz (J0 k v):=by
 intro d
 induction d with
 |zero=>
  intro c h1 _ h3;obtain rfl:c=k:=by omega
  rw[xL];unfold uN;simp only
  rw[Kd,Ko,Ja,J8,xR,zK]
 |succ d ih=>
  intro c h1 h2 h3
  by_cases hc:c=k
  ·subst hc
   rw[xL];unfold uN;simp only
   rw[Kd,Ko,Ja,J8,xR,zK]
  ·have hl:(J0 c v++J0 (k-c) (0:Int)).length=k:=by simp;omega
   have s1:yB (J0 c v++J0 (k-c) (0:Int)) (c:Int) (k:Int)=iz (((J0 c v++J0 (k-c) (0:Int)).drop c).take (k-c)):=by unfold yB;rw[if_pos ⟨by omega,by omega,by rw[hl];omega⟩];simp
   have s2:yB (J0 c v++J0 (k-c) (0:Int)) 0 (c:Int)=iz (J0 c v):=by unfold yB;rw[if_pos ⟨by omega,by omega,by rw[hl];omega⟩];simp
   have e1:(J0 c v).take (k-c)=J0 (min (k-c) c) v:=by rw[Jaw]
   have e2:xJ (J0 c v++J0 (k-c) (0:Int)) c (J0 (min (k-c) c) v)=J0 (c+min c (k-c)) v++J0 (k-(c+min c (k-c))) 0:=by
    unfold xJ;rw[Jo (J8),J8,Nat.min_comm (k-c) c,Jn,Jc9,J8,Ur (by rw[J8];omega),Ju,Lb]
    congr 2;omega
   have hb:uN (J0 c v++J0 (k-c) 0,(c:Int))=iz (.inl (J0 (c+min c (k-c)) v++J0 (k-(c+min c (k-c))) 0,((c+min c (k-c):Nat):Int))):=by
    unfold uN;simp only
    rw[hl,yY (by omega),zM,s1,bs,s2,bs,J8];simp only[J9];rw[e1,e2,←Ky,zC (by omega) (by omega),bs]
   rw[xL,hb];exact ih (c+min c (k-c)) (by omega) (by omega) (by omega)
theorem zNI{v:Int}{k:Nat}(hk:k≤30):f_e [v] (k:Int)=iz (J0 k v):=by
 have key:∀k:Nat,k<31→zUk 1 (IntKind.wrap .u64 (k:Int))=iz (0,(k:Int))∧xH (IntKind.wrap .i64 (k:Int))=iz k:=by decide+kernel
 obtain⟨k1,k2⟩:=key k (by omega);unfold f_e;rw[iD (by omega),zK,zLS k1,bs];simp only[k2,bs];rw[show decide ((0:Int)> 0)=iC from rfl,zK,iD (by omega),zK]
 by_cases h0:k=0
 ·subst h0
  have:=zJv (v:=v) (k:=0) (by omega) 0 0 (by omega) (by omega) (by omega);rw[show xJ (J0 0 (0:Int)) 0 (([v]:List Int).take ((J0 0 (0:Int)).length-0))=J0 0 v++J0 (0-0) 0 from rfl,show((min ([v]:List Int).length ((J0 0 (0:Int)).length-0):Nat):Int)=((0:Nat):Int)from rfl,this,bs]
 ·have:=zJv (v:=v) (k:=k) (by omega) k 1 (by omega) (by omega) (by omega)
  have e1:xJ (J0 k (0:Int)) 0 (([v]:List Int).take ((J0 k (0:Int)).length-0))=J0 1 v++J0 (k-1) 0:=by unfold xJ;have e0:([v]:List Int).take k=[v]:=Jr (by simp;omega);rw[J8,G7,e0,K5,Ju,Lb];rfl
  have e2:((min ([v]:List Int).length ((J0 k (0:Int)).length-0):Nat):Int)=((1:Nat):Int):=by simp;omega
  rw[e1,e2,this,bs]
theorem zQ0{O:List Int}{N:Nat}(hO:O.length=N)(hN:N≤100):f_I O=iz ⟨O,gl N (fun _=>J0 N 0),gl N (unC N)⟩:=by
 have gO:∀i,i<N→zH (zRd O) ([],((i+1:Nat):Int))=iz (unC N i):=fun i hi=>by
  have:=zV (body:=zRd O) (r:=unC N i) (fun j=>(gl j fun j=>tQ N (i+1+j),((i+1+j:Nat):Int))) (N-1-i) (fun j hj=>by
   unfold zRd;simp only
   rw[hO,yY (by omega),zM,zCl (by omega) (by omega),bs,yE (by rw[xD];simp;omega),bs,zC (by omega) (by omega),bs,cs,tY (F:=fun j=>tQ N (i+1+j))];rfl) (by
   unfold zRd;simp only
   rw[hO,show i+1+(N-1-i)=N from by omega,xR,zK,unC])
  exact this
 have:=zV (body:=zOr O) (r:=(gl N (fun _=>J0 N 0),gl N (unC N))) (fun i=>(gl i (fun _=>J0 N (0:Int)),gl i (unC N),((i:Nat):Int))) N (fun i hi=>by
  unfold zOr;simp only
  rw[hO,yY hi,zM,yX (by omega),bs,yE (by rw[xD];simp;omega),bs,zC (by omega) (by omega),bs,cs,gO i hi,bs,yE (by rw[xD];simp;omega),bs,bs,tY (F:=unC N),tY (F:=fun _=>J0 N (0:Int))]) (by
  unfold zOr;simp only
  rw[hO,xR,zK])
 unfold f_I;rw[zAF (by omega),bs];have e:zH (zOr O) ([],[],0)=iz (gl N (fun _=>J0 N 0),gl N (unC N)):=this;rw[e,bs]
section
variable {n D:Nat}{x:SPr}{m:zF}{T:Mx} (h:zNH n D x m T)
 include h
def exG(n N:Nat)(x:SPr)(m:zF)(T:Mx)(i t q:Nat):List Int:=if q<t then exF n x m T i q else tQ N (i+1+q)
def exE(n D:Nat)(x:SPr)(m:zF)(T:Mx)(i t k:Nat):Mx:=if k<i then exC n D x m T k else if k=i then gl (n+D-1-i) (exG n (n+D) x m T i t)else unC (n+D) k
theorem zNJ{i t:Nat}:exE n D x m T i t i=gl (n+D-1-i) (exG n (n+D) x m T i t):=by have _:=h;rw[exE,if_neg (by omega),if_pos rfl]
theorem zPx{i t:Nat}:(gl (n+D) (exE n D x m T i t)).set i ((gl (n+D-1-i) (exG n (n+D) x m T i t)).set t (exF n x m T i t))=gl (n+D) (exE n D x m T i (t+1)):=by
 have _:=h;rw[zEc,zEc];refine uB fun k _=>?_
 by_cases hk:k=i
 ·subst hk
  rw[if_pos rfl,zNJ h];refine uB fun q _=>?_
  simp only[exG]
  by_cases hq:q=t
  ·subst hq;rw[if_pos rfl,if_pos (by omega)]
  ·rw[if_neg hq]
   by_cases h2:q<t
   ·rw[if_pos h2,if_pos (by omega)]
   ·rw[if_neg h2,if_neg (by omega)]
 ·rw[if_neg hk,exE,exE,if_neg hk,if_neg hk]
theorem zHM{i k:Nat}:exE n D x m T i 0 k=if k<i then exC n D x m T k else unC (n+D) k:=by
 have _:=h;rw[exE]
 by_cases h1:k<i
 ·rw[if_pos h1,if_pos h1]
 ·rw[if_neg h1,if_neg h1]
  by_cases h2:k=i
  ·subst h2
   rw[if_pos rfl];exact uB fun q _=>by rw[exG,if_neg (by omega)]
  ·rw[if_neg h2]
theorem zSM{i:Nat}(hi:i<n):gl (n+D) (exE n D x m T i (n+D-1-i))=gl (n+D) (exE n D x m T (i+1) 0):=by
 refine uB fun k _=>?_
 rw[zHM h,exE]
 by_cases h1:k<i
 ·rw[if_pos h1,if_pos (by omega)]
 ·rw[if_neg h1]
  by_cases h2:k=i
  ·subst h2
   rw[if_pos rfl,if_pos (by omega),exC,if_pos hi];exact uB fun q hq=>by rw[exG,if_pos hq]
  ·rw[if_neg h2,if_neg (by omega)]
theorem yAD{i:Nat}(hi:i<n){C:List Mx}{w:Int}:zH (zOt T (C,w,(i:Int)) (x.zE.getD i [])) (gl (n+D) (exE n D x m T i 0),((base n i:Nat):Int),0)=iz (gl (n+D) (exE n D x m T i (n-1-i)),((base n (i+1):Nat):Int)):=by
 have h6:=h.hn;have h3:=h.m.d3;have hc:=h.cl i hi;have hb:=zAu n (by omega) i hi;have co:=wT n (by omega);have:=zV (body:=zOt T (C,w,(i:Int)) (x.zE.getD i [])) (r:=(gl (n+D) (exE n D x m T i (n-1-i)),((base n (i+1):Nat):Int))) (fun j=>(gl (n+D) (exE n D x m T i j),((base n i+j:Nat):Int),((j:Nat):Int))) (n-1-i) (fun j hj=>by
  have a1:=h.ce i j;have a2:=h.tl (base n i+j);have e:exF n x m T i j=(x.zE.getD i []).getD j []++T.getD (base n i+j) []:=if_pos hj;unfold zOt;simp only
  rw[hc,yY hj,zM,yR [] (by omega),bs,zAS (by omega),bs,yR [] (by rw[h.t];omega),bs,zPw (by omega) (by omega),bs,zNJ h,zAS (by omega),bs,zC (by omega) (by omega),bs,zC (by omega) (by omega),bs,cs,cs,←e,J9,J9,zPx h];rfl) (by
  unfold zOt;simp only
  rw[hc,xR,zK,zQz n (by omega) i hi])
 exact this
theorem yAE{i:Nat}(hi:i<n){C:List Mx}{w:Int}:zH (zOu x (C,w,(i:Int)) (m.zP.getD i [])) (gl (n+D) (exE n D x m T i (n-1-i)),0)=iz (gl (n+D) (exE n D x m T (i+1) 0)):=by
 have h6:=h.hn;have h3:=h.m.d3;have pN:=h.m.mat i hi;have:=zV (body:=zOu x (C,w,(i:Int)) (m.zP.getD i [])) (r:=gl (n+D) (exE n D x m T (i+1) 0)) (fun j=>(gl (n+D) (exE n D x m T i (n-1-i+j)),((j:Nat):Int))) D (fun j hj=>by
  have e:exF n x m T i (n-1-i+j)=J0 n 0++(m.zP.getD i []).getD j []:=by rw[exF,if_neg (by omega),show n-1-i+j-(n-1-i)=j from by omega]
  have hr:=(pN.2 j hj).1;unfold zOu;simp only
  rw[pN.1,yY hj,zM,yR [] (by rw[pN.1];exact hj),bs,zAS (by omega),bs,h.o,zC (by omega) (by omega),bs,zC (by omega) (by omega),bs,zC (by omega) (by omega),bs,show(0:Int)=((0:Nat):Int)from rfl,zLT (by omega) (by omega) (by omega),bs,
   show(n:Int)-1-(i:Int)+(j:Int)=((n-1-i+j:Nat):Int)from by omega,zNJ h,zAS (by omega),bs,zC (by omega) (by omega),bs,cs,Ko,Ja,←e,J9,J9,zPx h];rfl) (by
  unfold zOu;simp only
  rw[pN.1,xR,zK,show n-1-i+D=n+D-1-i from by omega,zSM h hi])
 exact this
theorem yAF:zH (zOv x m T) (gl (n+D) (unC (n+D)),((n:Nat):Int),0)=iz (gl (n+D) (exC n D x m T)):=by
 have h6:=h.hn;have h3:=h.m.d3;have co:=wT n (by omega);have:=zV (body:=zOv x m T) (r:=gl (n+D) (exC n D x m T)) (fun i=>(gl (n+D) (exE n D x m T i 0),((base n i:Nat):Int),((i:Nat):Int))) n (fun i hi=>by
  unfold zOv;simp only
  rw[h.o,yY hi,zM,yR [] (by rw[h.c];exact hi),bs,yAD h hi,bs,yR [] (by rw[h.m.len];exact hi),bs,yAE h hi,bs,zC (by omega) (by omega),bs,cs]) (by
  unfold zOv;simp only
  rw[h.o,xR,zK]
  congr 2
  refine uB fun k _=>?_
  rw[zHM h,exC]
  by_cases hk:k<n
  ·rw[if_pos hk,if_pos hk]
  ·rw[if_neg hk,if_neg hk])
 have e:gl (n+D) (exE n D x m T 0 0)=gl (n+D) (unC (n+D)):=uB fun k _=>by rw[zHM h,if_neg (by omega)]
 rw[e,co.2.2]at this;exact this
theorem yAG:zH (zOs x T) (gl (n+D) (fun _=>J0 (n+D) 0),0,0)=iz (gl (n+D) (exP n D x T),((n:Nat):Int)):=by
 have h6:=h.hn;have h3:=h.m.d3;have co:=wT n (by omega);have:=zV (body:=zOs x T) (r:=(gl (n+D) (exP n D x T),((n:Nat):Int))) (fun i=>(gl (n+D) (fun k=>if k<i then exP n D x T k else J0 (n+D) 0),((i:Nat):Int),((i:Nat):Int))) n (fun i hi=>by
  have a1:=h.pl i;have a2:=h.tl i;have e:exP n D x T i=x.zR.getD i []++T.getD i []:=if_pos hi;unfold zOs;simp only
  rw[h.p,yY hi,zM,yR [] (by rw[h.p];exact hi),bs,yR [] (by rw[h.t];omega),bs,zPw (by omega) (by omega),bs,zAS (by omega),bs,zC (by omega) (by omega),bs,bs,cs,←e,J9,zEc]
  congr 3
  refine uB fun k _=>?_
  by_cases hk:k=i
  ·subst hk;rw[if_pos rfl,if_pos (by omega)]
  ·rw[if_neg hk]
   by_cases h2:k<i
   ·rw[if_pos h2,if_pos (by omega)]
   ·rw[if_neg h2,if_neg (by omega)]) (by
  unfold zOs;simp only
  rw[h.p,xR,zK]
  congr 3
  refine uB fun k _=>?_
  by_cases hk:k<n
  ·rw[if_pos hk]
  ·rw[if_neg hk,exP,if_neg hk])
 have e:gl (n+D) (fun k=>if k<0 then exP n D x T k else J0 (n+D) 0)=gl (n+D) (fun _=>J0 (n+D) 0):=uB fun k _=>if_neg (by omega)
 rw[e]at this;exact this
theorem zVG{v:Int}:f_e [v] m.Dim=iz (J0 D v):=by rw[h.m.d];exact zNI (by have:=h.m.d3;omega)
theorem zSN:f_o x m T=iz (ext n D x m T):=by
 have h6:=h.hn;have h3:=h.m.d3;unfold f_o;rw[zAF (by rw[h.o];omega),bs,zVG h,bs,yE (by rw[h.o];simp;omega),bs,zQ0 (N:=n+D) (by rw[J5,h.o];simp) (by omega),bs];simp only
 rw[yAG h,bs,yAF h,bs];rfl
end
end Go.Pl

namespace Go.Pl
open Go Go.Ab Go.Wk Go.Pc
theorem zMc{α:Type}{c:α→Nat}{b:Nat}:∀{xs:List α},(∀x∈xs,c x≤b)→sm c xs≤xs.length*b
 | [],_=>by simp[sm]
 |x::xs,h=>by
  have h1:=zMc (xs:=xs) fun y hy=>h y (by simp[hy])
  have h2:=h x (by simp);simp only[sm,J6,K6];omega
theorem zKm{xs:Mx}{b:Nat}(h:∀i,i<xs.length→(xs.getD i []).length≤b)(i:Nat):(xs.getD i []).length≤b:=by
 rcases Jj i xs.length with g|g
 ·exact h i g
 ·rw[J2,Jp g];simp
theorem zBU{x:SPr}{n:Nat}(ho:x.zA.length=n)(hn:n≤6):zUB x=iz ((base n n:Nat):Int):=by
 unfold zUB;rw[ho];have key:∀n:Nat,n<7→((rng ((n:Int)-1)).bind fun v1=>(rng ((n:Int)*v1)).bind fun v2=>(sL v2 2).bind fun v3=>(rng ((n:Int)+v3)).bind fun v4=>iz v4)=iz ((base n n:Nat):Int):=by decide+kernel
 exact key n (by omega)
theorem zHN{x:SPr}{n:Nat}(ho:x.zA.length=n)(hn:n≤6):zUD x=iz ((base n n:Nat):Int):=by
 unfold zUD;rw[ho];have key:∀n:Nat,n<7→((rng ((n:Int)+1)).bind fun v1=>(rng ((n:Int)*v1)).bind fun v2=>(sL v2 2).bind fun v3=>iz v3)=iz ((base n n:Nat):Int):=by decide+kernel
 exact key n (by omega)
theorem zNH.ofX{x:SPr}{m:zF}{D:Nat}{T:Mx}(hx:zCk x)(hm:zYk x.zA.length m D)(ht:T.length=base x.zA.length x.zA.length)(fN:∀i,(T.getD i []).length≤30):zNH x.zA.length D x m T:=by
 have h6:=hx.n6;refine⟨h6,rfl,hx.pl,hx.cl,fun i hi=>by have:=(hx.tl i hi).2.1;omega,zKm fun i hi=>?_,fun i=>?_,ht,fN,hm⟩
 ·have:=(hx.tl i (by rw[←hx.pl];exact hi)).1.1.1
  omega
 ·rcases Jj i x.zA.length with g|g
  ·refine zKm fun j hj=>?_
   have:=((hx.tl i g).2.2 j hj).1.1;omega
  ·have e:x.zE.getD i []=[]:=by rw[J2,Jp (by rw[hx.cl];exact g)];rfl
   rw[e];simp
theorem zQ1{n D:Nat}{x:SPr}{m:zF}{T:Mx}(h:zNH n D x m T):zAB (ext n D x m T):=by
 have h6:=h.hn;have h3:=h.m.d3;have hF:∀i,i<n→ ∀j,(exF n x m T i j).length≤36:=fun i hi j=>by
  have a1:=h.ce i j;have a2:=h.tl (base n i+j);have a3:=zKm (xs:=m.zP.getD i []) (b:=30) (fun k hk=>by have pN:=h.m.mat i hi;rw[pN.1]at hk;rw[(pN.2 k hk).1];omega) (j-(n-1-i))
  unfold exF;split
  ·rw[J5];omega
  ·rw[J5,J8];omega
 have hC:∀i,c2 (exC n D x m T i)≤1332:=fun i=>by
  unfold exC;split
  ·have:=zMc (c:=c1) (b:=36) (xs:=gl (n+D-1-i) (exF n x m T i)) fun y hy=>by
    obtain⟨j,_,rfl⟩:=Jt.1 hy;exact hF i (by assumption) j
   rw[xD]at this;have h8:(n+D-1-i)*36≤36*36:=K7 36 (by omega);simp only[c2,xD];omega
  ·have:=zMc (c:=c1) (b:=36) (xs:=unC (n+D) i) fun y hy=>by
    obtain⟨j,_,rfl⟩:=Jt.1 hy;simp only[c1,tQ,yA];omega
   have e:(unC (n+D) i).length=n+D-1-i:=xD;rw[e]at this;have h8:(n+D-1-i)*36≤36*36:=K7 36 (by omega);simp only[c2,e];omega
 refine⟨?_,?_,?_⟩
 ·simp only[S1,c1,ext,J5,J8,h.o];omega
 ·have:=zMc (c:=c1) (b:=36) (xs:=gl (n+D) (exP n D x T)) fun y hy=>by
   obtain⟨j,_,rfl⟩:=Jt.1 hy;have a1:=h.pl j;have a2:=h.tl j;simp only[c1,exP];split
   ·rw[J5];omega
   ·rw[J8];omega
  rw[xD]at this;have h8:(n+D)*36≤36*36:=K7 36 (by omega);simp only[S2,ext,c2,xD];omega
 ·have:=zMc (c:=c2) (b:=1332) (xs:=gl (n+D) (exC n D x m T)) fun y hy=>by
   obtain⟨j,_,rfl⟩:=Jt.1 hy;exact hC j
  rw[xD]at this;have h8:(n+D)*1332≤36*1332:=K7 1332 (by omega);simp only[S3,ext,c3,xD];omega
end Go.Pl

namespace Go.Pl
open Go Go.Ab Go.Wk Go.Pc
def zMd(x:SPr):Nat:=c1 x.zA+sm c1 x.zR+sm (sm c1) x.zE
def zPy(x:SPr)(k:Int):SPr:=⟨m1 k x.zA,m2 (k+c1 x.zA) x.zR,m3 (k+c1 x.zA+sm c1 x.zR) x.zE⟩
theorem zG1{x:SPr}(h:zAB x):zMd x≤3145728:=by obtain⟨h1,h2,h3⟩:=h;have g2:=zS9 (x:=x.zR);have g3:=zYf (x:=x.zE);simp only[S1]at h1;simp only[S2]at h2;simp only[S3]at h3;simp only[zMd];omega
theorem zAk{x:SPr}{k:Int}(h:zAB x)(k0:0≤k)(k1:k≤1000000000):zU3 x k=iz (k+zMd x,zPy x k):=by have ht:=zG1 h;simp only[zMd]at ht;unfold zU3;rw[zH1 h.1 k0 (by omega),bs,zGb h.2.1 (by simp only;omega) (by simp only;omega),bs,zJZ h.2.2 (by simp only;omega) (by simp only;omega),bs];simp only[zMd,zPy,Ky,Jc0]
theorem zFB{x:SPr}{k:Int}(h:zAB x)(k0:0≤k)(k1:k≤1000000000):zUE (zPy x k) k=iz (k+zMd x):=by
 have ht:=zG1 h;simp only[zMd]at ht;unfold zUE zPy;simp only
 rw[zH2 h.1 k0 (by omega),bs,iD (by omega),zK,zGc h.2.1 (by omega) (by omega),bs,iD (by omega),zK,zKa h.2.2 (by omega) (by omega),bs,iD (by omega),zK];simp only[zMd,Ky,Jc0]
end Go.Pl

namespace Go.Pl
open Go Go.Ab Go.Wk Go.Pc
end Go.Pl

namespace Go.Pl
open Go Go.Ab Go.Wk Go.Pc
end Go.Pl

namespace Go.Pl
open Go Go.Ab Go.Wk Go.Pc
theorem zNK{v:List Int}{k:Nat}(hl:v.length≤1000000)(hk:k<v.length)(h0:∀j,j<k→at0 v j=0)(h1:at0 v k≠0):zWv v=iz (k:Int):=by
 unfold zWv;have:=zV (body:=zJ1 v) (r:=.inr (k:Int)) (fun i=>(i:Int)) k (fun i hi=>by
  unfold zJ1 zWu;rw[yY (by omega),zM,yQ (by omega),bs,bs,h0 i hi,bne_self_eq_false,zK,zC (by omega) (by omega),bs,cs]) (by
  unfold zJ1 zWu;rw[yY hk,zM,yQ hk,bs,bs,zCj h1,zM])
 have e:zH (zJ1 v) 0=iz (.inr (k:Int)):=this;rw[e,bs]
section
variable {p:Int} (hp:Prime p) {n:Nat} (hn:n≤100000) {R:Mx}{pv:Nat→Nat} (h:Red p n R pv) {v:List Int} (hv:Row p n v)
 include hp hn h
theorem zMe(hm:R.length≤100000):zWw R=iz (gl R.length fun i=>(pv i:Int)):=by
 have h7:=hp.pos;unfold zWw;rw[wW (body:=zMO R) R.length (fun i=>(pv i:Int)) (fun i acc hi ha=>by
  have hr:=h.row i hi;have h1:=h.one i hi;unfold zMO;simp only
  rw[yY hi,zM,yR [] hi,bs,zNK (k:=pv i) (by rw[hr.1];omega) (by rw[hr.1];exact h.lt i hi) (fun j hj=>h.low i hi j hj) (by simp only[ent]at h1;omega),bs,yE (by simp;omega),bs,zC (by omega) (by omega),bs,cs]) (fun acc=>by
  unfold zMO;simp only
  rw[xR,zK]),bs]
 include hv
theorem zYp{i:Nat}(hi:i<R.length):tU p n (cl p n R pv v i) (0-at0 (cl p n R pv v i) (pv i)) (R.getD i [])=cl p n R pv v (i+1):=by
 have _:=hp;have _:=hn;have _:=h;have _:=hv;have _:=hi;rw[cl];refine zZ fun j _=>?_
 generalize at0 (cl p n R pv v i) (pv i)=a
 generalize at0 (R.getD i []) j=b
 rw[Qz,Qz,U6];have e:at0 (cl p n R pv v i) j+(p*b-a*b)=at0 (cl p n R pv v i) j+(0-a*b)+p*b:=by omega
 rw[e,Ly]
theorem zHO{c:Int}(hm:R.length≤100000):zWx (zU.mk p c R) v=iz (cl p n R pv v R.length):=by
 have h7:=hp.pos;have:=zV (body:=zJ2 (zU.mk p c R) (gl R.length fun i=>(pv i:Int))) (r:=cl p n R pv v R.length) (fun i=>(cl p n R pv v i,(i:Int))) R.length (fun i hi=>by
  have hr:=zKl hp hn h hv i;have ha:=hr.2 (pv i) (h.lt i hi);unfold zJ2;simp only
  rw[xD,yY hi,zM,zAS hi,bs,yR [] hi,bs,yQ (by rw[hr.1];exact h.lt i hi),bs,zC (by omega) (by omega),bs,zB1 hp hr (h.row i hi) (by omega) (by omega),bs,zC (by omega) (by omega),bs,cs,zYp hp hn h hv hi]) (by
  unfold zJ2;simp only
  rw[xD,xR,zK])
 unfold zWx;rw[zAF (by rw[hv.1];omega),bs];simp only
 rw[zMe hp hn h hm,bs];have e:zH (zJ2 (zU.mk p c R) (gl R.length fun i=>(pv i:Int))) (v,0)=iz (cl p n R pv v R.length):=this;rw[e,bs]
end
end Go.Pl

namespace Go.Pl
open Go Go.Ab Go.Wk Go.Pc
section
variable {p:Int} (hp:1<p) {n:Nat}{R R':Mx}{pv pv':Nat→Nat} (h:Red p n R pv) (h':Red p n R' pv') (hs:∀i,i<R.length→Sp p n R' (R.getD i []))
 include hp h h' hs
theorem Red.lt_of{i i2 k k2:Nat}(hii:i<i2)(eQ:i2<R.length)(hk:k<R'.length)(e:pv' k=pv i)(e2:pv' k2=pv i2):k<k2:=by
 have _:=hp;have _:=hs;have h1:=h.mono i i2 hii eQ;refine Classical.byContradiction fun hn=>?_
 rcases Jj k2 k with g|g
 ·have:=h'.mono k2 k g hk;omega
 ·have:k=k2:=by omega
  subst this;omega
theorem Red.low_in:∀i,i<R.length→ ∃k,k<R'.length∧pv' k=pv i∧i≤k:=by
 intro i
 induction i with
 |zero=>intro hi;obtain⟨k,hk,e⟩:=h.piv_in hp h' hs hi;exact⟨k,hk,e,by omega⟩
 |succ i ih=>
  intro hi;obtain⟨k,hk,e,aF⟩:=ih (by omega);obtain⟨k2,fp,e2⟩:=h.piv_in hp h' hs hi;have:=h.lt_of hp h' hs (show i<i+1 by omega) hi hk e e2;exact⟨k2,fp,e2,by omega⟩
theorem Red.le_of:R.length≤R'.length:=by
 rcases U9 R.length with g|g
 ·omega
 ·obtain⟨k,hk,_,aF⟩:=h.low_in hp h' hs (R.length-1) (by omega)
  omega
end
end Go.Pl

namespace Go.Pl
open Go Go.Ab Go.Wk Go.Pc
end Go.Pl

namespace Go.Pl
open Go Go.Ab Go.Wk Go.Pc
theorem zKn{u v:List Int}{j:Nat}:at0 (u++v) j=if j<u.length then at0 u j else at0 v (j-u.length):=by
 simp only[at0,J2];split
 ·next h=>rw[Jx h]
 ·next h=>rw[Jb (by omega)]
theorem zB3{v:List Int}{c j:Nat}:at0 (v.drop c) j=at0 v (c+j):=by simp only[at0,J2,Lr]
theorem zHP{v:List Int}{c j:Nat}(h:j<c):at0 (v.take c) j=at0 v j:=by simp only[at0,J2,Uq,if_pos h]
theorem zG2{f:Nat→Int}(t:Nat):∀d:Nat,S (t+d) f=S t f+S d (fun i=>f (t+i))
 |0=>by simp[S]
 |d+1=>by rw[←Nat.add_assoc];simp only[S];rw[zG2 t d];omega
theorem zYq{f:Nat→Int}{t n:Nat}(ht:t≤n)(h:∀i,i<t→f i=0):S n f=S (n-t) (fun i=>f (t+i)):=by
 have e:n=t+(n-t):=by omega
 conv=>lhs;rw[e,zG2,xQ (g:=fun _=>0) h,qL]
 omega
theorem xW{F:Nat→List Int}{m i:Nat}(h:i<m):(gl m F).getD i []=F i:=by simp[gl,J2,h]
def ur(N i:Nat):List Int:=mkv N fun j=>if j=i then 1 else 0
def wd(N:Nat)(A:Mx):Mx:=gl N fun i=>A.getD i []++ur N i
def Gr(p:Int)(c N:Nat)(A:Mx)(u:List Int):Prop:=∀j,j<c→at0 u j%p=(S N fun k=>at0 u (c+k)*ent A k j)%p
section
variable {p:Int} (hp:1<p) {c N:Nat}{A:Mx} (hA:∀i,i<N→Row p c (A.getD i []))
 include hA
theorem zCO:(wd N A).length=N:=by have _:=hA;exact xD
theorem zKo{i j:Nat}(hi:i<N)(hj:j<c):ent (wd N A) i j=ent A i j:=by rw[ent,wd,xW hi,zKn,(hA i hi).1,if_pos hj]
theorem zB4{i l:Nat}(hi:i<N)(hl:l<N):ent (wd N A) i (c+l)=if l=i then 1 else 0:=by
 rw[ent,wd,xW hi,zKn,(hA i hi).1,if_neg (by omega),H6,ur,yH hl]
 include hp
theorem zSO{i:Nat}(hi:i<N):Row p (c+N) ((wd N A).getD i []):=by
 refine⟨by rw[wd,xW hi,J5,(hA i hi).1,ur,yA],fun j hj=>?_⟩;rcases Jj j c with g|g
 ·have:=(hA i hi).2 j g
  have e:=zKo hA hi g;simp only[ent]at e;rw[e];exact this
 ·have e:=zB4 hA (l:=j-c) hi (by omega)
  rw[show c+(j-c)=j from by omega]at e;simp only[ent]at e;rw[e];split<;>omega
theorem yAH{u:List Int}:Sp p (c+N) (wd N A) u↔Gr p c N A u:=by
 have _:=hp;constructor
 ·rintro⟨cf,cH⟩ j hj
  rw[zCO hA]at cH;rw[←cH j (by omega)];refine kX fun k hk=>?_
  have h1:=cH (c+k) (by omega);rw[zAj (k:=k) hk (fun i hi gf=>by rw[zB4 hA hi hk,if_neg (Ne.symm gf),L4]),zB4 hA hk hk,if_pos rfl,Hf]at h1;rw[zKo hA hk hj,Jv,h1,←Jv]
 ·intro h
  refine⟨fun k=>at0 u (c+k),fun j hj=>?_⟩;rw[zCO hA];rcases Jj j c with g|g
  ·rw[h j g]
   refine congrArg (· %p) (xQ fun k hk=>?_);rw[zKo hA hk g]
  ·obtain⟨l,rfl⟩:∃l,j=c+l:=⟨j-c,by omega⟩
   rw[zAj (k:=l) (by omega) (fun i hi gf=>by rw[zB4 hA hi (by omega),if_neg (Ne.symm gf),L4]),zB4 hA (by omega) (by omega),if_pos rfl,Hf]
variable {W:Mx}{pv:Nat→Nat} (hW:Red p (c+N) W pv) (hs:jM p (c+N) W (wd N A))
 include hW
theorem zYr:∃t,t≤W.length∧(∀i,i<t→pv i<c)∧ ∀i,t≤i→i<W.length→c≤pv i:=by
 have _:=hA;have _:=hp;obtain⟨t,ht,eH⟩:=zD2 (p:=fun t=>W.length≤t∨c≤pv t) ⟨W.length,.inl (Jl _)⟩;have gE:∀i,i<t→i<W.length∧pv i<c:=fun i hi=>by have:=eH i hi;exact⟨Jbp fun h=>this (.inl h),Jbp fun h=>this (.inr h)⟩
 refine⟨t,Nat.le_of_not_lt fun h=>?_,fun i hi=>(gE i hi).2,fun i hi eQ=>?_⟩
 ·have:=(gE W.length h).1;omega
 ·rcases ht with h|h
  ·omega
  ·rcases Jj t i with g|g
   ·have:=hW.mono t i g eQ;omega
   ·rw[show i=t from by omega];exact h
def nul(c t:Nat)(W:Mx):Mx:=gl (W.length-t) fun i=>(W.getD (t+i) []).drop c
 omit hp hA hW in
theorem zEM{t i j:Nat}(hi:t+i<W.length):ent (nul c t W) i j=ent W (t+i) (c+j):=by rw[ent,nul,xW (by omega),zB3]
variable {t:Nat} (ht:t≤W.length) (h1:∀i,i<t→pv i<c) (h2:∀i,t≤i→i<W.length→c≤pv i)
 include ht h1 h2
theorem zVH:Red p N (nul c t W) (fun i=>pv (t+i)-c):=by
 have _:=hp;have _:=hA;have _:=h1;have _:=ht;have hl:(nul c t W).length=W.length-t:=xD;have d8:∀i,i<W.length-t→c≤pv (t+i):=fun i hi=>h2 (t+i) (by omega) (by omega)
 refine⟨fun i hi=>?_,fun i hi=>?_,fun i hi=>?_,fun i hi j hj=>?_,fun i k hi hk gf=>?_,fun i j gM hj=>?_⟩
 ·rw[hl]at hi
  have hr:=hW.row (t+i) (by omega);refine⟨by rw[nul,xW hi,K3,hr.1];omega,fun j hj=>?_⟩;have:=hr.2 (c+j) (by omega);rw[nul,xW hi,zB3];exact this
 ·rw[hl]at hi
  have:=hW.lt (t+i) (by omega);have:=d8 i hi;omega
 ·rw[hl]at hi
  rw[zEM (by omega),show c+(pv (t+i)-c)=pv (t+i)from by have:=d8 i hi;omega];exact hW.one _ (by omega)
 ·rw[hl]at hi
  rw[zEM (by omega)];exact hW.low _ (by omega) _ (by omega)
 ·rw[hl]at hi hk
  rw[zEM (by omega),show c+(pv (t+i)-c)=pv (t+i)from by have:=d8 i hi;omega];exact hW.off _ _ (by omega) (by omega) (by omega)
 ·rw[hl]at hj
  have:=hW.mono (t+i) (t+j) (by omega) (by omega);have:=d8 i (by omega);omega
 include hs
theorem yAI{u:List Int}:Sp p (c+N) W u↔Gr p c N A u:=by have _:=hW;have _:=ht;have _:=h1;have _:=h2;exact hs.iff.trans (yAH hp hA)
theorem zYs{x:List Int}:Sp p N (nul c t W) x↔ ∀j,j<c→(S N fun k=>at0 x k*ent A k j)%p=0:=by
 have hl:(nul c t W).length=W.length-t:=xD;constructor
 ·rintro⟨cf,cH⟩ j hj
  rw[hl]at cH;have e1:(S N fun k=>at0 x k*ent A k j)%p=(S N fun k=>(S (W.length-t) fun i=>cf i*ent (nul c t W) i k)*ent A k j)%p:=kX fun k hk=>by rw[Jv,←cH k hk,←Jv]
  have e2:(S N fun k=>(S (W.length-t) fun i=>cf i*ent (nul c t W) i k)*ent A k j)=S (W.length-t) fun i=>cf i*S N fun k=>ent W (t+i) (c+k)*ent A k j:=by
   rw[xQ (g:=fun k=>S (W.length-t) fun i=>cf i*(ent W (t+i) (c+k)*ent A k j)) (fun k hk=>by rw[←zLL];exact xQ fun i hi=>by rw[zEM (by omega),H8]),zHC]
   exact xQ fun i hi=>by rw[zCL]
  have e3:(S (W.length-t) fun i=>cf i*S N fun k=>ent W (t+i) (c+k)*ent A k j)%p=(S (W.length-t) fun _=>0)%p:=kX fun i hi=>by have h:=(yAI hp hA hW hs ht h1 h2).1 (qM (p:=p) (n:=c+N) (R:=W) (i:=t+i) (by omega)) j hj;have hz:=hW.low (t+i) (by omega) j (by have:=h2 (t+i) (by omega) (by omega);omega);simp only[ent]at hz;rw[hz]at h;rw[Jv,show(S N fun k=>ent W (t+i) (c+k)*ent A k j)%p=0 from h.symm,L4]
  rw[e1,e2,e3,qL];rfl
 ·intro h0
  let u:List Int:=mkv (c+N) fun j=>if j<c then 0 else at0 x (j-c)
  have fT:∀j,j<c→at0 u j=0:=fun j hj=>by rw[yH (by omega),if_pos hj]
  have eZ:∀k,k<N→at0 u (c+k)=at0 x k:=fun k hk=>by rw[yH (by omega),if_neg (by omega),H6]
  have hg:Gr p c N A u:=fun j hj=>by rw[fT j hj,xQ (g:=fun k=>at0 x k*ent A k j) (fun k hk=>by rw[eZ k hk]),h0 j hj];rfl
  have hx:=hW.expand ((yAI hp hA hW hs ht h1 h2).2 hg);refine⟨fun i=>at0 u (pv (t+i)),fun j hj=>?_⟩;have h3:=hx (c+j) (by omega);rw[eZ j hj,zYq ht (fun i hi=>by rw[fT _ (h1 i hi),U6])]at h3;rw[hl,h3];exact congrArg (· %p) (xQ fun i hi=>by rw[zEM (by omega)])
end
end Go.Pl

namespace Go.Pl
open Go Go.Ab Go.Wk Go.Pc
theorem zKp{v:List Int}(hl:v.length≤1000000):IsB (f_Y v) (∀i,i<v.length→at0 v i=0):=by
 refine zDX v.length (fun i=>at0 v i=0) rfl (fun i hi _=>?_) ?_
 ·refine zBO (o:=iz (at0 v i==0)) (IsB.of_bool (by simp)) (by omega) ?_
  unfold zQS;rw[yY hi,zM,yQ hi,bs,bs];rfl
 ·unfold zQS
  rw[xR,zK]
end Go.Pl

namespace Go.Pl
open Go Go.Ab Go.Wk Go.Pc
end Go.Pl

namespace Go.Pl
open Go Go.Ab Go.Wk Go.Pc
end Go.Pl

namespace Go.Pl
open Go Go.Ab Go.Wk Go.Pc
structure Nul (p:Int) (c N:Nat) (A W:Mx) (pv:Nat→Nat) (t:Nat):Prop where
 row:∀i,i<N→Row p c (A.getD i [])
 len:A.length=N
 red:Red p (c+N) W pv
 sp:jM p (c+N) W (wd N A)
 le:t≤W.length
 lo:∀i,i<t→pv i<c
 hi:∀i,t≤i→i<W.length→c≤pv i
section
variable {p:Int} (hp:Prime p) {c N:Nat} (fd:c+N≤100000) {A W:Mx}{pv:Nat→Nat}{t:Nat}
 include hp fd
theorem Nul.get(hr:∀i,i<N→Row p c (A.getD i []))(hl:A.length=N):∃W pv t,Nul p c N A W pv t∧f_r p (wd N A)=iz W∧f_j p (wd N A)=iz W:=by have h7:=hp.pos;obtain⟨W,pv,r1,r2,r3,r4⟩:=kZ hp (n:=c+N) fd (rows:=wd N A) (by rw[zCO hr];omega) (fun i hi=>zSO (by omega) hr (by rwa [zCO hr]at hi));obtain⟨t,t1,t2,t3⟩:=zYr (by omega) hr r3;exact⟨W,pv,t,⟨hr,hl,r3,r4,t1,t2,t3⟩,r1,r2⟩
variable (h:Nul p c N A W pv t)
 include h
theorem Nul.nred:Red p N (nul c t W) (fun i=>pv (t+i)-c):=by have _:=fd;have h7:=hp.pos;exact zVH (by omega) h.row h.red h.le h.lo h.hi
theorem Nul.nsp{x:List Int}:Sp p N (nul c t W) x↔ ∀j,j<c→(S N fun k=>at0 x k*ent A k j)%p=0:=by have _:=fd;have h7:=hp.pos;exact zYs (by omega) h.row h.red h.sp h.le h.lo h.hi
theorem Nul.full:W.length=N:=by
 have h7:=hp.pos;have g1:W.length≤(wd N A).length:=zHK hp (n:=c+N) fd (by rw[zCO h.row];omega) (fun i hi=>zSO (by omega) h.row (by rwa [zCO h.row]at hi)) h.red h.sp;rw[zCO h.row]at g1;have hl:(gl W.length fun i=>(W.getD i []).drop c).length=W.length:=xD;have hR:∀i,i<W.length→Row p N ((gl W.length fun i=>(W.getD i []).drop c).getD i []):=fun i hi=>by have hr:=h.red.row i hi;rw[xW hi];refine⟨by rw[K3,hr.1];omega,fun j hj=>?_⟩;rw[zB3];exact hr.2 (c+j) (by omega)
 obtain⟨R3,pv3,_,_,g3,g4⟩:=kZ hp (n:=N) (by omega) (rows:=gl W.length fun i=>(W.getD i []).drop c) (by omega) (by rw[hl];exact hR);have g5:=zHK hp (n:=N) (by omega) (by omega) (by rw[hl];exact hR) g3 g4;have eY:(gl N (ur N)).length=N:=xD;have m9:∀i j,i<N→j<N→ent (gl N (ur N)) i j=if j=i then 1 else 0:=fun i j hi hj=>by rw[ent,xW hi,ur,yH hj]
 have ef:Red p N (gl N (ur N)) (fun i=>i):=by
  refine⟨fun i hi=>?_,fun i hi=>by omega,fun i hi=>?_,fun i hi j hj=>?_,fun i k hi hk gf=>?_,fun i j gM hj=>gM⟩
  ·rw[eY]at hi
   rw[xW hi];refine⟨yA _ _,fun j hj=>?_⟩;rw[ur,yH hj];split<;>omega
  ·rw[eY]at hi
   rw[m9 i i hi hi,if_pos rfl]
  ·rw[eY]at hi
   rw[m9 i j hi (by omega),if_neg (by omega)]
  ·rw[eY]at hi hk
   rw[m9 k i hk hi,if_neg (Ne.symm gf)]
 have g6:=ef.le_of (by omega) g3 (fun i hi=>by rw[eY]at hi;refine g4.iff.2 ?_;obtain⟨cf,cH⟩:=h.sp.2 i (by rw[zCO h.row];exact hi);refine⟨cf,fun j hj=>?_⟩;have h1:=cH (c+j) (by omega);have h2:=zB4 h.row hi hj;simp only[ent]at h2;rw[h2]at h1;have h3:=m9 i j hi hj;simp only[ent]at h3;rw[h3,hl,←h1];exact congrArg (· %p) (xQ fun k hk=>by rw[ent,xW hk,zB3]))
 omega
 omit h in
theorem zNL{N:Nat}(hN:N≤100000):f_C (N:Int)=iz (gl N (ur N)):=by
  have _:=hp;have _:=fd;unfold f_C;rw[wW (body:=zIq (N:Int)) N (ur N) (fun i acc hi ha=>by
    unfold zIq;simp only
    rw[yY hi,zM,yX (by omega),bs,vP,Ke,if_pos hi,bs,J9,tN,qU,yE (by simp;omega),bs,zC (by omega) (by omega),bs,cs];rfl) (fun acc=>by
    unfold zIq;simp only
    rw[xR,zK]),bs]
 omit h in
theorem zQ2(hr:∀i,i<N→Row p c (A.getD i []))(hl:A.length=N):zWo p A=f_r p (wd N A):=by
  unfold zWo;rw[hl,zNL hp fd (by omega),bs,wW (body:=zMG A (gl N (ur N))) N (fun i=>A.getD i []++ur N i) (fun i acc hi ha=>by
    unfold zMG;simp only
    rw[hl,yY hi,zM,yR [] (by omega),bs,tM (by rw[(hr i hi).1];omega),bs,zAS hi,bs,yE (by rw[(hr i hi).1,ur,yA];omega),bs,yE (by simp;omega),bs,zC (by omega) (by omega),bs,cs]) (fun acc=>by
    unfold zMG;simp only
    rw[hl,xR,zK]),bs]
  show(f_r p (wd N A)).bind _=_;cases f_r p (wd N A)<;>rfl
theorem zQ3:zH (zJ0 (c:Int) W) ([],0)=iz (nul c t W):=by
 have hf:=h.full hp fd;have cS:=h.le;have:=zV (body:=zJ0 (c:Int) W) (r:=nul c t W) (fun i=>(gl (i-t) (fun k=>(W.getD (t+k) []).drop c),(i:Int))) W.length (fun i hi=>by
  have hr:=h.red.row i hi;have h1:=h.red.one i hi;have gE:=h.red.lt i hi;have aA:=zKk (n:=c+N) hr.1 (by omega) gE (h.red.low i hi) (by simp only[ent]at h1;omega);unfold zJ0;simp only
  rw[yY hi,zM,yR [] hi,bs,aA,bs];rcases Jj i t with g|g
  ·have:=h.lo i g
   rw[iD (by omega),zK,zC (by omega) (by omega),bs,cs,show i-t=0 from by omega,show i+1-t=0 from by omega]
  ·have:=h.hi i g hi
   have e:yB (W.getD i []) (c:Int) ((W.getD i []).length:Int)=iz ((W.getD i []).drop c):=by unfold yB;rw[if_pos ⟨by omega,by rw[hr.1];omega,by omega⟩,J9,J9,Jr (by rw[K3];omega)]
   rw[iE (by omega),zM,bs,e,bs,tM (by rw[K3,hr.1];omega),bs,yE (by rw[xD];simp;omega),bs,zC (by omega) (by omega),bs,cs,show i+1-t=(i-t)+1 from by omega,←tY,show t+(i-t)=i from by omega]) (by
  unfold zJ0;simp only
  rw[xR,zK];rfl)
 rw[show 0-t=0 from by omega]at this;exact this
end
end Go.Pl

namespace Go.Pl
open Go Go.Ab Go.Wk Go.Pc
theorem zPz{β:Type}{n:Nat}{F:Nat→β}:gl (n+1) F=gl n F++[F n]:=tY.symm
theorem zP0{β:Type}{L:Nat}{F:Nat→List β}:∀{n:Nat},(∀i,i<n→(F i).length=L)→(gl n F).flatten.length=n*L
 |0,_=>by simp[gl]
 |n+1,h=>by rw[zPz,Qm,J5,zP0 fun i hi=>h i (by omega),K6];simp[h n (by omega)]
theorem zSP{β:Type}{body:List β×Int→Option ((List β×Int)⊕List β)}(n L:Nat)(F:Nat→List β)(a0:List β)(hF:∀i,i<n→(F i).length=L)
  (h:∀i acc,i<n→acc.length=a0.length+i*L→body (acc,(i:Int))=iz (.inl (acc++F i,((i+1:Nat):Int))))(he:∀acc,body (acc,(n:Int))=iz (.inr acc)):
  zH body (a0,0)=iz (a0++(gl n F).flatten):=by
 have:=zV (body:=body) (r:=a0++(gl n F).flatten) (fun i=>(a0++(gl i F).flatten,(i:Int))) n (fun i hi=>by rw[h i _ hi (by rw[J5,zP0 fun j hj=>hF j (by omega)]),zPz,Qm,Jd];simp) (he _)
 simpa[gl]using this
end Go.Pl

namespace Go.Pl
open Go Go.Ab Go.Wk Go.Pc
end Go.Pl

namespace Go.Pl
open Go Go.Ab Go.Wk Go.Pc
theorem zHQ{α:Type}{f:α→α}{a:α}(h:f a=a):∀k,iter k f a=a
 |0=>rfl
 |k+1=>by show iter k f (f a)=a;rw[h];exact zHQ h k
theorem zSQ{p:Int}{D:Nat}{A:List Mx}:∀(v:Vec)(o:Nat)(B:Mx),o+v.length≤A.length→wM p D A (nw o v) B=img (PM p D) (A.drop o) v B
 | [],o,B,_=>by simp[nw,wM,img]
 |a::v,o,B,h=>by
  simp only[J6]at h;have e:A.drop o=A.getD o []::A.drop (o+1):=by grind[Hy]
  rw[e];simp only[nw,img];rw[zF8,zN9,zSQ v (o+1) _ (by omega)]
theorem zCP:∀(k o:Nat),nw o (zeros k)=[]
 |0,_=>rfl
 |k+1,o=>by rw[show zeros (k+1)=0::zeros k from rfl];simp only[nw];rw[zCP k];rfl
section
variable {x:SPr}{m:zF}{D:Nat} (h:Pres x) (hm:zSF x.zA.length m D) (hr:zF9 x m D)
 include hm
 include h hr
theorem zP1:∀(d k:Nat),k+d=x.zA.length→Rel (PM m.Prime D) (idM D) (suf x k) (m.zP.drop k)
 |0,k,hk=>by rw[vV (by omega),Ur (by rw[hm.len];omega)];exact rfl
 |d+1,k,mw=>by
  have h6:=h.os.1;have hk:k<x.zA.length:=by omega
  have gj:=hm.len;have e:m.zP.drop k=m.zP.getD k []::m.zP.drop (k+1):=by simp_all
  obtain⟨t1,t2,t3⟩:=h.tl k hk;obtain⟨r1,r2⟩:=hr k hk;have t9:∀v,Exp x.zA v k→wM m.Prime D m.zP (nw 0 v) (idM D)=img (PM m.Prime D) (m.zP.drop (k+1)) (v.drop (k+1)) (idM D):=fun v hv=>by
   have hl:=hv.1.1
   conv=>lhs;rw[zAy hv hk]
   rw[zDk,zCP,Ju,yC,zSQ _ _ _ (by grind),Jf]
  rw[yG hk,e];refine⟨?_,fun q c dd hc hd=>?_,zP1 d (k+1) (by omega)⟩
  ·grind[pw,lvl,zN9]
  ·rw[Lr]at hc
   have hq:k+1+q<m.zP.length:=by grind
   have dg:c=m.zP.getD (k+1+q) []:=by grind
   have ma:dd=((x.zE.getD k []).getD q []).drop (k+1):=by grind[lvl]
   have:=r2 (k+1+q) (by omega) (by omega);rw[show k+1+q-(k+1)=q from by omega]at this;rw[dg,ma,this,t9 _ (t3 q (by omega))]
end
end Go.Pl

namespace Go.Pl
open Go Go.Ab Go.Wk Go.Pc
theorem zEN{p:Int}{c N:Nat}(fd:c+N≤100000){A:Mx}(hr:∀i,i<N→Row p c (A.getD i []))(hl:A.length=N):zWk A=iz (wd N A):=by
 unfold zWk;rw[wW (body:=zMC A) N (fun i=>A.getD i []++ur N i) (fun i acc hi ha=>by
  have h1:=(hr i hi).1;have e:xJ (J0 (c+N) (0:Int)) 0 ((A.getD i []).take (((J0 (c+N) (0:Int)).length)-0))=A.getD i []++J0 N 0:=by
   unfold xJ;rw[J8,Jr (l:=A.getD i []) (by omega),K5,Ju,h1,Lb]
   congr 2;omega
  have e2:ixO (A.getD i []++J0 N (0:Int)) ((c+i:Nat):Int)=iz 0:=by rw[vP,Jb (by omega),h1,Ke,if_pos (by omega)]
  unfold zMC;simp only
  rw[hl,yY hi,zM,yR [] (by omega),bs,h1,←Ky,zC (by omega) (by omega),bs,yX (by omega),bs,←Ky,zC (by omega) (by omega),bs,e,e2,bs,J9,Ge _ _ (by omega),h1,H6,tN,qU,yE (by simp;omega),bs,zC (by omega) (by omega),bs,cs];rfl) (fun acc=>by
  unfold zMC;simp only
  rw[hl,xR,zK]),bs]
 rfl
end Go.Pl

namespace Go.Pl
open Go Go.Ab Go.Wk Go.Pc
theorem zMf{p:Int}(hp:Prime p){n:Nat}(hn:n≤100000){R:Mx}{pv:Nat→Nat}(h:Red p n R pv):f_r p R=iz R∧f_j p R=iz R:=by have h7:=hp.pos;have hl:R.length≤n:=h.len_le;obtain⟨R2,pv2,r1,r2,r3,r4⟩:=kZ hp hn (rows:=R) (by omega) h.row;have e:=r3.unique (by omega) h r4;rw[e]at r1 r2;exact⟨r1,r2⟩
section
variable {p:Int} (hp:Prime p) {c N:Nat} (fd:c+N≤100000) {A W:Mx}{pv:Nat→Nat}{t:Nat}
 include hp fd
theorem zMg(h:Nul p c N A W pv t):zH (zRj (c:Int) W) ([],0)=iz (nul c t W):=by
 have h7:=hp.pos;have hf:=h.full hp fd;have cS:=h.le;have:=zV (body:=zRj (c:Int) W) (r:=nul c t W) (fun i=>(gl (i-t) (fun k=>(W.getD (t+k) []).drop c),(i:Int))) W.length (fun i hi=>by
  have hr:=h.red.row i hi;have h1:=h.red.one i hi;have e0:yB (W.getD i []) 0 (c:Int)=iz ((W.getD i []).take c):=by unfold yB;rw[if_pos ⟨by omega,by omega,by rw[hr.1];omega⟩,J9,show(0:Int).toNat=0 from rfl,Hv,G7]
  have fN:((W.getD i []).take c).length=c:=by rw[Jz,hr.1];omega
  have hz:=zKp (v:=(W.getD i []).take c) (by omega);unfold zRj;simp only
  rw[yY hi,zM,yR [] hi,bs,e0,bs];rcases Jj i t with g|g
  ·have ex:=h.lo i g
   rcases hz with⟨_,z⟩|⟨z,_⟩
   ·have:=z (pv i) (by omega)
    rw[zHP ex]at this;simp only[ent]at h1;omega
   ·rw[z,bs,zK,zC (by omega) (by omega),bs,cs,show i-t=0 from by omega,show i+1-t=0 from by omega]
  ·have fw:=h.hi i g hi
   have e:yB (W.getD i []) (c:Int) ((W.getD i []).length:Int)=iz ((W.getD i []).drop c):=by unfold yB;rw[if_pos ⟨by omega,by rw[hr.1];omega,by omega⟩,J9,J9,Jr (by rw[K3];omega)]
   rcases hz with⟨z,_⟩|⟨_,z⟩
   ·rw[z,bs,zM,e,bs,yE (by rw[xD];simp;omega),bs,zC (by omega) (by omega),bs,cs,show i+1-t=(i-t)+1 from by omega,←tY,show t+(i-t)=i from by omega]
   ·refine absurd (fun j hj=>?_) z
    rw[fN]at hj;rw[zHP hj];have:=h.red.low i hi j (by omega);simpa only[ent]using this) (by
  unfold zRj;simp only
  rw[xR,zK];rfl)
 rw[show 0-t=0 from by omega]at this;exact this
theorem zFC(hr:∀i,i<N→Row p c (A.getD i []))(hl:A.length=N):∃K pk,zWp p A (c:Int)=iz K∧f_J p A (c:Int)=iz K∧Red p N K pk∧ ∀x,Sp p N K x↔ ∀j,j<c→(S N fun k=>at0 x k*ent A k j)%p=0:=by
 obtain⟨W,pv,t,h1,h2,h3⟩:=Nul.get hp fd hr hl;refine⟨nul c t W,_,?_,?_,h1.nred hp fd,fun x=>h1.nsp hp fd⟩
 ·unfold zWp
  rw[zQ2 hp fd hr hl,h2,bs,zQ3 hp fd h1,bs]
 ·unfold f_J
  rw[zEN fd hr hl,bs,h3,bs,zMg hp fd h1,bs,(zMf hp (by omega) (h1.nred hp fd)).2,bs]
end
end Go.Pl

namespace Go.Pl
open Go Go.Ab Go.Wk Go.Pc
section
variable {x:SPr} (h:Pres x)
 include h
theorem zSR:∀k,k≤x.zA.length→2*((Ji k).flatMap (R2 x)).length+k*k+k=2*(x.zA.length*k)
 |0,_=>by simp
 |k+1,hk=>by
  have ih:=zSR k (by omega);have t2:=(h.tl k (by omega)).2.1;have e:((Ji (k+1)).flatMap (R2 x)).length=((Ji k).flatMap (R2 x)).length+(x.zE.getD k []).length:=by rw[Lo,G5,J5];simp[R2]
  have e3:(k+1)*(k+1)=k*k+2*k+1:=by rw[Jad (k+1) k,K6 k k];omega
  have e4:x.zA.length*(k+1)=x.zA.length*k+x.zA.length:=Jad _ _;rw[e,e3,e4];omega
theorem zQ4:2*(tC x).length=x.zA.length*(x.zA.length+1):=by have:=zSR h x.zA.length (Jl _);simp only[tC,J5,Je,Kt];rw[Jad];omega
end
theorem zFD{α:Type}{F:α→List Int}{D:Nat}:∀(L:List α),(∀q∈L,(F q).length=D)→((L.map F).flatten).length=L.length*D
 | [],_=>by simp
 |y::L,h=>by
  have:=zFD L fun q hq=>h q (by simp[hq])
  have:=h y (by simp);simp only[Js,Lm,J5,J6,K6];omega
def zMh{α:Type}(N:Nat)(F:Nat→α→List Int)(L:List α):Mx:=gl N fun k=>(L.map (F k)).flatten
section
variable {α:Type}{p:Int}{N D:Nat}{F:Nat→α→List Int} (hF:∀k,k<N→ ∀q,Row p D (F k q))
 include hF
theorem zQ5(L:List α):∀k,k<N→Row p (L.length*D) ((zMh N F L).getD k []):=by intro k hk;rw[zMh,xW hk];refine zPv.2 ⟨zFD L fun q _=>(hF k hk q).1,fun v hv=>?_⟩;obtain⟨r,h1,h2⟩:=List.mem_flatten.1 hv;obtain⟨q,_,rfl⟩:=Jt.1 h1;exact(zPv.1 (hF k hk q)).2 v h2
end
def zGo(n D:Nat)(v:List Int):Mx:=gl n fun i=>mkv D fun j=>at0 v (i*D+j)
theorem zSS{v:List Int}{D a:Nat}(h:a+D≤v.length):(v.drop a).take D=mkv D fun j=>at0 v (a+j):=by
 have hl:((v.drop a).take D).length=D:=by rw[Jz,K3];omega
 rw[vY hl];exact zZ fun j hj=>by rw[zHP hj,zB3]
theorem zFE{v:List Int}{D a:Nat}(h:a+D≤v.length):yB v (a:Int) ((a+D:Nat):Int)=iz (mkv D fun j=>at0 v (a+j)):=by unfold yB;rw[if_pos ⟨by omega,by omega,by omega⟩,J9,J9,H6,zSS h]
theorem zYt{p:Int}{n D:Nat}{v:List Int}(hv:Row p (n*D) v):VOk n p D (zGo n D v):=by
 refine⟨xD,fun i hi=>?_⟩;rw[zGo,xW hi];refine⟨yA _ _,fun j hj=>?_⟩;rw[yH hj];have:i*D+D≤n*D:=by have:=K7 D (show i+1≤n by omega);rw[K6]at this;exact this
 exact hv.2 _ (by omega)
end Go.Pl

namespace Go.Pl
open Go Go.Ab Go.Wk Go.Pc
end Go.Pl

namespace Go.Pl
open Go Go.Ab Go.Wk Go.Pc
theorem zP2{n D i:Nat}(hi:i<n):i*D+D≤n*D:=by
 have:=K7 D (show i+1≤n by omega)
 grind
theorem zHR{n D:Nat}(hD:1≤D){v:List Int}(hl:v.length=n*D)(hs:n*D≤100000):zRc v (D:Int)=iz (zGo n D v):=by
 have hn:n≤n*D:=Jb6 n hD;have:=zV (body:=zMH v (D:Int)) (r:=zGo n D v) (fun i=>(gl i fun i=>mkv D fun j=>at0 v (i*D+j),((i*D:Nat):Int))) n (fun i hi=>by
  have h1:=zP2 (D:=D) hi;unfold zMH;simp only
  rw[iE (by omega),zM,←Ky,zC (by omega) (by omega),bs,zFE (by omega),bs,zAF (by grind[yA]),bs,yE (by rw[xD];simp;omega),bs,bs,tY,←K6]) (by
  unfold zMH;simp only
  rw[iD (by omega),zK];rfl)
 grind[zRc]
theorem zST{n D:Nat}(hD:1≤D)(hD3:D≤1000){v:List Int}(hl:v.length=n*D)(hs:n*D≤100000):zUL v (D:Int)=iz (zGo n D v):=by
 have hn:n≤n*D:=Jb6 n hD;have:=zV (body:=zMQ v (D:Int)) (r:=zGo n D v) (fun i=>(gl i fun i=>mkv D fun j=>at0 v (i*D+j),((i*D:Nat):Int))) n (fun i hi=>by
  have h1:=zP2 (D:=D) hi;unfold zMQ;simp only
  rw[←Ky,zC (by omega) (by omega),bs,iE (by omega),zM,bs,zFE (by omega),bs,tM (by grind[yA]),bs,yE (by rw[xD];simp;omega),bs,bs,tY,←K6]) (by
  unfold zMQ;simp only
  rw[←Ky,zC (by omega) (by omega),bs,iD (by omega),zK];rfl)
 grind[zUL]
section
variable {x:SPr} (h:Pres x) {m:zF}{D:Nat} (hm:MOk x.zA.length m D)
 include h hm
section
variable {vals:Mx} (hv:VOk x.zA.length m.Prime D vals)
 include hv
theorem zNM:f_u x m vals=iz ((tC x).map (dfc m D vals)):=by
 have h6:=h.os.1;have h7:=hm.p.pos;have h3:=hm.d3;have pM:=h.pl;have gC:=h.cl;have hz:=zHI (p:=m.Prime) (D:=D) (by omega);unfold f_u;rw[hm.d,yX (by omega),bs];have e1:=wW (body:=zUN x m vals D) x.zA.length (fun i=>dfc m D vals (r1 x i)) (fun i acc hi ha=>by
  obtain⟨p1,p2⟩:=zA0 h.os (h.tl i hi).1;have ho:=(h.os.2 i hi).pos;unfold zUN;simp only
  rw[yY hi,zM];rw[uZ (S:=Row m.Prime D) (body:=zUM x m vals (acc,(i:Int))) (fun v=>v) (fun v=>stp m D vals v i) (at0 x.zA i) (by omega) (by grind[zBS]) (fun u q hu hq=>by
   unfold zUM;simp only
   rw[yQ hi,bs,iE hq,zM,zB2 hm h6 hv hu hi,bs,zC (by omega) (by omega),bs,cs]) (fun u hu=>by
   unfold zUM;simp only
   rw[yQ hi,bs,iD (by omega),zK]) hz,bs,zC (by omega) (by omega),bs,yR [] (by omega),bs,zGh hm h6 hv hz p1 p2,bs,←zNA]
  have e1:f_A m.Prime (ev m D vals (z0 D) (J0 (at0 x.zA i).toNat i)) (m.Prime-1) (ev m D vals (z0 D) (nw 0 (x.zR.getD i [])))=iz (dfc m D vals (r1 x i)):=by rw[tW hm.p (zEb hm h6 hv hz _) (zEb hm h6 hv hz _) (by omega) (by omega),zEa];rfl
  grind[yE,zC]) (fun acc=>by
  unfold zUN;simp)
 rw[e1,bs];have i9:=zKf h;have e2:=zV (body:=zUP x m vals D) (r:=(tC x).map (dfc m D vals)) (fun i=>(((Ji x.zA.length).map (fun i=>dfc m D vals (r1 x i)))++((Ji i).flatMap (R2 x)).map (dfc m D vals),(i:Int))) x.zA.length (fun i hi=>by
  have t2:=(h.tl i hi).2.1;have hfi:=i9 i (by omega);unfold zUP;simp only
  rw[yY hi,zM,zC (by omega) (by omega),bs,cs];have gO:=zV (body:=zUO x m vals D (((Ji x.zA.length).map (fun i=>dfc m D vals (r1 x i)))++((Ji i).flatMap (R2 x)).map (dfc m D vals),(i:Int)))
   (r:=((Ji x.zA.length).map (fun i=>dfc m D vals (r1 x i)))++((Ji (i+1)).flatMap (R2 x)).map (dfc m D vals))
   (fun j=>(((Ji x.zA.length).map (fun i=>dfc m D vals (r1 x i)))++((Ji i).flatMap (R2 x)).map (dfc m D vals)++(Ji j).map (fun j=>dfc m D vals (r2 x i j)),((i+1+j:Nat):Int))) (x.zE.getD i []).length (fun j hj=>by
   obtain⟨c1,c2⟩:=zA0 h.os ((h.tl i hi).2.2 j hj);have bR:i+1+j<x.zA.length:=by omega
   have s1:=zB2 hm h6 hv hz bR;have s2:=zB2 hm h6 hv (zBS hm h6 hv (v:=z0 D) (w:=i+1+j)) hi;have s3:=zB2 hm h6 hv hz hi;have s4:=zGh hm h6 hv (zBS hm h6 hv (v:=z0 D) (w:=i)) c1 c2;unfold zUO;simp only
   rw[yY bR,zM,s1,bs,s2,bs,s3,bs,yR [] (by omega),bs,zC (by omega) (by omega),bs,zC (by omega) (by omega),bs,show(((i+1+j:Nat):Int)-(i:Int)-1)=(j:Int)from by omega,yR [] hj,bs,s4,bs,zC (by omega) (by omega),bs];have e2:f_A m.Prime (stp m D vals (stp m D vals (z0 D) (i+1+j)) i) (m.Prime-1) (ev m D vals (stp m D vals (z0 D) i) (nw 0 ((x.zE.getD i []).getD j [])))=iz (dfc m D vals (r2 x i j)):=by
    rw[tW hm.p (zBS hm h6 hv) (by grind[zEb,zBS]) (by omega) (by omega),zEa];simp only[dfc,r2,ev,Gx,Jab]
    grind
   rw[e2,bs,yE (by grind[Je]),bs,zC (by omega) (by omega),bs,cs,Lo,Kj,Jd];rfl) (by
   unfold zUO;simp only
   rw[show i+1+(x.zE.getD i []).length=x.zA.length from by omega,xR,zK,Lo (n:=i),G5,Kj,←Jd];simp[R2])
  simp_all) (by
  unfold zUP;simp only
  rw[xR,zK];simp only[tC,Kj,Jar];rfl)
 simp_all
end
def uv(n D k:Nat):Mx:=zGo n D (tQ (n*D) k)
theorem zP3{k:Nat}:VOk x.zA.length m.Prime D (uv x.zA.length D k):=by have _:=h;have h7:=hm.p.pos;exact zYt (zQy h7.1)
theorem zYu:∀k,k<x.zA.length*D→ ∀q,Row m.Prime D (dfc m D (uv x.zA.length D k) q):=fun k _ q=>by have _:=h;exact zAE hm.p
theorem zSU{k:Nat}:zRc (tQ (x.zA.length*D) k) (D:Int)=iz (uv x.zA.length D k):=by have h6:=h.os.1;have h3:=hm.d3;have cQ:x.zA.length*D≤9*3:=K1 h6 h3;exact zHR hm.d1 (yA _ _) (by omega)
theorem zYv{k:Nat}:zUL (tQ (x.zA.length*D) k) (D:Int)=iz (uv x.zA.length D k):=by have h6:=h.os.1;have h3:=hm.d3;have cQ:x.zA.length*D≤9*3:=K1 h6 h3;exact zST hm.d1 (by omega) (yA _ _) (by omega)
theorem zHS{vals:Mx}{L:List Rl}:((L.map (dfc m D vals)).flatten).length=L.length*D:=by have _:=h;have _:=hm;grind[zFD,zSG]
theorem zGp:zUR x m=iz (zMh (x.zA.length*D) (fun k=>dfc m D (uv x.zA.length D k)) (tC x)):=by
 have h6:=h.os.1;have h3:=hm.d3;have cQ:x.zA.length*D≤9*3:=K1 h6 h3;have cZ:=zKh h hm (zP3 h hm (k:=0));have d5:(tC x).length*D≤100*3:=K1 cZ h3;unfold zUR;rw[hm.d,←Lh,zC (by omega) (by omega),bs];rw[wW (body:=zMS x m ((x.zA.length*D:Nat):Int)) (x.zA.length*D) (fun k=>((tC x).map (dfc m D (uv x.zA.length D k))).flatten) (fun k acc hk ha=>by
  unfold zMS;simp only
  rw[yY hk,zM,zCl hk (by omega),bs,hm.d,zSU h hm,bs,zKi h hm (zP3 h hm (k:=k)),bs,jE (by simp;omega) (by rw[zHS h hm];omega),bs,yE (by simp;omega),bs,zC (by omega) (by omega),bs,cs]) (fun acc=>by
  unfold zMS;simp),bs]
 rfl
theorem zQ6{k N:Nat}:(J0 N (0:Int)).set k 1=tQ N k:=by have _:=h;have _:=hm;rw[tN,qU,tQ]
theorem zMi:zWz x m=iz (zMh (x.zA.length*D) (fun k=>dfc m D (uv x.zA.length D k)) (tC x)):=by
 have h6:=h.os.1;have h3:=hm.d3;have cQ:x.zA.length*D≤9*3:=K1 h6 h3;have cZ:=zKh h hm (zP3 h hm (k:=0));have d5:(tC x).length*D≤100*3:=K1 cZ h3;unfold zWz;rw[hm.d,←Lh,zC (by omega) (by omega),bs];rw[wW (body:=zMR x m ((x.zA.length*D:Nat):Int)) (x.zA.length*D) (fun k=>((tC x).map (dfc m D (uv x.zA.length D k))).flatten) (fun k acc hk ha=>by
  unfold zMR;simp only
  rw[yY hk,zM,yX (by omega),bs,vP,Ke,if_pos hk,bs,J9,zQ6 h hm,hm.d,zYv h hm,bs,zNM h hm (zP3 h hm (k:=k)),bs,zQx (by simp;omega) (by rw[zHS h hm];omega),bs,yE (by simp;omega),bs,zC (by omega) (by omega),bs,cs]) (fun acc=>by
  unfold zMR;simp),bs]
 rfl
end
end Go.Pl

namespace Go.Pl
open Go Go.Ab Go.Wk Go.Pc
end Go.Pl

namespace Go.Pl
open Go Go.Ab Go.Wk Go.Pc
end Go.Pl

namespace Go.Pl
open Go Go.Ab Go.Wk Go.Pc
theorem zHT{N c:Nat}{f:Nat→Int}:(mkv N f).drop c=mkv (N-c) fun i=>f (c+i):=by
 have hl:((mkv N f).drop c).length=N-c:=by rw[K3,yA]
 grind[vY,zZ,zB3,yH]
theorem zAa{n j:Nat}:xP n j=mkv n fun i=>if i=j then 1 else 0:=by rw[xP,show zeros n=J0 n (0:Int)from rfl,tN,qU]
theorem sJ{n i:Nat}:at0 (zeros n) i=0:=by
 rcases Jj i n with g|g
 ·simp[zeros,at0,J2,g]
 ·simp[zeros,at0,J2,g]
structure ExB (n D:Nat) (x:SPr) (m:zF) (T:Mx):Prop where
 hn:n≤6
 o:x.zA.length=n
 p:x.zR.length=n
 c:x.zE.length=n
 cl:∀i,i<n→(x.zE.getD i []).length=n-1-i
 t:T.length=base n n
 m:zSF n m D
section
variable {D:Nat}{x:SPr}{m:zF}{T:Mx} (h:Pres x) (hE:ExB x.zA.length D x m T) (hT:∀i,i<T.length→Row m.Prime D (T.getD i []))
 include h hE hT
abbrev exx(D:Nat)(x:SPr)(m:zF)(T:Mx):SPr:=ext x.zA.length D x m T
theorem wG:(exx D x m T).zA.length=x.zA.length+D:=by have _:=h;have _:=hE;have _:=hT;simp[exx,ext]
theorem tG{i:Nat}(hi:i<x.zA.length):at0 (exx D x m T).zA i=at0 x.zA i:=by
 have _:=h;have _:=hE;have _:=hT;show at0 (x.zA++J0 D m.Prime) i=_
 grind
theorem zBV{i:Nat}(hi:x.zA.length≤i)(h2:i<x.zA.length+D):at0 (exx D x m T).zA i=m.Prime:=by
 have _:=h;have _:=hE;have _:=hT;show at0 (x.zA++J0 D m.Prime) i=_
 grind
theorem zNN{v t:List Int}{i:Nat}(hv:v.length=x.zA.length)(hr:∀j,j<x.zA.length→0≤at0 v j∧at0 v j≤at0 x.zA j-1)(hz:∀j,j≤i→j<x.zA.length→at0 v j=0)(ht:Row m.Prime D t)(hi:i<x.zA.length):Exp (exx D x m T).zA (v++t) i:=by
 have hl:=wG h hE hT;refine⟨⟨by rw[J5,hv,ht.1,hl],fun j hj=>?_⟩,fun j hj=>?_⟩
 ·rw[J5,hv,ht.1]at hj
  rw[zKn,hv];split
  ·grind[tG]
  ·next g=>rw[zBV h hE hT (by omega) hj];exact ht.2 _ (by omega)
 grind
theorem zMj(i:Nat)(hi:i<base x.zA.length x.zA.length):Row m.Prime D (T.getD i []):=by have _:=h;exact hT i (by rw[hE.t];exact hi)
theorem zG3:zGf (exx D x m T):=by
 have hn:=hE.hn;have h3:=hE.m.d3;have h7:=hE.m.p.pos;have hl:=wG h hE hT;have hb:=wT x.zA.length (by omega);refine⟨⟨trivial,fun i hi=>?_⟩,by rw[hl];exact xD,by rw[hl];exact xD,fun i hi=>?_⟩
 ·rw[hl]at hi
  rcases Jj i x.zA.length with g|g
  ·rw[tG h hE hT g];exact h.os.2 i g
  ·rw[zBV h hE hT g hi];exact hE.m.p
 ·rw[hl]at hi
  have hP:(exx D x m T).zR.getD i []=exP x.zA.length D x T i:=xW hi;have hC:(exx D x m T).zE.getD i []=exC x.zA.length D x m T i:=by
   show(gl (x.zA.length+D) (exC x.zA.length D x m T)).getD i []=_
   grind
  refine⟨?_,?_,?_⟩
  ·rw[hP,exP]
   rcases Jj i x.zA.length with g|g
   ·rw[if_pos g]
    obtain⟨t1,_,_⟩:=h.tl i g;exact zNN h hE hT t1.1.1 (fun j hj=>t1.1.2 j (by rw[t1.1.1];exact hj)) (fun j hj _=>t1.2 j hj) (by grind[zMj]) g
   ·rw[if_neg (by omega)]
    have hz:∀j,at0 (J0 (x.zA.length+D) (0:Int)) j=0:=fun j=>sJ
    refine⟨⟨by grind,fun j hj=>?_⟩,fun j _=>hz j⟩;rw[J8]at hj;rw[hz];rcases Jj j x.zA.length with g2|g2
    ·rw[tG h hE hT g2];have:=(h.os.2 j g2).pos;omega
    grind[zBV]
  ·grind[exC,unC]
  ·rw[hC,exC]
   split
   ·next g=>
    intro j hj;rw[xD]at hj;rw[xW hj,exF];split
    ·next g2=>
     have gC:=hE.cl i g;have cm:=zAu x.zA.length (by omega) i g;obtain⟨_,_,t3⟩:=h.tl i g;have t:=t3 j (by omega);exact zNN h hE hT t.1.1 (fun q hq=>t.1.2 q (by rw[t.1.1];exact hq)) (fun q hq _=>t.2 q hq) (by grind[zMj]) g
    ·next g2=>
     have hz:∀j,at0 (J0 x.zA.length (0:Int)) j=0:=fun j=>sJ
     refine zNN h hE hT (by simp) (fun q hq=>?_) (fun q _ _=>hz q) ((hE.m.mat i g).2 _ (by omega)) g;rw[hz];have:=(h.os.2 q hq).pos;omega
   ·next g=>
    intro j hj;rw[unC,xD]at hj;rw[unC,xW hj];refine⟨⟨by rw[hl];exact yA _ _,fun q hq=>?_⟩,fun q hq=>?_⟩
    ·rw[tQ,yA]at hq
     rw[tQ,yH hq];rcases Jj q x.zA.length with g2|g2
     ·rw[tG h hE hT g2];have:=(h.os.2 q g2).pos;omega
     grind[zBV]
    ·rw[tQ,yH (by omega),if_neg (by omega)]
theorem zB5{k:Nat}(hk:k<x.zA.length):(lvl (exx D x m T) k).o=at0 x.zA k:=tG h hE hT hk
theorem zHU{k:Nat}(hk:k<x.zA.length):(lvl (exx D x m T) k).w=(lvl x k).w++T.getD k []:=by have t1:=(h.tl k hk).1.1.1;have _:=hE;have _:=hT;show((exx D x m T).zR.getD k []).drop (k+1)=_;have hP:(exx D x m T).zR.getD k []=exP x.zA.length D x T k:=xW (by omega);rw[hP,exP,if_pos hk,Kg (by omega)];rfl
def eC1(x:SPr)(T:Mx)(k:Nat):List Vec:=gl (x.zA.length-1-k) fun j=>(lvl x k).cs.getD j []++T.getD (base x.zA.length k+j) []
def eC2(x:SPr)(m:zF)(D k:Nat):List Vec:=((gl D fun j=>(m.zP.getD k []).getD j []).map fun r=>zeros (x.zA.length-1-k)++r)
theorem zBW{k:Nat}(hk:k<x.zA.length):(lvl (exx D x m T) k).cs=eC1 x T k++eC2 x m D k:=by
 have gC:=hE.cl k hk;have _:=hT;show((exx D x m T).zE.getD k []).map (·.drop (k+1))=_;have hC:(exx D x m T).zE.getD k []=exC x.zA.length D x m T k:=by
  show(gl (x.zA.length+D) (exC x.zA.length D x m T)).getD k []=_
  grind
 rw[hC,exC,if_pos hk];apply Kr;intro j
 by_cases hj:j<x.zA.length+D-1-k
 ·have e1:((gl (x.zA.length+D-1-k) (exF x.zA.length x m T k)).map (·.drop (k+1)))[j]? =iz ((exF x.zA.length x m T k j).drop (k+1)):=by grind
  rw[e1,exF]
  by_cases g:j<x.zA.length-1-k
  ·rw[if_pos g,Jx (by grind[eC1])]
   have t:=(h.tl k hk).2.2 j (by omega);rw[Kg (by have:=t.1.1;omega)];have e2:(eC1 x T k)[j]? =iz ((lvl x k).cs.getD j []++T.getD (base x.zA.length k+j) []):=by simp[eC1,gl,g]
   rw[e2]
   congr 2
   simp only[lvl,J2,K4]
   grind
  ·rw[if_neg g,Jb (by grind[eC1]),eC1,xD]
   have e2:(eC2 x m D k)[j-(x.zA.length-1-k)]? =iz (zeros (x.zA.length-1-k)++(m.zP.getD k []).getD (j-(x.zA.length-1-k)) []):=by simp[eC2,gl,show j-(x.zA.length-1-k)<D by omega]
   rw[e2,Kg (by simp;omega),Lb,show x.zA.length-(k+1)=x.zA.length-1-k from by omega];rfl
 ·rw[Jp (by grind),Jp (by simp[eC1,eC2,gl];omega)]
end
def tlv(p:Int):Nat→Pcp
 |0=>[]
 |d+1=>⟨p,zeros d,wJ d⟩::tlv p d
theorem zG4{p:Int}:∀d,(tlv p d).length=d
 |0=>rfl
 |d+1=>by simp[tlv,zG4 d]
theorem zDB{p:Int}:∀(d:Nat)(v:Vec),V (tlv p d) v↔Row p d v
 |0,v=>by
  constructor
  ·intro h
   obtain rfl:v=[]:=h;exact⟨rfl,fun i hi=>by omega⟩
  ·intro h
   have:=Ls h.1;subst this;exact rfl
 |d+1,v=>by
  cases v with
  |nil=>exact⟨fun h=>h.elim,fun h=>by have:=h.1;grind⟩
  |cons a v=>
   show((0≤a∧a<p)∧V (tlv p d) v)↔_;rw[zDB d v];constructor
   ·rintro⟨⟨h0,h1⟩,h2⟩
    refine⟨by simp[h2.1],fun i hi=>?_⟩;cases i with
    |zero=>grind
    |succ i=>have:=h2.2 i (by omega);grind
   ·intro h
    have h0:=h.2 0 (by omega);simp only[at0,H7]at h0;refine⟨⟨h0.1,by omega⟩,by have:=h.1;grind,fun i hi=>?_⟩;have:=h.2 (i+1) (by omega)
    grind
abbrev adv(p:Int)(D:Nat)(u v:List Int):List Int:=mkv D fun j=>(at0 u j+at0 v j)%p
theorem qF{p:Int}{D:Nat}{u v:List Int}(hp:0<p):Row p D (adv p D u v):=by refine⟨yA _ _,fun j hj=>?_⟩;rw[yH hj];have e1:=L5 (at0 u j+at0 v j) (show p≠0 by omega);have e2:=Kl (at0 u j+at0 v j) hp;omega
theorem zHV{p:Int}{D:Nat}{c:List Int}(hp:0<p):∀(k:Nat)(acc:List Int),Row p D acc→iter k (fun w=>adv p D w c) acc=mkv D fun j=>(at0 acc j+(k:Int)*at0 c j)%p
 |0,acc,ha=>by
  show acc=_
  conv=>lhs;rw[vY ha.1]
  refine zZ fun j hj=>?_
  have:=ha.2 j hj;rw[Int.natCast_zero,U6,H5,Kb this.1 (by omega)]
 |k+1,acc,ha=>by
  show iter k (fun w=>adv p D w c) (adv p D acc c)=_;rw[zHV hp k _ (qF hp)];refine zZ fun j hj=>?_
  grind[yH,Kf,K9]
theorem zYw{f:Nat→Int}{n:Nat}:S (n+1) f=f 0+S n fun i=>f (i+1):=by
 rw[Nat.add_comm,zG2 1 n];simp only[S]
 grind
theorem zG5{p:Int}{D:Nat}(hp:0<p):∀(cs:List Vec)(v acc:Vec),v.length=cs.length→(∀i,i<v.length→0≤at0 v i)→Row p D acc→img (adv p D) cs v acc=mkv D fun j=>(at0 acc j+S cs.length fun k=>at0 v k*ent cs k j)%p
 | [],v,acc,hl,_,ha=>by
  show acc=_
  conv=>lhs;rw[vY ha.1]
  refine zZ fun j hj=>?_
  have:=ha.2 j hj;simp only[Jg,S];rw[H5,Kb this.1 (by omega)]
 |c::cs,[],acc,hl,_,_=>by simp at hl
 |c::cs,a::v,acc,hl,hv,ha=>by
  have h0:=hv 0 (by simp);simp only[at0,H7]at h0;have fE:Row p D (iter a.toNat (fun w=>adv p D w c) acc):=vO (S:=Row p D) (fun _ _=>qF hp) _ ha;show img (adv p D) cs v (iter a.toNat (fun w=>adv p D w c) acc)=_;rw[zG5 hp cs v _ (by grind) (fun i hi=>by have:=hv (i+1) (by grind);grind) fE,zHV hp _ _ ha];refine zZ fun j hj=>?_
  rw[yH hj,J6,zYw,Kf,K9,←Kf,Jda h0,Jc0];rfl
theorem zDn{α:Type}{S:α→Prop}{m m':α→α→α}(hm:∀a b,S a→S b→m a b=m' a b)(hc:∀a b,S a→S b→S (m' a b)):∀(cs:List α)(v:Vec)(acc:α),(∀c∈cs,S c)→S acc→img m cs v acc=img m' cs v acc
 | [],_,_,_,_=>by simp[img]
 |c::cs,[],_,_,_=>by simp[img]
 |c::cs,a::v,acc,h1,h2=>by
  have md:=h1 c (by simp);have e:∀k acc,S acc→iter k (fun w=>m w c) acc=iter k (fun w=>m' w c) acc∧S (iter k (fun w=>m' w c) acc):=by
   intro k
   induction k with
   |zero=>intro acc ha;exact⟨rfl,ha⟩
   |succ k ih=>
    intro acc ha;show iter k (fun w=>m w c) (m acc c)=iter k (fun w=>m' w c) (m' acc c)∧_;rw[hm acc c ha md];exact ih _ (hc _ _ ha md)
  show img m cs v (iter a.toNat (fun w=>m w c) acc)=img m' cs v (iter a.toNat (fun w=>m' w c) acc);rw[(e _ _ h2).1];exact zDn hm hc cs v _ (by grind) (e _ _ h2).2
theorem zDo{d k j:Nat}(hk:k<d)(hj:j<d):ent (wJ d) k j=if j=k then 1 else 0:=by
 have e:(wJ d).getD k []=xP d k:=by grind[wJ]
 rw[ent,e,zAa,yH hj]
theorem xS{p:Int}{D:Nat}(hp:0<p):Row p D (zeros D):=zHI hp
theorem qV{p:Int}(hp:2≤p):∀(d:Nat)(u v:Vec),Row p d u→Row p d v→mul (tlv p d) u v=adv p d u v
 |0,u,v,hu,_=>by rfl
 |d+1,u,v,hu,hv=>by
  have ih:=qV hp d;have tp:=(zDB (d+1) u).2 hu;have mi:=(zDB (d+1) v).2 hv;cases u with
  |nil=>exact tp.elim
  |cons a u=>
   cases v with
   |nil=>exact mi.elim
   |cons b v=>
    obtain⟨⟨a0,a1⟩,eZ⟩:=tp;obtain⟨⟨b0,b1⟩,fy⟩:=mi;have hu3:=(zDB d u).1 eZ;have eS:=(zDB d v).1 fy;change a<p at a1;change b<p at b1;have ew:∀w,Row p d w→sig (tlv p d) ⟨p,zeros d,wJ d⟩ w=w:=fun w hw=>by
     have dx:∀c∈wJ d,Row p d c:=fun c hc=>by obtain⟨k,hk,rfl⟩:=Jt.1 hc;rw[zAa];exact⟨yA _ _,by grind[yH]⟩
     unfold sig;rw[zG4,zDn (S:=Row p d) (m':=adv p d) (by omega) (fun _ _ _ _=>qF (by omega)) (wJ d) w _ dx (xS (by omega)),zG5 (by omega) (wJ d) w _ (by rw[hw.1];simp[wJ]) (fun i hi=>(hw.2 i (by rw[←hw.1];exact hi)).1) (xS (by omega))]
     conv=>rhs;rw[vY hw.1]
     refine zZ fun j hj=>?_
     have eY:(wJ d).length=d:=by simp[wJ]
     have:=hw.2 j hj;rw[eY,sJ,Lv,zAj (k:=j) hj (fun k hk gf=>by rw[zDo hk hj,if_neg (Ne.symm gf),L4]),zDo hj hj,if_pos rfl,Hf,Kb this.1 (by omega)]
    have e6:∀k,iter k (sig (tlv p d) ⟨p,zeros d,wJ d⟩) u=u:=by grind[zHQ]
    show mul (⟨p,zeros d,wJ d⟩::tlv p d) (a::u) (b::v)=_;rw[xC,e6,ih u v hu3 eS];have hz:adv p d (zeros d) (adv p d u v)=adv p d u v:=by
     refine zZ fun j hj=>?_
     rw[yH hj,sJ,Lv,K9]
    rw[ih _ _ (xS (by omega)) (qF (by omega)),hz];have aN:adv p (d+1) (a::u) (b::v)=(a+b)%p::adv p d u v:=by
     simp only[adv,mkv,Jb0,Js,Jar]
     congr 1
    rw[aN];split
    ·next g=>
     have g:a+b≥p:=g;have e:(a+b)%p=a+b-p:=by rw[show a+b=(a+b-p)+p from by omega,Uk,Kb (by omega) (by omega)];omega
     grind
    ·next g=>
     have g:¬a+b≥p:=g
     congr 1
     exact(Kb (by omega) (by omega)).symm
end Go.Pl

namespace Go.Pl
open Go Go.Ab Go.Wk Go.Pc
theorem zP4{α:Type}{m:α→α→α}:∀(c1:List α)(y:Vec)(c2:List α)(u:Vec)(acc:α),c1.length=y.length→img m (c1++c2) (y++u) acc=img m c2 u (img m c1 y acc)
 | [],[],_,_,_,_=>by cases ‹List α›<;>rfl
 | [],_::_,_,_,_,h=>by simp at h
 |_::_,[],_,_,_,h=>by simp at h
 |c::c1,a::y,c2,u,acc,h=>zP4 c1 y c2 u _ (by simpa using h)
theorem zEO{α β:Type}{S:α→Prop}{m:α→α→α}{n:β→β→β}(φ:α→β)(hS:∀a b,S a→S b→S (m a b))(hm:∀a b,S a→S b→φ (m a b)=n (φ a) (φ b)):∀(cs:List α)(v:Vec)(a:α),(∀c∈cs,S c)→S a→φ (img m cs v a)=img n (cs.map φ) v (φ a)
 | [],v,a,_,_=>by cases v<;>rfl
 |_::_,[],_,_,_=>rfl
 |c::cs,t::v,a,hc,ha=>by
  have md:=hc c (by simp);have e:∀k a,S a→φ (iter k (fun w=>m w c) a)=iter k (fun w=>n w (φ c)) (φ a)∧S (iter k (fun w=>m w c) a):=by
   intro k
   induction k with
   |zero=>intro a ha;exact⟨rfl,ha⟩
   |succ k ih=>
    intro a ha;have:=ih (m a c) (hS _ _ ha md);rw[hm a c ha md]at this;exact this
  show φ (img m cs v (iter t.toNat (fun w=>m w c) a))=img n (cs.map φ) v (iter t.toNat (fun w=>n w (φ c)) (φ a));rw[←(e _ a ha).1];exact zEO φ hS hm cs v _ (fun c h=>hc c (by simp[h])) (e _ a ha).2
theorem jN{p:Int}{D:Nat}{r:List Int}(hr:Row p D r):wD p D r (idM D)=r:=by
 conv=>rhs;rw[vY hr.1]
 refine zZ fun j hj=>?_
 have:=hr.2 j hj;have e:∀l,l<D→ent (idM D) l j=if j=l then 1 else 0:=fun l hl=>by rw[ent,zDj hl,yH hj]
 rw[zAj (k:=j) hj (fun k hk gf=>by rw[e k hk,if_neg (Ne.symm gf),L4]),e j hj,if_pos rfl,Hf,qD this]
theorem zEP{p:Int}{D:Nat}{r:List Int}{A B:Mx}(hA:A.length=D):wD p D (wD p D r A) B=wD p D r (PM p D A B):=by
 refine zZ fun j hj=>?_
 have e1:S D (fun l=>at0 (wD p D r A) l*ent B l j)%p=S D (fun l=>S D (fun i=>at0 r i*ent A i l)*ent B l j)%p:=kX fun l hl=>by rw[wD,yH hl,Jv,K9,←Jv]
 have e2:S D (fun l=>at0 r l*ent (PM p D A B) l j)%p=S D (fun i=>at0 r i*S D (fun l=>ent A i l*ent B l j))%p:=kX fun l hl=>by rw[zN7 hA hl hj,Jv,K9,←Jv]
 rw[e1,e2]
 congr 1
 have e3:S D (fun l=>S D (fun i=>at0 r i*ent A i l)*ent B l j)=S D (fun l=>S D (fun i=>at0 r i*ent A i l*ent B l j)):=xQ fun l _=>(zLL _ _).symm
 rw[e3,zHC];refine xQ fun i _=>?_
 rw[←zCL];exact xQ fun l _=>by rw[H8]
theorem vZ{p:Int}{D:Nat}{v:List Int}(hv:Row p D v):adv p D (zeros D) v=v:=by
 conv=>rhs;rw[vY hv.1]
 refine zZ fun j hj=>?_
 rw[sJ,Lv,qD (hv.2 j hj)]
theorem zAG{p:Int}{D:Nat}{v:List Int}(hv:Row p D v):adv p D v (zeros D)=v:=by
 conv=>rhs;rw[vY hv.1]
 refine zZ fun j hj=>?_
 rw[sJ,H5,qD (hv.2 j hj)]
theorem zSV{p:Int}{D:Nat}{acc v:List Int}{A:Mx}(hl:A.length=D):(mkv D fun j=>(at0 acc j+S A.length fun k=>at0 v k*ent A k j)%p)=adv p D acc (wD p D v A):=by
 refine zZ fun j hj=>?_
 rw[wD,yH hj,hl,Jbo]
theorem tR{p:Int}{D:Nat}{u v:List Int}:adv p D u v=adv p D v u:=zZ fun j _=>by rw[Int.add_comm]
theorem zVI{p:Int}{D:Nat}{u v w:List Int}(hv:Row p D v)(hw:Row p D w):adv p D u v=adv p D u w↔v=w:=by
 constructor
 ·intro h
  rw[vY hv.1,vY hw.1];refine zZ fun j hj=>?_
  have e:at0 (adv p D u v) j=at0 (adv p D u w) j:=by rw[h]
  rw[adv,adv,yH hj,yH hj]at e;have h1:=hv.2 j hj;have h2:=hw.2 j hj;have h3:=Int.emod_emod_of_dvd (at0 u j+at0 v j) (Int.dvd_refl p);have e4:(at0 u j+at0 v j-at0 u j)%p=(at0 u j+at0 w j-at0 u j)%p:=by rw[Int.sub_emod,e,←Int.sub_emod]
  rw[show at0 u j+at0 v j-at0 u j=at0 v j from by omega,show at0 u j+at0 w j-at0 u j=at0 w j from by omega,qD h1,qD h2]at e4;exact e4
 ·intro h;rw[h]
section
variable {D:Nat}{x:SPr}{m:zF}{T:Mx} (h:Pres x) (hE:ExB x.zA.length D x m T) (hT:∀i,i<T.length→Row m.Prime D (T.getD i []))
 include h hE hT
theorem zAv:∀(d k:Nat),x.zA.length≤k→k+d=x.zA.length+D→suf (exx D x m T) k=tlv m.Prime d
 |0,k,hk,hd=>by rw[vV (by rw[wG h hE hT];omega)];rfl
 |d+1,k,hk,hd=>by
  have hl:=wG h hE hT;rw[yG (by omega),zAv d (k+1) (by omega) (by omega),tlv]
  congr 1
  have hP:(exx D x m T).zR.getD k []=exP x.zA.length D x T k:=xW (by omega);have hC:(exx D x m T).zE.getD k []=exC x.zA.length D x m T k:=by show(gl (x.zA.length+D) (exC x.zA.length D x m T)).getD k []=_;simp[gl,J2,show k<x.zA.length+D by omega]
  unfold lvl;rw[hP,hC,exP,exC,if_neg (by omega),if_neg (by omega),zBV h hE hT hk (by omega),Lb,show x.zA.length+D-(k+1)=d from by omega]
  congr 1
  rw[unC,wJ,gl,Jar,show x.zA.length+D-1-k=d from by omega];refine Qk fun j hj=>?_
  have hj:=Kh.1 hj;show(tQ (x.zA.length+D) (k+1+j)).drop (k+1)=xP d j;rw[tQ,zHT,zAa,show x.zA.length+D-(k+1)=d from by omega];refine zZ fun i _=>?_
  by_cases g:i=j
  ·rw[if_pos g,if_pos (by omega)]
  ·rw[if_neg g,if_neg (by omega)]
theorem sQ:∀(d k:Nat),k+d=x.zA.length→ ∀v,V (suf (exx D x m T) k) v↔ ∃y u,v=y++u∧V (suf x k) y∧Row m.Prime D u
 |0,k,hk,v=>by
  rw[zAv h hE hT D k (by omega) (by omega),zDB,vV (x:=x) (k:=k) (by omega)];constructor
  ·intro g;exact⟨[],v,rfl,rfl,g⟩
  ·rintro⟨y,u,rfl,hy,hu⟩
   obtain rfl:y=[]:=hy;exact hu
 |d+1,k,hk,v=>by
  have hl:=wG h hE hT;have ih:=sQ d (k+1) (by omega);rw[yG (x:=exx D x m T) (by omega),yG (x:=x) (by omega)];cases v with
  |nil=>
   refine⟨fun g=>g.elim,?_⟩
   rintro⟨y,u,e,hy,hu⟩
   cases y with
   |nil=>exact hy.elim
   |cons a y=>simp at e
  |cons a v=>
   show((0≤a∧a<(lvl (exx D x m T) k).o)∧V (suf (exx D x m T) (k+1)) v)↔_;rw[zB5 h hE hT (by omega),ih v];constructor
   ·rintro⟨g,y,u,rfl,hy,hu⟩
    exact⟨a::y,u,rfl,⟨g,hy⟩,hu⟩
   ·rintro⟨y,u,e,hy,hu⟩
    cases y with
    |nil=>exact hy.elim
    |cons b y=>
     simp only[Jy,Qt.injEq]at e;obtain⟨rfl,rfl⟩:=e;exact⟨hy.1,y,u,rfl,hy.2,hu⟩
theorem zEQ:∀(d k:Nat),k+d=x.zA.length→ ∀y u r,V (suf x k) y→Row m.Prime D u→Row m.Prime D r→mul (suf (exx D x m T) k) (y++u) (zeros d++r)=y++adv m.Prime D u r
 |0,k,hk,y,u,r,hy,hu,hr=>by have hp:=hE.m.p.pos;rw[vV (x:=x) (k:=k) (by omega)]at hy;obtain rfl:y=[]:=hy;rw[zAv h hE hT D k (by omega) (by omega)];exact qV (by omega) D u r hu hr
 |d+1,k,hk,y,u,r,hy,hu,hr=>by
  have hl:=wG h hE hT;rw[yG (x:=x) (by omega)]at hy;cases y with
  |nil=>exact hy.elim
  |cons a y=>
   obtain⟨⟨a0,a1⟩,hy⟩:=hy;change a<at0 x.zA k at a1;rw[yG (x:=exx D x m T) (by omega)];show mul _ (a::(y++u)) (0::(zeros d++r))=_;rw[xC,zB5 h hE hT (by omega),if_neg (by omega)];show(a+0)::mul _ (y++u) (zeros d++r)=_;rw[zEQ d (k+1) (by omega) y u r hy hu hr,H5];rfl
theorem uH{k:Nat}(hk:k≤x.zA.length+D):Pc.Ok (suf (exx D x m T) k):=(zG3 h hE hT).okAt (by rw[wG h hE hT];exact hk)
theorem zNO{d k:Nat}(hk:k+d=x.zA.length):∀(rs:List Vec)(v:Vec)(y u:Vec),(∀r∈rs,Row m.Prime D r)→V (suf x k) y→Row m.Prime D u→img (mul (suf (exx D x m T) k)) (rs.map fun r=>zeros d++r) v (y++u)=y++img (adv m.Prime D) rs v u
 | [],v,y,u,_,_,_=>by cases v<;>rfl
 |_::_,[],_,_,_,_,_=>rfl
 |c::rs,t::v,y,u,hr,hy,hu=>by
  have hp:=hE.m.p.pos;have hc:=hr c (by simp);have e:∀q u,Row m.Prime D u→iter q (fun w=>mul (suf (exx D x m T) k) w (zeros d++c)) (y++u)=y++iter q (fun w=>adv m.Prime D w c) u:=by
   intro q
   induction q with
   |zero=>intro u _;rfl
   |succ q ih=>
    intro u hu;show iter q _ (mul _ (y++u) (zeros d++c))=_;rw[zEQ h hE hT d k hk y u c hy hu hc,ih _ (qF (by omega))];rfl
  show img _ (rs.map fun r=>zeros d++r) v (iter t.toNat (fun w=>mul (suf (exx D x m T) k) w (zeros d++c)) (y++u))=_;rw[e _ _ hu,zNO hk rs v y _ (fun r h=>hr r (by simp[h])) hy (vO (S:=Row m.Prime D) (fun _ _=>qF (by omega)) _ hu)];rfl
theorem zYx{k:Nat}(hk:k<x.zA.length):(gl D fun j=>(m.zP.getD k []).getD j [])=m.zP.getD k []:=by
 have _:=h;have _:=hT;have hl:=(hE.m.mat k hk).1;apply Kr;intro j;simp only[gl,K4]
 by_cases g:j<D
 ·rw[List.getElem?_range g,Ho,J2 (i:=j),J3 (by omega)];rfl
 ·rw[Jp (by simp;omega),Jp (by omega)];rfl
def sgG(D:Nat)(x:SPr)(m:zF)(T:Mx)(k:Nat)(y:Vec):Vec:=img (mul (suf (exx D x m T) (k+1))) (eC1 x T k) y (zeros (suf (exx D x m T) (k+1)).length)
theorem uX{k:Nat}:(eC1 x T k).length=x.zA.length-1-k:=by have _:=h;have _:=hE;have _:=hT;rw[eC1,xD]
theorem zP5{k:Nat}(hk:k<x.zA.length):∀c∈eC1 x T k,V (suf (exx D x m T) (k+1)) c:=by intro c hc;have ok:=uH h hE hT (k:=k) (by omega);rw[yG (by rw[wG h hE hT];omega)]at ok;exact ok.2.2.2.1 c (by rw[zBW h hE hT hk];exact Q3 _ hc)
theorem zBe{k:Nat}(hk:k≤x.zA.length):zeros (suf (exx D x m T) k).length=zeros (x.zA.length-k)++zeros D:=by rw[yP,wG h hE hT];simp only[zeros,Jn];congr 1;omega
theorem zHW{k:Nat}(hk:k<x.zA.length){y:Vec}:V (suf (exx D x m T) (k+1)) (sgG D x m T k y):=by have ok:=uH h hE hT (k:=k+1) (by omega);exact jL (xK ok) _ _ (zP5 h hE hT hk) (wO ok)
theorem zBX{k:Nat}(hk:k<x.zA.length){y u:Vec}(hy:V (suf x (k+1)) y)(hu:Row m.Prime D u):
  sig (suf (exx D x m T) (k+1)) (lvl (exx D x m T) k) (y++u)=(sgG D x m T k y).take (x.zA.length-(k+1))++adv m.Prime D ((sgG D x m T k y).drop (x.zA.length-(k+1))) (wD m.Prime D u (m.zP.getD k [])):=by
 have hp:=hE.m.p.pos;have hA:=hE.m.mat k hk;have ez:=vC h (by omega) hy;unfold sig;rw[zBW h hE hT hk,zP4 _ _ _ _ _ (by rw[uX h hE hT];omega)];show img _ (eC2 x m D k) u (sgG D x m T k y)=_;obtain⟨y1,u1,e,fg,fT⟩:=(sQ h hE hT (x.zA.length-(k+1)) (k+1) (by omega) _).1 (zHW h hE hT hk (y:=y));have gH:=vC h (by omega) fg;rw[e,eC2,zYx h hE hT hk,show x.zA.length-1-k=x.zA.length-(k+1)from by omega,zNO h hE hT (by omega) _ _ _ _ (fun r hr=>?_) fg fT,zG5 (by omega) _ _ _ (by rw[hA.1,hu.1]) (fun i hi=>(hu.2 i (by rw[←hu.1];exact hi)).1) fT,zSV hA.1,Jo gH,K8 gH];obtain⟨j,hj,rfl⟩:=Hu.1 hr;have cJ:=hA.1;have:=hA.2 j (by omega)
 rwa [J2,J3 hj]at this
theorem zG6{k:Nat}(hk:k<x.zA.length){u:Vec}(hu:Row m.Prime D u):
  sig (suf (exx D x m T) (k+1)) (lvl (exx D x m T) k) (zeros (x.zA.length-(k+1))++u)=zeros (x.zA.length-(k+1))++wD m.Prime D u (m.zP.getD k []):=by
 have hp:=hE.m.p.pos;have ok:=h.okAt (k:=k+1) (by omega);have hz:=wO ok;rw[yP]at hz;have e:sgG D x m T k (zeros (x.zA.length-(k+1)))=zeros (x.zA.length-(k+1))++zeros D:=by unfold sgG;rw[qB,zBe h hE hT (by omega)]
 rw[zBX h hE hT hk hz hu,e,Jo (yC _),K8 (yC _),vZ (vA (by omega))]
theorem zHX{k:Nat}(hk:k<x.zA.length):∀(q:Nat){u:Vec},Row m.Prime D u→
  iter q (sig (suf (exx D x m T) (k+1)) (lvl (exx D x m T) k)) (zeros (x.zA.length-(k+1))++u)=zeros (x.zA.length-(k+1))++iter q (fun u=>wD m.Prime D u (m.zP.getD k [])) u
 |0,u,_=>rfl
 |q+1,u,hu=>by have hp:=hE.m.p.pos;show iter q _ (sig _ _ _)=_;rw[zG6 h hE hT hk hu,zHX hk q (vA (by omega))];rfl
end
end Go.Pl

namespace Go.Pl
open Go Go.Ab Go.Wk Go.Pc
theorem zFF{p:Int}{D:Nat}{A:Mx}(hA:Mat p D A)(hp:2≤p){r:List Int}(hr:Row p D r):∀q,iter q (fun u=>wD p D u A) r=wD p D r (pw (PM p D) (idM D) A q)
 |0=>(jN hr).symm
 |q+1=>by
  have hm:Mat p D (pw (PM p D) (idM D) A q):=vO (S:=Mat p D) (fun _ hB=>zHD (by omega) hB.1) q (qC hp);unfold pw at*
  rw[vG,vG,zFF hA hp hr q];exact zEP hm.1
theorem zSW{p:Int}{D:Nat}(hp:0<p){r:List Int}:iter p.toNat (fun w=>adv p D w r) (zeros D)=zeros D:=by
 rw[zHV hp _ _ (xS hp)];rw[show zeros D=mkv D fun _=>0 from tN D];refine zZ fun j hj=>?_
 rw[yH hj,Jda (by omega),Lv,Int.mul_emod_right]
theorem zAH{p:Int}{D:Nat}{A:Mx}:wD p D (zeros D) A=zeros D:=by
 rw[show zeros D=mkv D fun _=>0 from tN D];refine zZ fun j hj=>?_
 rw[xQ (g:=fun _=>0) fun l hl=>by rw[yH hl,U6],qL,Int.zero_emod]
theorem zQ7{p:Int}{D q:Nat}{A:Mx}(hq:q<D)(hA:Mat p D A):wD p D (xP D q) A=A.getD q []:=by
 have hr:=hA.2 q hq
 conv=>rhs;rw[vY hr.1]
 refine zZ fun j hj=>?_
 rw[zAa,zAj (k:=q) hq (fun i hi gf=>by rw[yH hi,if_neg gf,U6]),yH hq,if_pos rfl,Jbv,qD (hr.2 j hj)]
theorem sK{p:Int}{D q:Nat}(hp:2≤p):Row p D (xP D q):=by rw[zAa];exact⟨yA _ _,fun j hj=>by rw[yH hj];split<;>omega⟩
theorem zMk{N D q:Nat}(hq:q<D):xP (N+D) (N+q)=zeros N++xP D q:=by rw[zAs (by omega),zAs hq,←Jd];simp only[zeros,Jn];rw[show N+D-(N+q+1)=D-(q+1)from by omega]
def aM(m:zF)(D k:Nat)(v:Vec):Mx:=img (PM m.Prime D) (m.zP.drop k) v (idM D)
theorem zSX{p:Int}{D:Nat}(hp:2≤p):Mon (Mat p D) (PM p D) (idM D):=
 ⟨fun ha _=>zHD (by omega) ha.1,qC (by omega),fun ha hb _=>zLM ha.1 hb.1,fun ha=>zEE ha,fun ha=>zCM ha⟩
section
variable {D:Nat}{x:SPr}{m:zF}{T:Mx} (h:Pres x) (hE:ExB x.zA.length D x m T) (hT:∀i,i<T.length→Row m.Prime D (T.getD i []))
 include h hE hT
theorem zSY{k:Nat}(hk:k<x.zA.length):(eC1 x T k).map (·.take (x.zA.length-(k+1)))=(lvl x k).cs:=by
 have _:=hE;have _:=hT;have gC:=zAz h.w hk;apply Kr;intro j
 by_cases g:j<x.zA.length-(k+1)
 ·obtain⟨c,_,_,c3,c4⟩:=zEB h hk g
  have hl:=vC h (by omega) c3;have e1:((eC1 x T k).map (·.take (x.zA.length-(k+1))))[j]? =iz (((lvl x k).cs.getD j []++T.getD (base x.zA.length k+j) []).take (x.zA.length-(k+1))):=by simp[eC1,gl,show j<x.zA.length-1-k by omega]
  rw[e1,c4,Jo hl,J3 (by omega)];rw[J2,J3 (by omega)]at c4;exact congrArg iz c4.symm
 ·rw[Jp (by simp[eC1,gl];omega),Jp (by omega)]
theorem zMl{k:Nat}(hk:k<x.zA.length):m.zP.drop k=m.zP.getD k []::m.zP.drop (k+1):=by have _:=h;have _:=hT;have hl:=hE.m.len;rw[Hy (by omega),J2,J3 (by omega)];rfl
theorem zVJ{k:Nat}(hk:k<x.zA.length){b:Int}{y:Vec}:aM m D k (b::y)=PM m.Prime D (pw (PM m.Prime D) (idM D) (m.zP.getD k []) b.toNat) (aM m D (k+1) y):=by
 have M:=zSX hE.m.p.pos.1 (D:=D);unfold aM;rw[zMl h hE hT hk];refine qR M (hE.m.mat k hk) fun c hc=>?_
 obtain⟨i,hi,rfl⟩:=Hu.1 (Jbj hc);have:=hE.m.mat i (by rw[←hE.m.len];exact hi)
 rwa [J2,J3 hi]at this
theorem pwM{k q:Nat}(hk:k<x.zA.length):Mat m.Prime D (pw (PM m.Prime D) (idM D) (m.zP.getD k []) q):=by have _:=h;have _:=hT;have _:=hk;have hp:=hE.m.p.pos;exact vO (S:=Mat m.Prime D) (fun _ hB=>zHD (by omega) hB.1) q (qC (by omega))
theorem zP6:∀(d k:Nat),k+d=x.zA.length→ ∀r y v,Row m.Prime D r→V (suf x k) y→Row m.Prime D v→mul (suf (exx D x m T) k) (zeros d++r) (y++v)=y++adv m.Prime D (wD m.Prime D r (aM m D k y)) v
 |0,k,hk,r,y,v,hr,hy,hv=>by
  have hp:=hE.m.p.pos;rw[vV (x:=x) (k:=k) (by omega)]at hy;obtain rfl:y=[]:=hy;rw[zAv h hE hT D k (by omega) (by omega)];have e:aM m D k []=idM D:=by unfold aM;cases m.zP.drop k<;>rfl
  rw[e,jN hr];exact qV (by omega) D r v hr hv
 |d+1,k,hk,r,y,v,hr,hy,hv=>by
  have hl:=wG h hE hT;have hp:=hE.m.p.pos;have hA:=hE.m.mat k (by omega);rw[yG (x:=x) (by omega)]at hy;cases y with
  |nil=>exact hy.elim
  |cons b y=>
   obtain⟨⟨b0,b1⟩,hy⟩:=hy;change b<at0 x.zA k at b1;rw[yG (x:=exx D x m T) (by omega)];show mul _ (0::(zeros d++r)) (b::(y++v))=_;have e:=zHX h hE hT (k:=k) (by omega) b.toNat hr;rw[show x.zA.length-(k+1)=d from by omega]at e;rw[xC,zB5 h hE hT (by omega),if_neg (by omega),e,zFF hA (by omega) hr,zP6 d (k+1) (by omega) _ y v (vA (by omega)) hy hv,Lv,zVJ h hE hT (by omega),←zEP (pwM h hE hT (by omega)).1];rfl
theorem zMm{k:Nat}(hk:k<x.zA.length)(ih:∀a b,V (suf (exx D x m T) (k+1)) a→V (suf (exx D x m T) (k+1)) b→(mul (suf (exx D x m T) (k+1)) a b).take (x.zA.length-(k+1))=mul (suf x (k+1)) (a.take (x.zA.length-(k+1))) (b.take (x.zA.length-(k+1)))){v:Vec}(hv:V (suf (exx D x m T) (k+1)) v):
  (sig (suf (exx D x m T) (k+1)) (lvl (exx D x m T) k) v).take (x.zA.length-(k+1))=sig (suf x (k+1)) (lvl x k) (v.take (x.zA.length-(k+1))):=by
 have ok:=uH h hE hT (k:=k+1) (by omega);obtain⟨y,u,rfl,hy,hu⟩:=(sQ h hE hT (x.zA.length-(k+1)) (k+1) (by omega) _).1 hv;have ez:=vC h (by omega) hy;obtain⟨y1,u1,e,fg,fT⟩:=(sQ h hE hT (x.zA.length-(k+1)) (k+1) (by omega) _).1 (zHW h hE hT hk (y:=y));have gH:=vC h (by omega) fg;rw[zBX h hE hT hk hy hu,Jo (by rw[e,Jo gH,gH]),Jo ez];unfold sgG sig;rw[zEO (S:=V (suf (exx D x m T) (k+1))) (n:=mul (suf x (k+1))) (·.take (x.zA.length-(k+1))) (fun a b=>xK ok) ih _ _ _ (zP5 h hE hT hk) (wO ok),zSY h hE hT hk,zBe h hE hT (by omega),Jo (yC _),yP]
theorem zKq:∀(d k:Nat),k+d=x.zA.length→ ∀a b,V (suf (exx D x m T) k) a→V (suf (exx D x m T) k) b→(mul (suf (exx D x m T) k) a b).take d=mul (suf x k) (a.take d) (b.take d)
 |0,k,hk,a,b,_,_=>by rw[vV (x:=x) (by omega),K5];rfl
 |d+1,k,hk,a,b,ha,hb=>by
  have hl:=wG h hE hT;have ih:=zKq d (k+1) (by omega);have hd:d=x.zA.length-(k+1):=by omega
  have ok:=uH h hE hT (k:=k+1) (by omega);have ok0:=uH h hE hT (k:=k) (by omega);rw[hd]at ih;have hs:=fun v hv=>zMm h hE hT (k:=k) (by omega) ih (v:=v) hv
  rw[yG (x:=exx D x m T) (by omega)]at ha hb ok0 ⊢
  rw[yG (x:=x) (by omega)];cases a with
  |nil=>exact ha.elim
  |cons a u=>
  cases b with
  |nil=>exact hb.elim
  |cons b v=>
   have e6:∀q u,V (suf (exx D x m T) (k+1)) u→(iter q (sig (suf (exx D x m T) (k+1)) (lvl (exx D x m T) k)) u).take d=iter q (sig (suf x (k+1)) (lvl x k)) (u.take d)∧V (suf (exx D x m T) (k+1)) (iter q (sig (suf (exx D x m T) (k+1)) (lvl (exx D x m T) k)) u):=by
    intro q
    induction q with
    |zero=>intro u hu;exact⟨rfl,hu⟩
    |succ q ihq=>
     intro u hu;have:=ihq _ (zCA ok0 hu);rw[hd,hs u hu]at this;rw[hd];exact this
   obtain⟨aG,eQ⟩:=e6 b.toNat u ha.2;have hm:=xK ok eQ hb.2;rw[xC,Ku,Ku,xC,zB5 h hE hT (by omega),show(lvl x k).o=at0 x.zA k from rfl];have e1:=ih _ _ eQ hb.2;rw[←hd,aG]at e1;split
   ·rw[Ku]
    have e2:=ih _ _ ok0.2.1 hm;rw[←hd,e1]at e2;rw[e2]
    congr 2
    have ht:=(h.tl k (by omega)).1;have hw:=jR ht (by omega);have hwl:(lvl x k).w.length=x.zA.length-(k+1):=vC h (by omega) hw;rw[zHU h hE hT (by omega),Jo (by omega)]
   ·rw[Ku,e1]
end
end Go.Pl

namespace Go.Pl
open Go Go.Ab Go.Wk Go.Pc
theorem zQ8{p:Int}{d:Nat}(hp:2≤p):∀c∈wJ d,Row p d c:=fun c hc=>by obtain⟨k,_,rfl⟩:=Jt.1 hc;exact sK hp
theorem zVK{p:Int}(hp:2≤p){d:Nat}{w:Vec}(hw:Row p d w):sig (tlv p d) ⟨p,zeros d,wJ d⟩ w=w:=by
 unfold sig;rw[zG4,zDn (S:=Row p d) (m':=adv p d) (by grind[qV]) (fun _ _ _ _=>qF (by omega)) (wJ d) w _ (zQ8 hp) (xS (by omega)),zG5 (by omega) (wJ d) w _ (by rw[hw.1];simp[wJ]) (fun i hi=>(hw.2 i (by rw[←hw.1];exact hi)).1) (xS (by omega))]
 conv=>rhs;rw[vY hw.1]
 refine zZ fun j hj=>?_
 have eY:(wJ d).length=d:=by simp[wJ]
 rw[eY,sJ,Lv,zAj (k:=j) hj (fun k hk gf=>by rw[zDo hk hj,if_neg (Ne.symm gf),L4]),zDo hj hj,if_pos rfl,Hf,qD (hw.2 j hj)]
structure LCn (x e:SPr) (k:Nat):Prop where
 c1:∀j,k+1≤j→j<x.zA.length→pw (mul (suf e (k+1))) (zeros (suf e (k+1)).length) ((lvl e k).cs.getD (j-(k+1)) []) (at0 e.zA j).toNat=sig (suf e (k+1)) (lvl e k) ((e.zR.getD j []).drop (k+1))
 c2:∀i,k+1≤i→i<x.zA.length→ ∀j,i+1≤j→j<x.zA.length→
  mul (suf e (k+1)) ((lvl e k).cs.getD (j-(k+1)) []) ((lvl e k).cs.getD (i-(k+1)) [])=mul (suf e (k+1)) ((lvl e k).cs.getD (i-(k+1)) []) (sig (suf e (k+1)) (lvl e k) (((e.zE.getD i []).getD (j-(i+1)) []).drop (k+1)))
 c3:sig (suf e (k+1)) (lvl e k) (lvl e k).w=(lvl e k).w
 c4:∀j,k+1≤j→j<x.zA.length→mul (suf e (k+1)) (lvl e k).w (iter (lvl e k).o.toNat (sig (suf e (k+1)) (lvl e k)) (xP (e.zA.length-(k+1)) (j-(k+1))))=mul (suf e (k+1)) (xP (e.zA.length-(k+1)) (j-(k+1))) (lvl e k).w
section
variable {D:Nat}{x:SPr}{m:zF}{T:Mx} (h:Pres x) (hE:ExB x.zA.length D x m T) (hT:∀i,i<T.length→Row m.Prime D (T.getD i []))
 include h hE hT
theorem zSZ{k j:Nat}(hk:k<x.zA.length)(hj:x.zA.length≤j)(h2:j<x.zA.length+D):(lvl (exx D x m T) k).cs.getD (j-(k+1)) []=zeros (x.zA.length-(k+1))++(m.zP.getD k []).getD (j-x.zA.length) []:=by
 rw[zBW h hE hT hk,J2,Jb (by grind[uX]),uX h hE hT,eC2]
 grind
theorem zHY{k j:Nat}(hk:k<x.zA.length)(hj:k+1≤j)(h2:j<x.zA.length):(lvl (exx D x m T) k).cs.getD (j-(k+1)) []=(lvl x k).cs.getD (j-(k+1)) []++T.getD (base x.zA.length k+(j-(k+1))) []:=by
 rw[zBW h hE hT hk,J2,Jx (by grind[uX]),eC1]
 grind
theorem zDC{i j:Nat}(hi:i<j)(hj:j<x.zA.length):Row m.Prime D (T.getD (base x.zA.length i+(j-(i+1))) []):=by have _:=h;have hn:=hE.hn;have hb:=zAu x.zA.length (by omega) i (by omega);exact hT _ (by rw[hE.t];omega)
theorem zBY{i:Nat}(hi:i<x.zA.length):Row m.Prime D (T.getD i []):=by have _:=h;have hn:=hE.hn;have hb:=wT x.zA.length (by omega);exact hT _ (by rw[hE.t];omega)
theorem zEd{k j:Nat}(hj:k≤j)(h2:j<x.zA.length):((exx D x m T).zR.getD j []).drop (k+1)=(x.zR.getD j []).drop (k+1)++T.getD j []:=by have t1:=(h.tl j h2).1.1.1;have _:=hE;have _:=hT;have hP:(exx D x m T).zR.getD j []=exP x.zA.length D x T j:=xW (by omega);rw[hP,exP,if_pos h2,Kg (by omega)]
theorem zYy{k j:Nat}(hk:k<x.zA.length)(hj:x.zA.length≤j)(h2:j<x.zA.length+D):((exx D x m T).zR.getD j []).drop (k+1)=zeros (x.zA.length-(k+1))++zeros D:=by
 have _:=h;have _:=hE;have _:=hT;have hP:(exx D x m T).zR.getD j []=exP x.zA.length D x T j:=xW (by omega);rw[hP,exP,if_neg (by omega),Lb]
 grind[zeros,Jn]
theorem zHZ{i:Nat}(hi:i<x.zA.length+D):(exx D x m T).zE.getD i []=exC x.zA.length D x m T i:=by
 have _:=h;have _:=hE;have _:=hT;show(gl (x.zA.length+D) (exC x.zA.length D x m T)).getD i []=_
 grind
theorem zFG{k i j:Nat}(hk:k≤i)(hi:i<j)(hj:j<x.zA.length):(((exx D x m T).zE.getD i []).getD (j-(i+1)) []).drop (k+1)=((x.zE.getD i []).getD (j-(i+1)) []).drop (k+1)++T.getD (base x.zA.length i+(j-(i+1))) []:=by obtain⟨_,t2,t3⟩:=h.tl i (by omega);have t:=(t3 (j-(i+1)) (by omega)).1.1;rw[zHZ h hE hT (by omega),exC,if_pos (by omega),xW (by omega),exF,if_pos (by omega),Kg (by omega)]
theorem zYz{k i j:Nat}(hk:k<x.zA.length)(hi:i<x.zA.length)(hj:x.zA.length≤j)(h2:j<x.zA.length+D):(((exx D x m T).zE.getD i []).getD (j-(i+1)) []).drop (k+1)=zeros (x.zA.length-(k+1))++(m.zP.getD i []).getD (j-x.zA.length) []:=by rw[zHZ h hE hT (by omega),exC,if_pos (by omega),xW (by omega),exF,if_neg (by omega),Kg (by simp;omega),Lb,show j-(i+1)-(x.zA.length-1-i)=j-x.zA.length from by omega];rfl
theorem zY0{k i j:Nat}(hk:k<x.zA.length)(hi:x.zA.length≤i)(hj:i<j)(h2:j<x.zA.length+D):(((exx D x m T).zE.getD i []).getD (j-(i+1)) []).drop (k+1)=zeros (x.zA.length-(k+1))++xP D (j-x.zA.length):=by
 rw[zHZ h hE hT (by omega),exC,if_neg (by omega),unC,xW (by omega),tQ,zHT,←zMk (by omega),zAa]
 grind
theorem zVL(hr:zF9 x m D){k:Nat}(hk:k<x.zA.length):pw (PM m.Prime D) (idM D) (m.zP.getD k []) (at0 x.zA k).toNat=aM m D (k+1) (lvl x k).w∧
  ∀i,k<i→i<x.zA.length→PM m.Prime D (m.zP.getD i []) (m.zP.getD k [])=PM m.Prime D (m.zP.getD k []) (aM m D (k+1) ((lvl x k).cs.getD (i-(k+1)) [])):=by
 have R:=zP1 h hE.m hr (x.zA.length-k) k (by omega);rw[yG hk,zMl h hE hT hk]at R;obtain⟨r1,r2,_⟩:=R;refine⟨r1,fun i h1 h2=>?_⟩;have gC:=zAz h.w hk;have hl:=hE.m.len;refine r2 (i-(k+1)) _ _ ?_ ?_
 all_goals grind
theorem zv{k:Nat}(hk:k≤x.zA.length):V (suf x k) (zeros (x.zA.length-k)):=by
 have _:=hE;have _:=hT;have:=wO (h.okAt hk)
 grind[yP]
theorem zTa(hr:zF9 x m D){k:Nat}(hk:k<x.zA.length)(hc:LCn x (exx D x m T) k):LC (exx D x m T) k:=by
 have hp:=hE.m.p.pos;have hl:=wG h hE hT;have hA:=hE.m.mat k hk;obtain⟨r1,r2⟩:=zVL h hE hT hr hk;have hz:=zv h hE hT (k:=k+1) (by omega);have aV:Row m.Prime D (zeros D):=xS (by omega);have hw:=(zYj h hk).2;refine⟨fun j h1 h2=>?_,fun i h1 h2 j h3 h4=>?_,hc.c3,fun j h1 h2=>?_⟩
 ·rw[hl]at h2
  rcases Jj j x.zA.length with g|g
  ·exact hc.c1 j h1 g
  ·have hq:=hA.2 (j-x.zA.length) (by omega)
   rw[zSZ h hE hT hk g h2,zYy h hE hT hk g h2,zG6 h hE hT hk aV,zAH,zBV h hE hT g h2,zBe h hE hT (by omega)];have e:=zNO h hE hT (d:=x.zA.length-(k+1)) (k:=k+1) (by omega) [(m.zP.getD k []).getD (j-x.zA.length) []] [m.Prime] _ _ (by grind) hz aV;have e2:iter m.Prime.toNat (fun w=>adv m.Prime D w ((m.zP.getD k []).getD (j-x.zA.length) [])) (zeros D)=zeros D:=zSW (by omega);unfold pw;refine e.trans ?_;show zeros _++iter m.Prime.toNat (fun w=>adv m.Prime D w ((m.zP.getD k []).getD (j-x.zA.length) [])) (zeros D)=_;rw[e2]
 ·rw[hl]at h4
  rcases Jj j x.zA.length with g|g
  ·exact hc.c2 i h1 (by omega) j h3 g
  ·have hq:=hA.2 (j-x.zA.length) (by omega)
   rw[zSZ h hE hT hk g h4];rcases Jj i x.zA.length with gi|gi
   ·have hAi:=hE.m.mat i gi
    have d6:=hAi.2 (j-x.zA.length) (by omega);have p8:=(kW h hk h1 gi).2.2;have ht:=zDC h hE hT (i:=k) (j:=i) (by omega) gi;rw[zHY h hE hT hk h1 gi,zYz h hE hT hk gi g h4,zG6 h hE hT hk d6,zP6 h hE hT _ (k+1) (by omega) _ _ _ hq p8 ht,zEQ h hE hT _ (k+1) (by omega) _ _ _ p8 ht (vA (by omega)),tR]
    congr 2
    rw[←zBQ (by rw[hA.1];omega),←zBQ (by rw[hAi.1];omega),r2 i (by omega) gi]
   ·have d6:=hA.2 (i-x.zA.length) (by omega)
    rw[zSZ h hE hT hk gi (by omega),zY0 h hE hT hk gi (by omega) h4,zG6 h hE hT hk (sK (by omega)),zQ7 (by omega) hA,zEQ h hE hT _ (k+1) (by omega) _ _ _ hz hq d6,zEQ h hE hT _ (k+1) (by omega) _ _ _ hz d6 hq,tR]
 ·rw[hl]at h2 ⊢
  rcases Jj j x.zA.length with g|g
  ·have:=hc.c4 j h1 g
   grind
  ·have ht:=zBY h hE hT hk
   have hu:Row m.Prime D (xP D (j-x.zA.length)):=sK (by omega);rw[show x.zA.length+D-(k+1)=x.zA.length-(k+1)+D from by omega,show j-(k+1)=x.zA.length-(k+1)+(j-x.zA.length)from by omega,zMk (by omega),zB5 h hE hT hk,zHX h hE hT hk _ hu,zHU h hE hT hk,zFF hA (by omega) hu,r1,zP6 h hE hT _ (k+1) (by omega) _ _ _ hu hw ht,zEQ h hE hT _ (k+1) (by omega) _ _ _ hw ht (vA (by omega)),tR]
theorem zY1{k:Nat}(hk:x.zA.length≤k)(h2:k<x.zA.length+D):LC (exx D x m T) k:=by
 have hp:=hE.m.p.pos;have hl:=wG h hE hT;have hs:=zAv h hE hT (x.zA.length+D-(k+1)) (k+1) (by omega) (by omega);have hL:=zAv h hE hT (x.zA.length+D-(k+1)+1) k (by omega) (by omega);rw[yG (by omega),hs,tlv]at hL;have m6:lvl (exx D x m T) k=⟨m.Prime,zeros (x.zA.length+D-(k+1)),wJ (x.zA.length+D-(k+1))⟩:=(Qt.inj hL).1
 generalize hd:x.zA.length+D-(k+1)=d at*
 have ew:∀w,Row m.Prime d w→sig (tlv m.Prime d) ⟨m.Prime,zeros d,wJ d⟩ w=w:=by grind[zVK]
 have bI:Row m.Prime d (zeros d):=xS (by omega);have dz:∀j,(wJ d).getD j []=if j<d then xP d j else[]:=fun j=>by
  by_cases g:j<d
  ·rw[if_pos g,zH7 g]
  ·rw[if_neg g,J2,Jp (by grind[wJ])];rfl
 refine⟨fun j h1 h3=>?_,fun i h1 h3 j h4 h5=>?_,?_,fun j h1 h3=>?_⟩
 ·rw[hl]at h3
  have hP:(exx D x m T).zR.getD j []=exP x.zA.length D x T j:=xW (by omega);rw[hs,m6,zBV h hE hT (by omega) h3,hP,exP,if_neg (by omega),Lb,hd];show pw (mul (tlv m.Prime d)) (zeros (tlv m.Prime d).length) ((wJ d).getD (j-(k+1)) []) m.Prime.toNat=sig (tlv m.Prime d) ⟨m.Prime,zeros d,wJ d⟩ (zeros d);rw[ew _ bI,dz,if_pos (by omega),zG4];have e:=zDn (S:=Row m.Prime d) (m':=adv m.Prime d) (fun a b ha hb=>qV (by omega) d a b ha hb) (fun _ _ _ _=>qF (by omega)) [xP d (j-(k+1))] [m.Prime] (zeros d) (by grind[sK]) bI;exact e.trans (zSW (by omega))
 ·rw[hl]at h3 h5
  rw[hs,m6,zHZ h hE hT h3,exC,if_neg (by omega),unC,xW (by omega),tQ,zHT,hd];have e:(mkv d fun q=>if k+1+q=i+1+(j-(i+1))then(1:Int)else 0)=xP d (j-(k+1)):=by
   rw[zAa]
   grind
  rw[e,ew _ (sK (by omega))];show mul (tlv m.Prime d) ((wJ d).getD (j-(k+1)) []) ((wJ d).getD (i-(k+1)) [])=mul (tlv m.Prime d) ((wJ d).getD (i-(k+1)) []) (xP d (j-(k+1)));rw[dz,dz,if_pos (by omega),if_pos (by omega),qV (by omega) d _ _ (sK (by omega)) (sK (by omega)),qV (by omega) d _ _ (sK (by omega)) (sK (by omega)),tR]
 ·grind
 ·rw[hl]at h3 ⊢
  have hu:Row m.Prime d (xP d (j-(k+1))):=sK (by omega);rw[hs,m6,hd,zHQ (ew _ hu),qV (by omega) d _ _ bI hu,qV (by omega) d _ _ hu bI,tR]
theorem zIa:∀(d k:Nat),x.zA.length≤k→k+d=x.zA.length+D→wQ (suf (exx D x m T) k)
 |0,k,hk,hd=>by rw[vV (by grind[wG])];simp only[wQ]
 |d+1,k,hk,hd=>(zAD (zG3 h hE hT) (by rw[wG h hE hT];omega)).2 ⟨zIa d (k+1) (by omega) (by omega),by grind[zY1]⟩
theorem zP7(hr:zF9 x m D):wQ (suf (exx D x m T) 0)↔ ∀k,k<x.zA.length→LCn x (exx D x m T) k:=by
 have hl:=wG h hE hT;have key:∀(d k:Nat),k+d=x.zA.length→(wQ (suf (exx D x m T) k)↔ ∀i,k≤i→i<x.zA.length→LCn x (exx D x m T) i):=by
  intro d
  induction d with
  |zero=>grind[zIa]
  |succ d ih=>
   intro k hk;rw[zAD (zG3 h hE hT) (by omega),ih (k+1) (by omega)];constructor
   ·rintro⟨g1,g2⟩ i h1 h2
    rcases Jj k i with g|g
    ·grind
    ·obtain rfl:i=k:=by omega
     exact⟨fun j a b=>g2.c1 j a (by omega),fun i a b j c d=>g2.c2 i a (by omega) j c (by omega),g2.c3,fun j a b=>g2.c4 j a (by omega)⟩
   grind[zTa]
 simp_all
end
end Go.Pl

namespace Go.Pl
open Go Go.Ab Go.Wk Go.Pc
def prE(x:SPr)(k:Nat)(w:Vec):zJ:=⟨fv k (w.take (x.zA.length-k)),w.drop (x.zA.length-k)⟩
theorem qW{x:SPr}{k:Nat}{y u:Vec}(hy:y.length=x.zA.length-k):prE x k (y++u)=⟨fv k y,u⟩:=by grind[prE]
theorem zBZ{α α' β:Type}{body:α×α'×Int→Option ((α×α'×Int)⊕(α×α'))}{S:β→Prop}(e1:β→α)(e2:β→α')(g:β→β)(n:Int)(hn:0≤n)(hS:∀a,S a→S (g a))
  (h:∀a(i:Nat),S a→(i:Int)<n→body (e1 a,e2 a,(i:Int))=iz (.inl (e1 (g a),e2 (g a),((i+1:Nat):Int))))(he:∀a,S a→body (e1 a,e2 a,n)=iz (.inr (e1 a,e2 a))){a:β}(ha:S a):
  zH body (e1 a,e2 a,0)=iz (e1 (iter n.toNat g a),e2 (iter n.toNat g a)):=by
 have e6:∀k,S (iter k g a):=fun k=>vO (S:=S) hS k ha
 exact zV (body:=body) (r:=(e1 (iter n.toNat g a),e2 (iter n.toNat g a))) (fun i=>(e1 (iter i g a),e2 (iter i g a),(i:Int))) n.toNat (by grind[vG]) (by grind)
structure Mv (D n:Nat) (m0 m:zF):Prop where
 pr:m0.Prime=m.Prime
 mv:∀k,k<n→ ∀u,Row m.Prime D u→zWs m0 u (k:Int)=iz (wD m.Prime D u (m.zP.getD k []))
section
variable {D:Nat}{x:SPr}{m0 m:zF}{T:Mx} (h:Pres x) (hE:ExB x.zA.length D x m T) (hT:∀i,i<T.length→Row m.Prime D (T.getD i []))
def zTb(D:Nat)(x:SPr)(m0 m:zF)(T:Mx)(k:Nat)(g:zY→Int→zJ→zJ→Option zJ):Prop:=
 ∀a b,V (suf (exx D x m T) k) a→V (suf (exx D x m T) k) b→g ⟨x,m0,T⟩ k (prE x k a) (prE x k b)=iz (prE x k (mul (suf (exx D x m T) k) a b))
def zTc(D:Nat)(x:SPr)(m0 m:zF)(T:Mx)(k:Nat)(g:zY→Int→zJ→Option zJ):Prop:=
 ∀v,V (suf (exx D x m T) (k+1)) v→g ⟨x,m0,T⟩ k (prE x (k+1) v)=iz (prE x (k+1) (sig (suf (exx D x m T) (k+1)) (lvl (exx D x m T) k) v))
 include h hE hT
theorem zP8{k i j:Nat}(hk:k≤i)(hi:i<j)(hj:j<x.zA.length):f_W ⟨x,m0,T⟩ (i:Int) (j:Int)=iz (prE x (k+1) ((((exx D x m T).zE.getD i []).getD (j-(i+1)) []).drop (k+1)))∧V (suf (exx D x m T) (k+1)) ((((exx D x m T).zE.getD i []).getD (j-(i+1)) []).drop (k+1)):=by
 have hn:=hE.hn;have hb:=zAu x.zA.length (by omega) i (by omega);have ht:=hE.t;obtain⟨_,t2,t3⟩:=h.tl i (by omega);have tt:=t3 (j-(i+1)) (by omega);obtain⟨e1,e2⟩:=zCI (k:=k+1) tt (by omega) (by omega);have hl:=vC h (by omega) e2;have gC:=h.cl;have hr:=zDC h hE hT hi hj;refine⟨?_,?_⟩
 ·rw[zFG h hE hT hk hi hj,qW hl,←e1]
  unfold f_W;dsimp only
  rw[yR [] (by omega),bs,zC (by omega) (by omega),bs,zC (by omega) (by omega),bs,show(j:Int)-(i:Int)-1=((j-(i+1):Nat):Int)from by omega,yR [] (by omega),bs,zHL x.zA.length (by omega) j hj i hi,bs,yR [] (by omega),bs,show j-i-1=j-(i+1)from by omega]
 ·rw[zFG h hE hT hk hi hj]
  exact(sQ h hE hT (x.zA.length-(k+1)) (k+1) (by omega) _).2 ⟨_,_,rfl,e2,hr⟩
theorem zER{k j:Nat}(hk:k<j)(hj:j<x.zA.length):f_W ⟨x,m0,T⟩ (k:Int) (j:Int)=iz (prE x (k+1) ((lvl (exx D x m T) k).cs.getD (j-(k+1)) []))∧V (suf (exx D x m T) (k+1)) ((lvl (exx D x m T) k).cs.getD (j-(k+1)) []):=by
 have e:(lvl (exx D x m T) k).cs.getD (j-(k+1)) []=(((exx D x m T).zE.getD k []).getD (j-(k+1)) []).drop (k+1):=by
  have hC:((exx D x m T).zE.getD k []).length=x.zA.length+D-1-k:=by rw[zHZ h hE hT (by omega),exC,if_pos (by omega),xD]
  simp only[lvl];rw[J2,K4,J3 (by omega),J2 (l:=(exx D x m T).zE.getD k []),J3 (by omega)];rfl
 rw[e];exact zP8 h hE hT (Jl k) hk hj
theorem zKr{k j:Nat}(hk:k≤j)(hj:j<x.zA.length):zOw ⟨x,m0,T⟩ (j:Int)=iz (prE x (k+1) (((exx D x m T).zR.getD j []).drop (k+1)))∧V (suf (exx D x m T) (k+1)) (((exx D x m T).zR.getD j []).drop (k+1)):=by
 have hn:=hE.hn;have hb:=wT x.zA.length (by omega);have ht:=hE.t;have pM:=h.pl;have t1:=(h.tl j hj).1;obtain⟨e1,e2⟩:=zCI (k:=k+1) t1 (by omega) (by omega);have hl:=vC h (by omega) e2;have hr:=zBY h hE hT hj;refine⟨?_,?_⟩
 ·rw[zEd h hE hT hk hj,qW hl,←e1]
  grind[zOw,yR]
 ·rw[zEd h hE hT hk hj]
  exact(sQ h hE hT (x.zA.length-(k+1)) (k+1) (by omega) _).2 ⟨_,_,rfl,e2,hr⟩
theorem zKs{k:Nat}(hk:k≤x.zA.length)(h0:0<x.zA.length):zML ⟨x,m0,T⟩=iz (prE x k (zeros (suf (exx D x m T) k).length)):=by
 have hn:=hE.hn;have h3:=hE.m.d3;have hb:=wT x.zA.length (by omega);have ht:=hE.t;have hr:=zBY h hE hT h0;have cZ:=hr.1;unfold zML;dsimp only
 have e0:ixO T 0=iz (T.getD 0 []):=by grind[yR]
 rw[iE (by omega),zM,e0,bs,yX (by omega),bs,yX (by omega),bs,zBe h hE hT hk,qW (yC _),cZ,fv]
 grind[zeros,Jn]
theorem zTd{u v:Vec}(hu:Row m.Prime D u)(hv:Row m.Prime D v):f_A m.Prime u 1 v=iz (adv m.Prime D u v):=by
 have _:=h;have _:=hT;have h3:=hE.m.d3;rw[tW hE.m.p hu hv (by omega) (by omega)]
 congr 1
 exact zZ (by simp)
theorem prV{k:Nat}(hk:k≤x.zA.length){w:Vec}(hw:V (suf (exx D x m T) k) w):∃y u,w=y++u∧V (suf x k) y∧Row m.Prime D u∧prE x k w=⟨fv k y,u⟩∧y.length=x.zA.length-k:=by obtain⟨y,u,rfl,hy,hu⟩:=(sQ h hE hT (x.zA.length-k) k (by omega) _).1 hw;have ez:=vC h hk hy;exact⟨y,u,rfl,hy,hu,qW ez,ez⟩
variable (hM:Mv D x.zA.length m0 m)
 include hM
theorem zMn{k:Nat}(hk:k<x.zA.length){g:zY→Int→zJ→zJ→Option zJ}(hg:zTb D x m0 m T (k+1) g):zTc D x m0 m T k (b_i g):=by
 intro v hv;have hn:=hE.hn;have hp:=hE.m.p.pos;have ok:=uH h hE hT (k:=k+1) (by omega);have hA:=hE.m.mat k hk;obtain⟨y,u,rfl,hy,hu,cB,ez⟩:=prV h hE hT (k:=k+1) (by omega) hv;obtain⟨_,hyr⟩:=zDY h.os (x.zA.length-(k+1)) (k+1) y (by omega) hy;have gC:=uX h hE hT (k:=k);have gQ:=zP5 h hE hT hk;have hcg:∀i,i<x.zA.length-(k+1)→(eC1 x T k).getD i []=(lvl (exx D x m T) k).cs.getD i []:=fun i hi=>by rw[zBW h hE hT hk,J2,J2,Jx (by omega)]
 obtain⟨A,dl⟩:∃A:Nat→Vec,∀i,A i=img (mul (suf (exx D x m T) (k+1))) ((eC1 x T k).take i) (y.take i) (zeros (suf (exx D x m T) (k+1)).length):=⟨_,fun _=>rfl⟩;have hI:∀i,V (suf (exx D x m T) (k+1)) (A i):=fun i=>by rw[dl];exact jL (xK ok) _ _ (by grind) (wO ok)
 have hA0:A 0=zeros (suf (exx D x m T) (k+1)).length:=by grind[img]
 have hAn:A (x.zA.length-(k+1))=sgG D x m T k y:=by rw[dl,Jr (by omega),Jr (by omega)];rfl
 rw[cB];unfold b_i;dsimp only
 rw[zKs h hE hT (k:=k+1) (by omega) (by omega),bs,zC (by omega) (by omega),bs,cs];have:=zV (body:=zUI g ⟨x,m0,T⟩ k ⟨fv (k+1) y,u⟩) (r:=((prE x (k+1) (sgG D x m T k y)).x,(prE x (k+1) (sgG D x m T k y)).v))
  (fun i=>((prE x (k+1) (A i)).x,(prE x (k+1) (A i)).v,((k+1+i:Nat):Int))) (x.zA.length-(k+1)) (fun i hi=>by
  have hr:=hyr i hi;obtain⟨c1,c2⟩:=zER h hE hT (k:=k) (j:=k+1+i) (by omega) (by omega);rw[show k+1+i-(k+1)=i from by omega]at c1 c2;unfold zUI;dsimp only
  rw[iE (by grind[zCG]),zM];rw[zBZ (S:=V (suf (exx D x m T) (k+1))) (fun w=>(prE x (k+1) w).x) (fun w=>(prE x (k+1) w).v) (fun w=>mul (suf (exx D x m T) (k+1)) w ((lvl (exx D x m T) k).cs.getD i [])) (at0 y i) hr.1 (by grind[xK]) (fun w q hw hq=>by
   unfold zWt;dsimp only
   rw[fv,zLE (by omega),bs,iE hq,zM,zC (by omega) (by omega),bs,c1,bs,cs,show(zJ.mk (prE x (k+1) w).x (prE x (k+1) w).v)=prE x (k+1) w from rfl,hg w _ hw c2,bs,zC (by omega) (by omega),bs,cs]) (fun w hw=>by
   unfold zWt;dsimp only
   rw[fv,zLE (by omega),bs,iD (by omega),zK]) (hI i),bs,zC (by omega) (by omega),bs,cs]
  rw[dl (i+1),zBx _ _ _ _ (by omega) (by omega),hcg i hi,←dl];rfl) (by
  unfold zUI;dsimp only
  rw[iD (by grind[zCG]),zK,hAn])
 rw[hA0,G9]at this;rw[this,bs,hM.mv k hk _ hu,bs];obtain⟨y1,u1,e,fg,fT,u9,mF⟩:=prV h hE hT (k:=k+1) (by omega) (zHW h hE hT hk (y:=y));rw[zBX h hE hT hk hy hu,u9,e,Jo mF,K8 mF,qW mF];dsimp only
 rw[hM.pr,zTd h hE hT fT (vA (by omega)),bs]
theorem zTe{k:Nat}(hk:k<x.zA.length){g:zY→Int→zJ→zJ→Option zJ}{gi:zY→Int→zJ→Option zJ}(hg:zTb D x m0 m T (k+1) g)(hi:zTc D x m0 m T k gi):zTb D x m0 m T k (b_d gi g):=by
 have _:=hM;intro a b ha hb;have hn:=hE.hn;have hl:=wG h hE hT;have hp:=(h.os.2 k hk).pos;have ok:=uH h hE hT (k:=k+1) (by omega);have ok0:=uH h hE hT (k:=k) (by omega);obtain⟨al,au,rfl,mf,hau,fJ,pI⟩:=prV h hE hT (k:=k) (by omega) ha;obtain⟨bl,bu,rfl,cm,hbu,bO,hbll⟩:=prV h hE hT (k:=k) (by omega) hb;rw[fJ,bO];rw[yG (x:=x) hk]at mf cm;rw[yG (x:=exx D x m T) (by omega)]at ok0 ⊢
 obtain⟨a0,a,rfl⟩:∃a0 a',al=a0::a':=by cases al with|nil=>grind|cons p q=>simp
 obtain⟨b0,b,rfl⟩:∃a0 a',bl=a0::a':=by cases bl with|nil=>grind|cons p q=>simp
 obtain⟨⟨a1,a2⟩,mf⟩:=mf;obtain⟨⟨b1,b2⟩,cm⟩:=cm;change a0<at0 x.zA k at a2;change b0<at0 x.zA k at b2;have iu:=vC h (by omega) mf;have im:=vC h (by omega) cm;have hA:=(sQ h hE hT (x.zA.length-(k+1)) (k+1) (by omega) (a++au)).2 ⟨_,_,rfl,mf,hau⟩;have hB:=(sQ h hE hT (x.zA.length-(k+1)) (k+1) (by omega) (b++bu)).2 ⟨_,_,rfl,cm,hbu⟩;have own:∀u,V (suf x (k+1)) u→f_w (fv (k+1) u)=iz (fv (k+1) u):=by grind[tM,zCG]
 have own':∀(c:Int) u,V (suf x (k+1)) u→f_w (fv k (c::u))=iz (fv k (c::u)):=fun c u hu=>tM (by have:=vC h (by omega) hu;rw[fv,J5,yC,J6];omega)
 have ew:∀u,V (suf (exx D x m T) (k+1)) u→V (suf (exx D x m T) (k+1)) (sig (suf (exx D x m T) (k+1)) (lvl (exx D x m T) k) u):=by grind[zCA]
 have e6:V (suf (exx D x m T) (k+1)) (iter b0.toNat (sig (suf (exx D x m T) (k+1)) (lvl (exx D x m T) k)) (a++au)):=vO ew _ hA;have ea:(⟨fv (k+1) a,au⟩:zJ)=prE x (k+1) (a++au):=(qW iu).symm;have eb:(⟨fv (k+1) b,bu⟩:zJ)=prE x (k+1) (b++bu):=(qW im).symm;unfold b_d;dsimp only
 rw[iD (by omega),zK,own' _ _ mf,bs,own' _ _ cm,bs,zCE,bs,zCE,bs,J9,zD8,zD8,zBP,zBP];have e1:zH (zRe gi ⟨x,m0,T⟩ k ⟨fv k (b0::b),bu⟩) (zeros (k+1)++a,au,0)=iz ((prE x (k+1) (iter b0.toNat (sig (suf (exx D x m T) (k+1)) (lvl (exx D x m T) k)) (a++au))).x,(prE x (k+1) (iter b0.toNat (sig (suf (exx D x m T) (k+1)) (lvl (exx D x m T) k)) (a++au))).v):=by
  have:=zBZ (body:=zRe gi ⟨x,m0,T⟩ k ⟨fv k (b0::b),bu⟩) (S:=V (suf (exx D x m T) (k+1))) (fun w=>(prE x (k+1) w).x) (fun w=>(prE x (k+1) w).v) (sig (suf (exx D x m T) (k+1)) (lvl (exx D x m T) k)) b0 b1 ew (fun w q hw hq=>by
   unfold zRe;dsimp only
   rw[zCE,bs,iE hq,zM,show(zJ.mk (prE x (k+1) w).x (prE x (k+1) w).v)=prE x (k+1) w from rfl,hi w hw,bs,zC (by omega) (by omega),bs,cs]) (fun w hw=>by
   unfold zRe;dsimp only
   rw[zCE,bs,iD (by omega),zK]) hA
  grind
 rw[e1,bs,zC (by omega) (by omega),bs,cs];dsimp only
 rw[show zeros (k+1)++b=fv (k+1) b from rfl,eb,show(zJ.mk (prE x (k+1) (iter b0.toNat (sig (suf (exx D x m T) (k+1)) (lvl (exx D x m T) k)) (a++au))).x (prE x (k+1) (iter b0.toNat (sig (suf (exx D x m T) (k+1)) (lvl (exx D x m T) k)) (a++au))).v)=prE x (k+1) (iter b0.toNat (sig (suf (exx D x m T) (k+1)) (lvl (exx D x m T) k)) (a++au))from rfl,hg _ _ e6 hB,bs,bs,bs,zC (by omega) (by omega),bs,yQ hk,bs];have hm:=xK ok e6 hB;show _=iz (prE x k (mul _ (a0::(a++au)) (b0::(b++bu))));rw[xC,zB5 h hE hT hk]
 generalize mul (suf (exx D x m T) (k+1)) (iter b0.toNat (sig (suf (exx D x m T) (k+1)) (lvl (exx D x m T) k)) (a++au)) (b++bu)=r at hm ⊢
 have fin:∀(c:Int) w,V (suf (exx D x m T) (k+1)) w→((f_w (prE x (k+1) w).x).bind fun r22=>(ixO r22 (k:Int)).bind fun _=>iz (zJ.mk (r22.set k c) (prE x (k+1) w).v))=iz (prE x k (c::w)):=fun c w hw=>by
  obtain⟨w1,w2,rfl,h1,h2,h3,h4⟩:=prV h hE hT (k:=k+1) (by omega) hw;have e3:prE x k (c::(w1++w2))=⟨fv k (c::w1),w2⟩:=by grind[qW]
  rw[h3,e3];dsimp only
  rw[own _ h1,bs,fv,←zBP,zCE,bs,zD8]
 by_cases hge:a0+b0≥at0 x.zA k
 ·obtain⟨p1,p2⟩:=zKr h hE hT (k:=k) (j:=k) (Jl k) hk
  change V (suf (exx D x m T) (k+1)) (lvl (exx D x m T) k).w at p2;rw[iE hge,zM,if_pos hge,bs,zC (by omega) (by omega),bs,bs,p1,bs];have e4:=hg _ _ p2 hm;rw[show(((exx D x m T).zR.getD k []).drop (k+1))=(lvl (exx D x m T) k).w from rfl,e4,bs]
  grind[xK]
 ·rw[iD hge,zK,if_neg hge]
  grind
theorem zEe:∀(d k:Nat),k+d=x.zA.length→(∀q,2*d+1≤q→zTb D x m0 m T k (zOy q))∧(1≤d→ ∀q,2*d≤q→zTc D x m0 m T k (zOx q))
 |0,k,hk=>by
  refine⟨fun q hq a b ha hb=>?_,fun h=>by omega⟩;have hn:=hE.hn;have hp:=hE.m.p.pos;obtain⟨q,rfl⟩:∃m',q=m'+1:=⟨q-1,by omega⟩;rw[zAv h hE hT D k (by omega) (by omega)]at ha hb ⊢
  have mg:=(zDB _ _).1 ha;have eR:=(zDB _ _).1 hb;show b_d _ _ ⟨x,m0,T⟩ k _ _=_;unfold b_d;have e:∀w:Vec,prE x k w=⟨zeros k,w⟩:=fun w=>by rw[prE,show x.zA.length-k=0 from by omega,K5,Hv,fv,Ja]
  rw[e,e,e];dsimp only
  rw[iE (by omega),zM,yX (by omega),bs,hM.pr,zTd h hE hT mg eR,bs,qV (by omega) D _ _ mg eR,show x.zA.length=k from by omega];rfl
 |d+1,k,hk=>by
  obtain⟨h1,h2⟩:=zEe d (k+1) (by omega);have hI:∀q,2*(d+1)≤q→zTc D x m0 m T k (zOx q):=fun q hq=>by obtain⟨q,rfl⟩:∃m',q=m'+1:=⟨q-1,by omega⟩;exact zMn h hE hT hM (by omega) (h1 q (by omega))
  refine⟨fun q hq=>?_,fun _=>hI⟩;obtain⟨q,rfl⟩:∃m',q=m'+1:=⟨q-1,by omega⟩;exact zTe h hE hT hM (by omega) (h1 q (by omega)) (hI q (by omega))
theorem zIb{k:Nat}(hk:k≤x.zA.length):zTb D x m0 m T k f_d:=fun a b ha hb=>
 zBu (2*(x.zA.length-k)+1) fun q hq=>(zEe h hE hT hM (x.zA.length-k) k (by omega)).1 q hq a b ha hb
theorem zAT{k:Nat}(hk:k<x.zA.length):zTc D x m0 m T k f_i:=fun v hv=>
 zBu (2*(x.zA.length-k)) fun q hq=>(zEe h hE hT hM (x.zA.length-k) k (by omega)).2 (by omega) q hq v hv
end
end Go.Pl

namespace Go.Pl
open Go Go.Ab Go.Wk Go.Pc
structure GR (p:Int) (D:Nat) (Z:Vec→Prop) (L:Mx) (N:Nat) (C:Prop):Prop where
 len:L.length≤N
 row:∀r∈L,Row p D r
 iff:(∀r∈L,Z r)↔C
theorem GR.nil{p:Int}{D N:Nat}{Z:Vec→Prop}:GR p D Z [] N True:=⟨by simp,by simp,by simp⟩
theorem GR.app{p:Int}{D N M:Nat}{Z:Vec→Prop}{L L':Mx}{C C':Prop}(h:GR p D Z L N C)(h':GR p D Z L' M C'):GR p D Z (L++L') (N+M) (C∧C'):=by
 refine⟨by have:=h.len;have:=h'.len;grind,fun r hr=>?_,?_⟩
 ·rcases Jh.1 hr with g|g
  ·exact h.row r g
  ·exact h'.row r g
 ·rw[←h.iff,←h'.iff]
  grind
theorem GR.one{p:Int}{D:Nat}{Z:Vec→Prop}{r:List Int}{C:Prop}(hr:Row p D r)(h:Z r↔C):GR p D Z [r] 1 C:=
 ⟨by simp,by grind,by grind⟩
theorem GR.to{p:Int}{D N M:Nat}{Z:Vec→Prop}{L:Mx}{C C':Prop}(h:GR p D Z L N C)(hN:N≤M)(hc:C↔C'):GR p D Z L M C':=⟨by have:=h.len;omega,h.row,h.iff.trans hc⟩
def c1E(e:SPr)(k j:Nat):Prop:=pw (mul (suf e (k+1))) (zeros (suf e (k+1)).length) ((lvl e k).cs.getD (j-(k+1)) []) (at0 e.zA j).toNat=sig (suf e (k+1)) (lvl e k) ((e.zR.getD j []).drop (k+1))
def c2E(e:SPr)(k i j:Nat):Prop:=mul (suf e (k+1)) ((lvl e k).cs.getD (j-(k+1)) []) ((lvl e k).cs.getD (i-(k+1)) [])=mul (suf e (k+1)) ((lvl e k).cs.getD (i-(k+1)) []) (sig (suf e (k+1)) (lvl e k) (((e.zE.getD i []).getD (j-(i+1)) []).drop (k+1)))
def c4E(e:SPr)(k j:Nat):Prop:=mul (suf e (k+1)) (lvl e k).w (iter (lvl e k).o.toNat (sig (suf e (k+1)) (lvl e k)) (xP (e.zA.length-(k+1)) (j-(k+1))))=mul (suf e (k+1)) (xP (e.zA.length-(k+1)) (j-(k+1))) (lvl e k).w
def c1Q(Q:Nat→Vec→Vec→Prop)(e:SPr)(k j:Nat):Prop:=Q (k+1) (pw (mul (suf e (k+1))) (zeros (suf e (k+1)).length) ((lvl e k).cs.getD (j-(k+1)) []) (at0 e.zA j).toNat) (sig (suf e (k+1)) (lvl e k) ((e.zR.getD j []).drop (k+1)))
def c2Q(Q:Nat→Vec→Vec→Prop)(e:SPr)(k i j:Nat):Prop:=Q (k+1) (mul (suf e (k+1)) ((lvl e k).cs.getD (j-(k+1)) []) ((lvl e k).cs.getD (i-(k+1)) [])) (mul (suf e (k+1)) ((lvl e k).cs.getD (i-(k+1)) []) (sig (suf e (k+1)) (lvl e k) (((e.zE.getD i []).getD (j-(i+1)) []).drop (k+1))))
def c4Q(Q:Nat→Vec→Vec→Prop)(e:SPr)(k j:Nat):Prop:=Q (k+1) (mul (suf e (k+1)) (lvl e k).w (iter (lvl e k).o.toNat (sig (suf e (k+1)) (lvl e k)) (xP (e.zA.length-(k+1)) (j-(k+1))))) (mul (suf e (k+1)) (xP (e.zA.length-(k+1)) (j-(k+1))) (lvl e k).w)
structure LCQ (Q:Nat→Vec→Vec→Prop) (x e:SPr) (k:Nat):Prop where
 c1:∀j,k+1≤j→j<x.zA.length→c1Q Q e k j
 c2:∀i,k+1≤i→i<x.zA.length→ ∀j,i+1≤j→j<x.zA.length→c2Q Q e k i j
 c3:Q (k+1) (sig (suf e (k+1)) (lvl e k) (lvl e k).w) (lvl e k).w
 c4:∀j,k+1≤j→j<x.zA.length→c4Q Q e k j
section
variable {D:Nat}{x:SPr}{m0 m:zF}{T:Mx} (h:Pres x) (hE:ExB x.zA.length D x m T) (hT:∀i,i<T.length→Row m.Prime D (T.getD i []))
 include h hE hT
theorem zCa{k:Nat}(hk:k≤x.zA.length){a b:Vec}(ha:V (suf (exx D x m T) k) a)(hb:V (suf (exx D x m T) k) b):(mul (suf (exx D x m T) k) a b).take (x.zA.length-k)=mul (suf x k) (a.take (x.zA.length-k)) (b.take (x.zA.length-k)):=by grind[zKq]
theorem zEf{k:Nat}(hk:k<x.zA.length){v:Vec}(hv:V (suf (exx D x m T) (k+1)) v):(sig (suf (exx D x m T) (k+1)) (lvl (exx D x m T) k) v).take (x.zA.length-(k+1))=sig (suf x (k+1)) (lvl x k) (v.take (x.zA.length-(k+1))):=
 by grind[zMm,zKq]
theorem zFH{k:Nat}(hk:k<x.zA.length){v:Vec}(hv:V (suf (exx D x m T) (k+1)) v):V (suf (exx D x m T) (k+1)) (sig (suf (exx D x m T) (k+1)) (lvl (exx D x m T) k) v):=by
 have gB:=uH h hE hT (k:=k) (by omega);rw[yG (x:=exx D x m T) (by grind[wG])]at gB
 grind[zCA]
theorem zKt{k:Nat}(hk:k<x.zA.length):∀(q:Nat){v:Vec},V (suf (exx D x m T) (k+1)) v→(iter q (sig (suf (exx D x m T) (k+1)) (lvl (exx D x m T) k)) v).take (x.zA.length-(k+1))=iter q (sig (suf x (k+1)) (lvl x k)) (v.take (x.zA.length-(k+1)))
 |0,_,_=>rfl
 |q+1,v,hv=>by have:=zKt hk q (zFH h hE hT hk hv);rw[zEf h hE hT hk hv]at this;exact this
theorem zVM{k:Nat}(hk:k≤x.zA.length):(zeros (suf (exx D x m T) k).length).take (x.zA.length-k)=zeros (suf x k).length:=by grind[zBe,yC,yP]
theorem zWX{k:Nat}(hk:k≤x.zA.length){c:Vec}(hc:V (suf (exx D x m T) k) c)(q:Nat):(pw (mul (suf (exx D x m T) k)) (zeros (suf (exx D x m T) k).length) c q).take (x.zA.length-k)=pw (mul (suf x k)) (zeros (suf x k).length) (c.take (x.zA.length-k)) q:=by have ok:=uH h hE hT (k:=k) (by omega);have:=zEO (S:=V (suf (exx D x m T) k)) (n:=mul (suf x k)) (·.take (x.zA.length-k)) (fun a b=>xK ok) (by grind[zCa]) [c] [(q:Int)] (zeros (suf (exx D x m T) k).length) (by grind) (wO ok);simp only[Js,He,img,J9]at this;rw[zVM h hE hT hk]at this;exact this
section
variable {k:Nat} (hk:k<x.zA.length)
 include hk
theorem zJw{j:Nat}(h1:k+1≤j)(h2:j<x.zA.length):((lvl (exx D x m T) k).cs.getD (j-(k+1)) []).take (x.zA.length-(k+1))=(lvl x k).cs.getD (j-(k+1)) []:=by rw[zHY h hE hT hk h1 h2,Jo (vC h (by omega) (kW h hk h1 h2).2.2)]
theorem zIc{j:Nat}(h1:k≤j)(h2:j<x.zA.length):(((exx D x m T).zR.getD j []).drop (k+1)).take (x.zA.length-(k+1))=(x.zR.getD j []).drop (k+1):=by
 have t1:=(h.tl j h2).1.1.1
 grind[zEd]
theorem zTf{i j:Nat}(h1:k+1≤i)(h2:i<j)(h3:j<x.zA.length):((((exx D x m T).zE.getD i []).getD (j-(i+1)) []).drop (k+1)).take (x.zA.length-(k+1))=((x.zE.getD i []).getD (j-(i+1)) []).drop (k+1):=by rw[zFG h hE hT (by omega) h2 h3,Jo (vC h (by omega) (zSD h hk h1 h2 h3).2.2)]
theorem zTg{j:Nat}(h1:k+1≤j)(h2:j<x.zA.length):xP ((exx D x m T).zA.length-(k+1)) (j-(k+1))=xP (x.zA.length-(k+1)) (j-(k+1))++zeros D:=by
 rw[wG h hE hT,zAs (by omega),zAs (by omega),Jd,Jy]
 grind[zeros,Jn]
end
variable (hM:Mv D x.zA.length m0 m) {Z:Vec→Prop}{Q:Nat→Vec→Vec→Prop} (hZ:∀k,k≤x.zA.length→ ∀a b,V (suf (exx D x m T) k) a→V (suf (exx D x m T) k) b→a.take (x.zA.length-k)=b.take (x.zA.length-k)→(Z (tU m.Prime D (a.drop (x.zA.length-k)) (-1) (b.drop (x.zA.length-k)))↔Q k a b))
 include hM hZ
theorem zKu{k:Nat}(hk:k≤x.zA.length){a b:Vec}(ha:V (suf (exx D x m T) k) a)(hb:V (suf (exx D x m T) k) b)(e:a.take (x.zA.length-k)=b.take (x.zA.length-k)):∃r,zMN ⟨x,m0,T⟩ (prE x k a) (prE x k b)=iz r∧Row m.Prime D r∧(Z r↔Q k a b):=by
 have h7:=hE.m.p.pos;have h3:=hE.m.d3;obtain⟨y,u,rfl,hy,hu,cB,ez⟩:=prV h hE hT hk ha;obtain⟨z,v,rfl,hz,hv,u8,mC⟩:=prV h hE hT hk hb;have mE:=hZ k hk _ _ ha hb e;rw[K8 ez,K8 mC]at mE;unfold zMN;rw[cB,u8];dsimp only
 rw[hM.pr,zC (by omega) (by omega),bs,tW hE.m.p hu hv (by omega) (by omega),bs,zEa];exact⟨_,rfl,zAE hE.m.p,mE⟩
section
variable {k:Nat} (hk:k<x.zA.length) (hc:LC x k)
 include hk
 include hc
theorem yBB{j:Nat}(h1:k+1≤j)(h2:j<x.zA.length){L0 L:Mx}{N:Nat}{C:Prop}(hL:GR m.Prime D Z L N C)(hN:N≤1000){f:Mx→Option (Mx×Int⊕Mx)}:∃L',((zML ⟨x,m0,T⟩).bind fun r2=>
  (zH (zRf ⟨x,m0,T⟩ (k:Int) (L0,(j:Int))) (r2.x,r2.v,0)).bind fun r8=>
  (zOw ⟨x,m0,T⟩ (j:Int)).bind fun r9=>
  (f_i ⟨x,m0,T⟩ (k:Int) r9).bind fun r10=>
  (zMN ⟨x,m0,T⟩ (zJ.mk r8.1 r8.2) r10).bind fun r11=>
  (xI L [r11]).bind f)=f L'∧GR m.Prime D Z L' (N+1) (C∧c1Q Q (exx D x m T) k j):=by
 have ok:=uH h hE hT (k:=k+1) (by omega);have hn:=hE.hn;have hp:=(h.os.2 j h2).pos;have hz:=wO ok;obtain⟨c1,c2⟩:=zER h hE hT (k:=k) (j:=j) (by omega) h2;obtain⟨p1,p2⟩:=zKr h hE hT (k:=k) (j:=j) (by omega) h2;have hA:=zIb h hE hT hM (k:=k+1) (by omega);have hI:=zAT h hE hT hM hk;have i3:zH (zRf ⟨x,m0,T⟩ (k:Int) (L0,(j:Int))) ((prE x (k+1) (zeros (suf (exx D x m T) (k+1)).length)).x,(prE x (k+1) (zeros (suf (exx D x m T) (k+1)).length)).v,0)=iz ((prE x (k+1) (pw (mul (suf (exx D x m T) (k+1))) (zeros (suf (exx D x m T) (k+1)).length) ((lvl (exx D x m T) k).cs.getD (j-(k+1)) []) (at0 x.zA j).toNat)).x,(prE x (k+1) (pw (mul (suf (exx D x m T) (k+1))) (zeros (suf (exx D x m T) (k+1)).length) ((lvl (exx D x m T) k).cs.getD (j-(k+1)) []) (at0 x.zA j).toNat)).v):=
  zBZ (S:=V (suf (exx D x m T) (k+1))) (fun w=>(prE x (k+1) w).x) (fun w=>(prE x (k+1) w).v) (fun w=>mul (suf (exx D x m T) (k+1)) w ((lvl (exx D x m T) k).cs.getD (j-(k+1)) [])) (at0 x.zA j) (by omega) (by grind[xK]) (fun w q hw hq=>by
   unfold zRf;dsimp only
   rw[yQ h2,bs,iE hq,zM,zC (by omega) (by omega),bs,c1,bs,cs,show(zJ.mk (prE x (k+1) w).x (prE x (k+1) w).v)=prE x (k+1) w from rfl,hA w _ hw c2,bs,zC (by omega) (by omega),bs,cs]) (fun w hw=>by
   simp_all[zRf,yQ]) hz
 have u7:V (suf (exx D x m T) (k+1)) (pw (mul (suf (exx D x m T) (k+1))) (zeros (suf (exx D x m T) (k+1)).length) ((lvl (exx D x m T) k).cs.getD (j-(k+1)) []) (at0 x.zA j).toNat):=vO (by grind[xK]) _ hz;obtain⟨r,r1,r2,r3⟩:=zKu h hE hT hM hZ (k:=k+1) (by omega) u7 (zFH h hE hT hk p2) (by rw[zWX h hE hT (by omega) c2,zEf h hE hT hk p2,zJw h hE hT hk h1 h2,zIc h hE hT hk (by omega) h2];exact hc.c1 j h1 h2)
 have i4:=hL.len;refine⟨L++[r],?_,hL.app (GR.one r2 (r3.trans ?_))⟩
 ·rw[zKs h hE hT (k:=k+1) (by omega) (by omega),bs,i3,bs,p1,bs,hI _ p2,bs]
  dsimp only
  rw[r1,bs,yE (by simp;omega),bs]
 ·unfold c1Q;rw[tG h hE hT h2]
theorem yBC{j:Nat}(h1:k+1≤j)(h2:j<x.zA.length){L0 L:Mx}{N:Nat}{C:Prop}(hL:GR m.Prime D Z L N C)(hN:N≤1000):∃L',zH (zRg ⟨x,m0,T⟩ (k:Int) (L0,(j:Int))) (L,((j+1:Nat):Int))=iz L'∧GR m.Prime D Z L' (N+(x.zA.length-(j+1))) (C∧ ∀j2,j+1≤j2→j2<x.zA.length→c2Q Q (exx D x m T) k j j2):=by
 have ok:=uH h hE hT (k:=k+1) (by omega);have hn:=hE.hn;have hA:=zIb h hE hT hM (k:=k+1) (by omega);have hI:=zAT h hE hT hM hk;refine tL (fun i(s:Mx×Int)=>s.2=((j+1+i:Nat):Int)∧GR m.Prime D Z s.1 (N+i) (C∧ ∀j2,j+1≤j2→j2<j+1+i→c2Q Q (exx D x m T) k j j2)) (x.zA.length-(j+1)) (fun i s hi ⟨hs,hg⟩=>?_) (fun s ⟨hs,hg⟩=>?_) ⟨rfl,hL.to (by omega) (by grind)⟩
 ·left
  obtain⟨L1,s2⟩:=s;dsimp only at hs hg;subst hs;have g2:j+1+i<x.zA.length:=by omega
  obtain⟨a1,a2⟩:=zER h hE hT (k:=k) (j:=j) (by omega) h2;obtain⟨b1,b2⟩:=zER h hE hT (k:=k) (j:=j+1+i) (by omega) g2;obtain⟨d1,d2⟩:=zP8 h hE hT (k:=k) (i:=j) (j:=j+1+i) (by omega) (by omega) g2;have hs:=zFH h hE hT hk d2;obtain⟨r,r1,r2,r3⟩:=zKu h hE hT hM hZ (k:=k+1) (by omega) (xK ok b2 a2) (xK ok a2 hs) (by rw[zCa h hE hT (by omega) b2 a2,zCa h hE hT (by omega) a2 hs,zEf h hE hT hk d2,zJw h hE hT hk h1 h2,zJw h hE hT hk (by omega) g2,zTf h hE hT hk h1 (by omega) g2];exact hc.c2 j h1 h2 (j+1+i) (by omega) g2)
  have i4:=hg.len;refine⟨(L1++[r],((j+1+i+1:Nat):Int)),?_,rfl,(hg.app (GR.one r2 r3)).to (by omega) ?_⟩
  ·unfold zRg
   dsimp only
   rw[iE (by omega),zM,a1,bs,b1,bs,d1,bs,hI _ d2,bs,zC (by omega) (by omega),bs,cs,hA _ _ b2 a2,bs,bs,hA _ _ a2 hs,bs,r1,bs,yE (by simp;omega),bs,zC (by omega) (by omega),bs,cs]
  ·constructor
   ·rintro⟨⟨g1,g3⟩,g4⟩
    refine⟨g1,fun j2 e1 e2=>?_⟩;rcases Jj j2 (j+1+i)with e|e
    ·grind
    ·obtain rfl:j2=j+1+i:=by omega
     exact g4
   ·rintro⟨g1,g3⟩
    exact⟨by grind,g3 (j+1+i) (by omega) (by omega)⟩
 ·obtain⟨L1,s2⟩:=s
  dsimp only at hs hg;subst hs;refine⟨L1,?_,hg.to (Jl _) ?_⟩
  ·unfold zRg
   grind
  grind
theorem yBD:∃L',zH (zUJ ⟨x,m0,T⟩ (k:Int)) ([],((k+1:Nat):Int))=iz L'∧GR m.Prime D Z L' 100 (∀j,k+1≤j→j<x.zA.length→c1Q Q (exx D x m T) k j∧ ∀j2,j+1≤j2→j2<x.zA.length→c2Q Q (exx D x m T) k j j2):=by
 have hn:=hE.hn;refine tL (fun i(s:Mx×Int)=>s.2=((k+1+i:Nat):Int)∧GR m.Prime D Z s.1 (7*i) (∀j,k+1≤j→j<k+1+i→c1Q Q (exx D x m T) k j∧ ∀j2,j+1≤j2→j2<x.zA.length→c2Q Q (exx D x m T) k j j2)) (x.zA.length-(k+1)) (fun i s hi ⟨hs,hg⟩=>?_) (fun s ⟨hs,hg⟩=>?_) ⟨rfl,(GR.nil (N:=0)).to (by omega) (by grind)⟩
 ·left
  obtain⟨L1,s2⟩:=s;dsimp only at hs hg;subst hs;have g2:k+1+i<x.zA.length:=by omega
  obtain⟨L2,e2,hg2⟩:=yBB h hE hT hM hZ hk hc (j:=k+1+i) (by omega) g2 (L0:=L1) hg (by omega) (f:=fun v12=>(rng (((k+1+i:Nat):Int)+1)).bind fun v13=>
   (zH (zRg ⟨x,m0,T⟩ (k:Int) (L1,((k+1+i:Nat):Int))) (v12,v13)).bind fun r25=>
   (rng (((k+1+i:Nat):Int)+1)).bind fun v26=>iz (.inl (r25,v26)))
  obtain⟨L3,e3,hg3⟩:=yBC h hE hT hM hZ hk hc (j:=k+1+i) (by omega) g2 (L0:=L1) hg2 (by omega);refine⟨(L3,((k+1+i+1:Nat):Int)),?_,rfl,hg3.to (by omega) ?_⟩
  ·unfold zUJ
   dsimp only
   rw[iE (by omega),zM,e2,zC (by omega) (by omega),bs,cs,e3,bs,bs]
  grind
 ·obtain⟨L1,s2⟩:=s
  dsimp only at hs hg;subst hs;refine⟨L1,?_,hg.to (by omega) ?_⟩
  ·unfold zUJ
   grind
  grind
theorem zTh{j:Nat}(h1:k+1≤j)(h2:j<x.zA.length):∃r,zML ⟨x,m0,T⟩=iz r∧ixO r.x (j:Int)=iz 0∧r.x.set j 1=(prE x (k+1) (xP (x.zA.length-(k+1)) (j-(k+1))++zeros D)).x∧r.v=(prE x (k+1) (xP (x.zA.length-(k+1)) (j-(k+1))++zeros D)).v:=by
 have _:=hM;have _:=hZ;have _:=hc;have hn:=hE.hn;have eY:(xP (x.zA.length-(k+1)) (j-(k+1))).length=x.zA.length-(k+1):=by rw[zAa,yA]
 refine⟨_,zKs h hE hT (k:=k+1) (by omega) (by omega),?_,?_,?_⟩
 ·rw[zBe h hE hT (by omega),qW (yC _)]
  dsimp only
  simp only[fv,zeros,Jn];rw[vP,Ke,if_pos (by omega)]
 ·rw[zBe h hE hT (by omega),qW (yC _),qW eY]
  dsimp only
  have e1:fv (k+1) (zeros (x.zA.length-(k+1)))=zeros j++0::zeros (x.zA.length-(k+1)-(j-(k+1)+1)):=by
   simp only[fv,zeros];rw[←Jq,Jn,Jn]
   grind
  rw[e1,zD8,fv,zAs (by omega),←Jd]
  grind[zeros,Jn]
 grind[zBe,qW,yC]
theorem yBE{L:Mx}{N:Nat}{C:Prop}(hL:GR m.Prime D Z L N C)(hN:N≤1000):∃L',zH (zRh ⟨x,m0,T⟩ (k:Int) (prE x (k+1) (((exx D x m T).zR.getD k []).drop (k+1)))) (L,((k+1:Nat):Int))=iz L'∧GR m.Prime D Z L' (N+(x.zA.length-(k+1))) (C∧ ∀j,k+1≤j→j<x.zA.length→c4Q Q (exx D x m T) k j):=by
 have hn:=hE.hn;have hpk:=(h.os.2 k hk).pos;have h7:=hE.m.p.pos;have ok:=uH h hE hT (k:=k+1) (by omega);have hA:=zIb h hE hT hM (k:=k+1) (by omega);have hI:=zAT h hE hT hM hk;obtain⟨p1,p2⟩:=zKr (m0:=m0) h hE hT (k:=k) (j:=k) (Jl k) hk;change V (suf (exx D x m T) (k+1)) (lvl (exx D x m T) k).w at p2;change∃L',zH (zRh ⟨x,m0,T⟩ (k:Int) (prE x (k+1) (lvl (exx D x m T) k).w)) (L,((k+1:Nat):Int))=iz L'∧_;have dA:(lvl (exx D x m T) k).w.take (x.zA.length-(k+1))=(lvl x k).w:=zIc h hE hT hk (Jl k) hk;have ho:(lvl (exx D x m T) k).o=at0 x.zA k:=zB5 h hE hT hk;refine tL (fun i(s:Mx×Int)=>s.2=((k+1+i:Nat):Int)∧GR m.Prime D Z s.1 (N+i) (C∧ ∀j,k+1≤j→j<k+1+i→c4Q Q (exx D x m T) k j)) (x.zA.length-(k+1)) (fun i s hi ⟨hs,hg⟩=>?_) (fun s ⟨hs,hg⟩=>?_) ⟨rfl,hL.to (by omega) (by grind)⟩
 ·left
  obtain⟨L1,s2⟩:=s;dsimp only at hs hg;subst hs;have g2:k+1+i<x.zA.length:=by omega
  obtain⟨r33,z1,z2,z3,z4⟩:=zTh h hE hT hM hZ hk hc (j:=k+1+i) (by omega) g2;have hue:=zTg h hE hT hk (j:=k+1+i) (by omega) g2;have hux:V (suf x (k+1)) (xP (x.zA.length-(k+1)) (k+1+i-(k+1))):=by
   have:=zC9 (h.okAt (k:=k+1) (by omega)) (j:=k+1+i-(k+1)) (by grind[yP])
   grind[yP]
  have eY:=vC h (by omega) hux;have bK:V (suf (exx D x m T) (k+1)) (xP (x.zA.length-(k+1)) (k+1+i-(k+1))++zeros D):=(sQ h hE hT (x.zA.length-(k+1)) (k+1) (by omega) _).2 ⟨_,_,rfl,hux,xS (by omega)⟩;have e6:V (suf (exx D x m T) (k+1)) (iter (at0 x.zA k).toNat (sig (suf (exx D x m T) (k+1)) (lvl (exx D x m T) k)) (xP (x.zA.length-(k+1)) (k+1+i-(k+1))++zeros D)):=vO (fun w hw=>zFH h hE hT hk hw) _ bK;have i3:zH (zUK ⟨x,m0,T⟩ (k:Int)) ((prE x (k+1) (xP (x.zA.length-(k+1)) (k+1+i-(k+1))++zeros D)).x,(prE x (k+1) (xP (x.zA.length-(k+1)) (k+1+i-(k+1))++zeros D)).v,0)=iz ((prE x (k+1) (iter (at0 x.zA k).toNat (sig (suf (exx D x m T) (k+1)) (lvl (exx D x m T) k)) (xP (x.zA.length-(k+1)) (k+1+i-(k+1))++zeros D))).x,(prE x (k+1) (iter (at0 x.zA k).toNat (sig (suf (exx D x m T) (k+1)) (lvl (exx D x m T) k)) (xP (x.zA.length-(k+1)) (k+1+i-(k+1))++zeros D))).v):=
   zBZ (S:=V (suf (exx D x m T) (k+1))) (fun w=>(prE x (k+1) w).x) (fun w=>(prE x (k+1) w).v) (sig (suf (exx D x m T) (k+1)) (lvl (exx D x m T) k)) (at0 x.zA k) (by omega) (fun w hw=>zFH h hE hT hk hw) (fun w q hw hq=>by
    unfold zUK;dsimp only
    rw[yQ hk,bs,iE hq,zM,show(zJ.mk (prE x (k+1) w).x (prE x (k+1) w).v)=prE x (k+1) w from rfl,hI w hw,bs,zC (by omega) (by omega),bs,cs]) (fun w hw=>by
    simp_all[zUK,yQ]) bK
  obtain⟨r,r1,r2,r3⟩:=zKu h hE hT hM hZ (k:=k+1) (by omega) (xK ok p2 e6) (xK ok bK p2) (by rw[zCa h hE hT (by omega) p2 e6,zCa h hE hT (by omega) bK p2,zKt h hE hT hk _ bK,dA,Jo eY];exact hc.c4 (k+1+i) (by omega) g2)
  have i4:=hg.len;refine⟨(L1++[r],((k+1+i+1:Nat):Int)),?_,rfl,(hg.app (GR.one r2 r3)).to (by omega) ?_⟩
  ·unfold zRh
   dsimp only
   rw[iE (by omega),zM,z1,bs,z2,bs,J9,z3,z4,i3,bs,zC (by omega) (by omega),bs,cs];dsimp only
   have e1:=hA _ _ p2 e6;have e2:=hA _ _ bK p2;rw[show∀w,(zJ.mk (prE x (k+1) w).x (prE x (k+1) w).v)=prE x (k+1) w from fun _=>rfl,show∀w,(zJ.mk (prE x (k+1) w).x (prE x (k+1) w).v)=prE x (k+1) w from fun _=>rfl,e1,bs,bs,e2,bs,r1,bs,yE (by simp;omega),bs,zC (by omega) (by omega),bs,cs]
  ·have e4:c4Q Q (exx D x m T) k (k+1+i)↔Q (k+1) (mul (suf (exx D x m T) (k+1)) (lvl (exx D x m T) k).w (iter (at0 x.zA k).toNat (sig (suf (exx D x m T) (k+1)) (lvl (exx D x m T) k)) (xP (x.zA.length-(k+1)) (k+1+i-(k+1))++zeros D))) (mul (suf (exx D x m T) (k+1)) (xP (x.zA.length-(k+1)) (k+1+i-(k+1))++zeros D) (lvl (exx D x m T) k).w):=by
    grind[c4Q]
   rw[←e4];constructor
   ·grind
   grind
 ·obtain⟨L1,s2⟩:=s
  dsimp only at hs hg;subst hs;refine⟨L1,?_,hg.to (Jl _) ?_⟩
  ·unfold zRh
   grind
  grind
theorem zY2:∃L,f_m ⟨x,m0,T⟩ (k:Int)=iz L∧GR m.Prime D Z L 120 (LCQ Q x (exx D x m T) k):=by
 have hn:=hE.hn;have hI:=zAT h hE hT hM hk;obtain⟨p1,p2⟩:=zKr h hE hT (k:=k) (j:=k) (Jl k) hk;obtain⟨L1,e1,g1⟩:=yBD h hE hT hM hZ hk hc;have hs:=zFH h hE hT hk p2;obtain⟨r,r1,r2,r3⟩:=zKu h hE hT hM hZ (k:=k+1) (by omega) hs p2 (by rw[zEf h hE hT hk p2,zIc h hE hT hk (Jl k) hk];exact hc.c3)
 obtain⟨L2,e2,g2⟩:=yBE h hE hT hM hZ hk hc (g1.app (GR.one r2 r3)) (by omega);have i4:=g1.len;refine⟨L2,?_,g2.to (by omega) ?_⟩
 ·unfold f_m
  rw[zC (by omega) (by omega),bs,cs,e1,bs,p1,bs,hI _ p2,bs,r1,bs,yE (by simp;omega),bs,bs,e2,bs]
 ·constructor
  ·rintro⟨⟨a1,a2⟩,a3⟩
   exact⟨by grind,by grind,a2,a3⟩
  ·intro a
   exact⟨⟨fun j b1 b2=>⟨a.c1 j b1 b2,fun j2 b3 b4=>a.c2 j b1 b2 j2 b3 b4⟩,a.c3⟩,a.c4⟩
end
theorem zY3(hx:wQ (suf x 0)):∃L,f_O ⟨x,m0,T⟩=iz L∧GR m.Prime D Z L 1000 (∀k,k<x.zA.length→LCQ Q x (exx D x m T) k):=by
 have hn:=hE.hn;have h3:=hE.m.d3;have bm:∀k,k<x.zA.length→LC x k:=fun k hk=>((zAD h.w hk).1 (zBz hx k)).2
 obtain⟨L,e,g⟩:=tL (body:=zRi ⟨x,m0,T⟩) (Q:=fun L=>GR m.Prime D Z L 1000 (∀k,k<x.zA.length→LCQ Q x (exx D x m T) k)) (fun i(s:Mx×Int)=>s.2=(i:Int)∧GR m.Prime D Z s.1 (120*i) (∀k,k<i→LCQ Q x (exx D x m T) k)) x.zA.length (fun i s hi ⟨hs,hg⟩=>by
  left;obtain⟨L1,s2⟩:=s;dsimp only at hs hg;subst hs;obtain⟨L2,e2,g2⟩:=zY2 h hE hT hM hZ hi (bm i hi);have l1:=hg.len;have l2:=g2.len;refine⟨(L1++L2,((i+1:Nat):Int)),?_,rfl,(hg.app g2).to (by omega) ?_⟩
  ·unfold zRi
   dsimp only
   rw[yY hi,zM,e2,bs,yE (by omega),bs,zC (by omega) (by omega),bs,cs]
  grind) (fun s ⟨hs,hg⟩=>by
  obtain⟨L1,s2⟩:=s;dsimp only at hs hg;subst hs;refine⟨L1,?_,hg.to (by omega) Iff.rfl⟩
  simp_all[zRi]) (s:=([],0)) ⟨rfl,(GR.nil (N:=0)).to (by omega) (by simp)⟩
 grind[f_O]
end
end Go.Pl

namespace Go.Pl
open Go Go.Ab Go.Wk Go.Pc
end Go.Pl

namespace Go.Pl
open Go Go.Ab Go.Wk Go.Pc
end Go.Pl

namespace Go.Pl
open Go Go.Ab Go.Wk Go.Pc
theorem zTi{x:SPr}(h:Pres x)(h6:x.zA.length≤6):(tC x).length=base x.zA.length x.zA.length:=by
 have h1:=zQ4 h;have key:∀n:Nat,n<7→2*base n n=n*(n+1):=by decide
 have h2:=key x.zA.length (by omega);omega
abbrev zP9(x:SPr)(m:zF)(D:Nat):Mx:=zMh (x.zA.length*D) (fun k=>dfc m D (uv x.zA.length D k)) (tC x)
section
variable {x:SPr}{m:zF}{D:Nat} (hx:zCk x) (hD:MOk x.zA.length m D)
 include hx hD
theorem zNP:∃R pv,zUQ x m=iz R∧zUR x m=iz (zP9 x m D)∧f_j m.Prime (zP9 x m D)=iz R∧Red m.Prime (base x.zA.length x.zA.length*D) R pv∧R.length≤63∧base x.zA.length x.zA.length*D≤63:=by have h6:=hx.n6;have h3:=hD.d3;have hb:=wT x.zA.length (by omega);have hl:=zTi hx.toPres h6;have cQ:x.zA.length*D≤6*3:=K1 h6 h3;have d5:base x.zA.length x.zA.length*D≤21*3:=K1 hb.2.1 h3;have pM:(zP9 x m D).length=x.zA.length*D:=xD;obtain⟨R,pv,r1,r2,r3,_⟩:=kZ hD.p (n:=(tC x).length*D) (by rw[hl];omega) (rows:=zP9 x m D) (by omega) (by rw[pM];exact zQ5 (zYu hx.toPres hD) (tC x));rw[hl]at r3;have hR:=r3.len_le;refine⟨R,pv,?_,zGp hx.toPres hD,r2,r3,by omega,d5⟩;unfold zUQ;rw[zMi hx.toPres hD,bs,r1,bs]
end
end Go.Pl

namespace Go.Pl
open Go Go.Ab Go.Wk Go.Pc
end Go.Pl

namespace Go.Pl
open Go Go.Ab Go.Wk Go.Pc
end Go.Pl

namespace Go.Pl
open Go Go.Ab Go.Wk Go.Pc
end Go.Pl

namespace Go.Pl
open Go Go.Ab Go.Wk Go.Pc
abbrev zEg:=Nat×List Nat×List Nat
section
variable (x:SPr)
abbrev yK(a:Nat):Nat:=(at0 x.zA a).toNat
abbrev lcj(i j:Nat):List Int:=(x.zE.getD i []).getD (j-(i+1)) []
def swp:List Nat→Option zEg
 |a::b::s=>if b<a then iz (base x.zA.length b+(a-(b+1)),s,b::(nw 0 (lcj x b a)++s))else iA
 |_=>iA
def pws:List Nat→Option zEg
 |a::w=>if(a::w).take (yK x a)=J0 (yK x a) a then iz (a,(a::w).drop (yK x a),nw 0 (x.zR.getD a [])++(a::w).drop (yK x a))else iA
 | []=>iA
def hdS(w:List Nat):Option zEg:=match swp x w with
 |some r=>iz r
 |none=>pws x w
def stS:List Nat→Option zEg
 | []=>iA
 |a::w=>match hdS x (a::w)with
  |some r=>iz r
  |none=>(stS w).map fun r=>(r.1,r.2.1,a::r.2.2)
end
section
variable {x:SPr}
theorem zVN{w s:List Nat}{r:zEg}(h:swp x w=iz r):swp x (w++s)=iz (r.1,r.2.1++s,r.2.2++s):=by
 match w,h with
 | [],h=>cases h
 | [_],h=>cases h
 |a::b::w,h=>
  simp only[swp]at h
  by_cases g:b<a
  ·rw[if_pos g]at h
   cases h;simp only[Jy,swp,if_pos g,Jd]
  ·rw[if_neg g]at h;cases h
theorem zB6{w:List Nat}{o a:Nat}(h:w.take o=J0 o a):o≤w.length:=by have:=congrArg Jbl h;rw[Jz,J8]at this;omega
theorem zVO{w s:List Nat}{r:zEg}(h:pws x w=iz r):pws x (w++s)=iz (r.1,r.2.1++s,r.2.2++s):=by
 match w,h with
 | [],h=>cases h
 |a::w,h=>
  simp only[pws]at h
  by_cases g:(a::w).take (yK x a)=J0 (yK x a) a
  ·rw[if_pos g]at h
   cases h;have hl:=zB6 g;have e1:(a::(w++s)).take (yK x a)=(a::w).take (yK x a):=by rw[←Jy,Ga hl]
   have e2:(a::(w++s)).drop (yK x a)=(a::w).drop (yK x a)++s:=by rw[←Jy,Kg hl]
   simp only[Jy,pws];rw[if_pos (by rw[e1,g]),e2,Jd]
  ·rw[if_neg g]at h;cases h
theorem zES{a b:Nat}{s s2:List Nat}(h:swp x (a::b::s)=iA):swp x (a::b::s2)=iA:=by
 simp only[swp]at h ⊢
 by_cases g:b<a
 ·rw[if_pos g]at h;cases h
 ·rw[if_neg g]
theorem zPA{w:List Nat}(h:hdS x w=iA):swp x w=iA∧pws x w=iA:=by
 unfold hdS at h;cases e:swp x w with
 |some r=>rw[e]at h;cases h
 |none=>rw[e]at h;exact⟨rfl,h⟩
theorem zTj{w:List Nat}(h1:swp x w=iA)(h2:pws x w=iA):hdS x w=iA:=by unfold hdS;rw[h1];exact h2
theorem zY4{w s:List Nat}(hw:∀a∈w,2≤yK x a){r:zEg}(h:hdS x w=iz r):hdS x (w++s)=iz (r.1,r.2.1++s,r.2.2++s):=by
 unfold hdS at h ⊢
 cases e:swp x w with
 |some q=>
  rw[e]at h;cases h;rw[zVN e]
 |none=>
  rw[e]at h;have e2:swp x (w++s)=iA:=by
   match w,h with
   | [],h=>cases h
   | [a],h=>
    have h2:=hw a (by simp);simp only[pws]at h
    by_cases g:[a].take (yK x a)=J0 (yK x a) a
    ·have h4:=zB6 g;simp only[J6,Jg]at h4;omega
    ·rw[if_neg g]at h;cases h
   |a::b::w,h=>exact zES e
  rw[e2];exact zVO h
theorem zEh{k a:Nat}(hk:k<yK x a):∀j,j≤k→ ∀{w:List Nat},(∀b,w.head? =iz b→a<b)→stS x (J0 j a++w)=(stS x w).map fun r=>(r.1,r.2.1,J0 j a++r.2.2)
 |0,_,w,_=>by
  simp only[Ko,Ju];cases stS x w with
  |none=>rfl
  |some r=>rfl
 |j+1,hj,w,hw=>by
  have ih:=zEh hk j (by omega) hw;rw[Jq,Jy];have h1:swp x (a::(J0 j a++w))=iA:=by
   cases j with
   |succ j=>simp only[Jq,Jy,swp,if_neg (Jbw a)]
   |zero=>
    simp only[Ko,Ju];cases w with
    |nil=>rfl
    |cons b w=>
     have:=hw b rfl;simp only[swp,if_neg (show¬b<a by omega)]
  have h2:pws x (a::(J0 j a++w))=iA:=by
   simp only[pws];refine if_neg fun g=>?_
   have hl:=zB6 g;have:=congrArg (fun l=>l[j+1]?) g;rw[Ug (by omega),←Jy,←Jq,Jb (by simp),J8,Kd,Qs (by omega)]at this;have:=hw a (by rw[List.head?_eq_getElem?];exact this);omega
  simp only[stS];rw[zTj h1 h2,ih];cases stS x w with
  |none=>rfl
  |some r=>rfl
theorem zY5{k a:Nat}(hk:k<yK x a):stS x (J0 k a)=iA:=by have:=zEh hk k (Jl _) (w:=[]) (fun b h=>by cases h);simpa[stS]using this
theorem zKv:∀{u s:List Nat},(∀a∈u,2≤yK x a)→ ∀{r:zEg},stS x u=iz r→stS x (u++s)=iz (r.1,r.2.1++s,r.2.2++s)
 | [],_,_,_,h=>by cases h
 |a::w,s,hu,r,h=>by
  simp only[stS]at h;rw[Jy];simp only[stS];cases e:hdS x (a::w)with
  |some q=>
   rw[e]at h;cases h;have:=zY4 (s:=s) hu e;rw[Jy]at this;rw[this]
  |none=>
   rw[e]at h;cases e2:stS x w with
   |none=>rw[e2]at h;cases h
   |some q=>
    rw[e2]at h;cases h;obtain⟨n1,n2⟩:=zPA e;have m1:swp x (a::(w++s))=iA:=by
     cases w with
     |nil=>cases e2
     |cons b w=>exact zES n1
    have m2:pws x (a::(w++s))=iA:=by
     simp only[pws]at n2 ⊢
     refine if_neg fun g=>?_
     by_cases hl:yK x a≤(a::w).length
     ·rw[←Jy,Ga hl]at g
      rw[if_pos g]at n2;cases n2
     ·have:a::w=J0 (a::w).length a:=by
       have g':=congrArg (Jbh (a::w).length) g;rw[List.take_take,G8 (by omega),←Jy,Jo rfl,Jaw,G8 (by omega)]at g';exact g'
      have hw:w=J0 w.length a:=by rw[J6,Jq]at this;exact(Qt.inj this).2
      rw[hw,zY5 (by simp only[J6]at hl;omega)]at e2;cases e2
    rw[zTj m1 m2,zKv (s:=s) (fun b hb=>hu b (by simp[hb])) e2];rfl
theorem zGi{u s:List Nat}(hu:∀a∈u,2≤yK x a)(h:stS x (u++s)=iA):stS x u=iA:=by
 cases e:stS x u with
 |none=>rfl
 |some r=>rw[zKv hu e]at h;cases h
theorem zTk:∀{u:List Nat}{l i:Nat}{z:List Nat},(∀a∈u,i<a)→i<l→stS x (u++[l])=iA→stS x (u++l::i::z)=iz (base x.zA.length i+(l-(i+1)),z,u++i::(nw 0 (lcj x i l)++z))
 | [],l,i,z,_,hl,_=>by simp only[Ju,stS,hdS,swp,if_pos hl]
 |a::u,l,i,z,hu,hl,hn=>by
  rw[Jy]at hn ⊢
  simp only[stS]at hn ⊢
  cases e:hdS x (a::(u++[l]))with
  |some q=>rw[e]at hn;cases hn
  |none=>
   rw[e]at hn;have bg:stS x (u++[l])=iA:=by
    cases e2:stS x (u++[l])with
    |none=>rfl
    |some q=>rw[e2]at hn;cases hn
   obtain⟨n1,n2⟩:=zPA e;have m1:swp x (a::(u++l::i::z))=iA:=by
    cases u with
    |nil=>exact zES n1
    |cons b u=>exact zES n1
   have m2:pws x (a::(u++l::i::z))=iA:=by
    simp only[pws]at n2 ⊢
    refine if_neg fun g=>?_
    have ea:a::(u++l::i::z)=(a::(u++[l]))++i::z:=by simp
    by_cases ho:yK x a≤(a::(u++[l])).length
    ·rw[ea,Ga ho]at g
     rw[if_pos g]at n2;cases n2
    ·have g':=congrArg (fun w=>w[(a::(u++[l])).length]?) g
     rw[Ug (by omega),ea,Jb (Jl _),Kd,Qs (by omega)]at g';have:i=a:=by simpa using g'
     have:=hu a (by simp);omega
   rw[zTj m1 m2,zTk (fun b hb=>hu b (by simp[hb])) hl bg];rfl
theorem zWY{a:Nat}(ha:2≤yK x a)(w:List Nat):stS x (J0 (yK x a) a++w)=iz (a,w,nw 0 (x.zR.getD a [])++w):=by
 obtain⟨k,hk⟩:∃k,yK x a=k+2:=⟨yK x a-2,by omega⟩;have e:J0 (yK x a) a++w=a::a::(J0 k a++w):=by rw[hk,Jq,Jq];rfl
 have h1:swp x (J0 (yK x a) a++w)=iA:=by rw[e];simp only[swp,if_neg (Jbw a)]
 have h2:pws x (J0 (yK x a) a++w)=iz (a,w,nw 0 (x.zR.getD a [])++w):=by
  have et:(J0 (yK x a) a++w).take (yK x a)=J0 (yK x a) a:=Jo (by simp);have ed:(J0 (yK x a) a++w).drop (yK x a)=w:=K8 (by simp);rw[e]at et ed ⊢
  simp only[pws];rw[if_pos et,ed]
 have h3:hdS x (J0 (yK x a) a++w)=iz (a,w,nw 0 (x.zR.getD a [])++w):=by unfold hdS;rw[h1];exact h2
 rw[e]at h3 ⊢
 simp only[stS];rw[h3]
end
end Go.Pl

namespace Go.Pl
open Go Go.Ab Go.Wk Go.Pc
theorem zDp{p:Int}{D:Nat}{u v w:List Int}:adv p D (adv p D u v) w=adv p D u (adv p D v w):=by
 refine zZ fun j hj=>?_
 grind[yH,Jbo]
theorem zET{p:Int}{D:Nat}{u v:List Int}{A:Mx}:wD p D (adv p D u v) A=adv p D (wD p D u A) (wD p D v A):=by
 refine zZ fun j hj=>?_
 rw[wD,wD,yH hj,yH hj,←Kf,←zCK];refine kX fun l hl=>?_
 rw[yH hl,←Ja2,Jv,K9,←Jv]
theorem zMo{α:Type}(m:α→α→α)(z:α):∀(cs:List α)(j n:Nat)(acc:α),j<cs.length→j<n→img m cs (xP n j) acc=m acc (cs.getD j z)
 | [],_,_,_,h,_=>by simp at h
 |c::cs,0,n+1,acc,_,_=>by grind[zDg,img,iter,qB]
 |c::cs,j+1,n+1,acc,h,h2=>by rw[zFz];show img m cs (xP n j) (iter (0:Int).toNat (fun v=>m v c) acc)=_;rw[show iter (0:Int).toNat (fun v=>m v c) acc=acc from rfl,zMo m z cs j n acc (by grind) (by omega),U8]
 |_::_,0,0,_,_,h=>by omega
 |_::_,_+1,0,_,_,h=>by omega
theorem zFI(n d:Nat):zeros (n+d)=zeros n++zeros d:=by grind[zeros,Jn]
theorem zTl{n d j:Nat}(hj:j<n):xP (n+d) j=xP n j++zeros d:=by grind[xP,zFI,yC]
def fo(e:SPr)(k:Nat)(u:Vec)(w:List Nat):Vec:=w.foldl (fun u a=>mul (suf e k) u (xP (e.zA.length-k) (a-k))) u
theorem zCQ{e:SPr}{k:Nat}{u:Vec}{v w:List Nat}:fo e k u (v++w)=fo e k (fo e k u v) w:=by simp[fo,Ub]
theorem sS{e:SPr}{k:Nat}{u:Vec}{a:Nat}{w:List Nat}:fo e k u (a::w)=fo e k (mul (suf e k) u (xP (e.zA.length-k) (a-k))) w:=rfl
theorem zY6{e:SPr}{k a:Nat}(ha:k<a)(hn:a<e.zA.length){b:Int}{y:Vec}(hb:b<at0 e.zA k):mul (suf e k) (b::y) (xP (e.zA.length-k) (a-k))=b::mul (suf e (k+1)) y (xP (e.zA.length-(k+1)) (a-(k+1))):=by obtain⟨t,ht⟩:∃t,a-k=t+1:=⟨a-(k+1),by omega⟩;obtain⟨s,hs⟩:∃s,e.zA.length-k=s+1:=⟨e.zA.length-(k+1),by omega⟩;rw[yG (x:=e) (by omega),ht,hs,zFz,xC,if_neg (by show¬(b+0≥at0 e.zA k);omega),show a-(k+1)=t from by omega,show e.zA.length-(k+1)=s from by omega,H5];rfl
theorem zY7{e:SPr}{k:Nat}(hn:k<e.zA.length){b:Int}{y:Vec}:mul (suf e k) (b::y) (xP (e.zA.length-k) (k-k))=if b+1≥at0 e.zA k then(b+1-at0 e.zA k)::mul (suf e (k+1)) (lvl e k).w (mul (suf e (k+1)) (sig (suf e (k+1)) (lvl e k) y) (zeros (e.zA.length-(k+1))))else(b+1)::mul (suf e (k+1)) (sig (suf e (k+1)) (lvl e k) y) (zeros (e.zA.length-(k+1))):=by obtain⟨s,hs⟩:∃s,e.zA.length-k=s+1:=⟨e.zA.length-(k+1),by omega⟩;rw[yG (x:=e) hn,hs,Kd,zDg,xC,show e.zA.length-(k+1)=s from by omega];rfl
section
variable {D:Nat}{x:SPr}{m:zF}{T:Mx} (h:Pres x) (hE:ExB x.zA.length D x m T) (hT:∀i,i<T.length→Row m.Prime D (T.getD i []))
 include h hE hT
theorem zY8{k:Nat}(hk:k≤x.zA.length){e:Vec}(he:V (suf (exx D x m T) k) e):mul (suf (exx D x m T) k) e (zeros ((exx D x m T).zA.length-k))=e:=by have hp:=hE.m.p.pos;obtain⟨y,u,rfl,hy,hu⟩:=(sQ h hE hT (x.zA.length-k) k (by omega) _).1 he;have:=zEQ h hE hT (x.zA.length-k) k (by omega) y u (zeros D) hy hu (xS (by omega));rw[zAG hu]at this;rw[wG h hE hT,show x.zA.length+D-k=(x.zA.length-k)+D from by omega,zFI];exact this
def adK(p:Int)(D N:Nat)(e d:Vec):Vec:=e.take N++adv p D (e.drop N) d
theorem zKw{k:Nat}(hk:k≤x.zA.length){e d:Vec}(he:V (suf (exx D x m T) k) e)(hd:Row m.Prime D d):adK m.Prime D (x.zA.length-k) e d=mul (suf (exx D x m T) k) e (zeros (x.zA.length-k)++d):=by
 obtain⟨y,u,rfl,hy,hu⟩:=(sQ h hE hT (x.zA.length-k) k (by omega) _).1 he
 grind[vC,zEQ,adK]
theorem zY9{k:Nat}(hk:k≤x.zA.length){e d:Vec}(he:V (suf (exx D x m T) k) e):V (suf (exx D x m T) k) (adK m.Prime D (x.zA.length-k) e d):=by have hp:=hE.m.p.pos;obtain⟨y,u,rfl,hy,hu⟩:=(sQ h hE hT (x.zA.length-k) k (by omega) _).1 he;have ez:=vC h (by omega) hy;rw[adK,Jo ez,K8 ez];exact(sQ h hE hT (x.zA.length-k) k (by omega) _).2 ⟨y,_,rfl,hy,qF (by omega)⟩
theorem zWZ{k:Nat}(hk:k≤x.zA.length){e d d':Vec}(he:V (suf (exx D x m T) k) e):adK m.Prime D (x.zA.length-k) (adK m.Prime D (x.zA.length-k) e d) d'=adK m.Prime D (x.zA.length-k) e (adv m.Prime D d d'):=by obtain⟨y,u,rfl,hy,hu⟩:=(sQ h hE hT (x.zA.length-k) k (by omega) _).1 he;have ez:=vC h (by omega) hy;simp only[adK,Jo ez,K8 ez,zDp]
theorem zAU{k:Nat}(hk:k<x.zA.length){b:Int}{e d:Vec}:adK m.Prime D (x.zA.length-k) (b::e) d=b::adK m.Prime D (x.zA.length-(k+1)) e d:=by have _:=h;have _:=hE;have _:=hT;rw[show x.zA.length-k=x.zA.length-(k+1)+1 from by omega];rfl
theorem zD{k:Nat}(hk:k≤x.zA.length){d:Vec}(hd:Row m.Prime D d):V (suf (exx D x m T) k) (zeros (x.zA.length-k)++d):=
 (sQ h hE hT (x.zA.length-k) k (by omega) _).2 ⟨_,d,rfl,zv h hE hT hk,hd⟩
theorem zXa{k a:Nat}(hk:k≤a)(ha:a<x.zA.length):V (suf x k) (xP (x.zA.length-k) (a-k)):=by
 have _:=hE;have _:=hT;have:=zC9 (h.okAt (k:=k) (by omega)) (j:=a-k) (by grind[yP])
 grind[yP]
theorem zQ9{k a:Nat}(hk:k≤a)(ha:a<x.zA.length):xP ((exx D x m T).zA.length-k) (a-k)=xP (x.zA.length-k) (a-k)++zeros D:=by rw[wG h hE hT,show x.zA.length+D-k=x.zA.length-k+D from by omega,zTl (by omega)]
theorem zCR{k a:Nat}(hk:k≤a)(ha:a<x.zA.length):V (suf (exx D x m T) k) (xP ((exx D x m T).zA.length-k) (a-k)):=by have hp:=hE.m.p.pos;rw[zQ9 h hE hT hk ha];exact(sQ h hE hT (x.zA.length-k) k (by omega) _).2 ⟨_,_,rfl,zXa h hE hT hk ha,xS (by omega)⟩
theorem zVP{k a:Nat}(hk:k≤a)(ha:a<x.zA.length):aM m D k (xP (x.zA.length-k) (a-k))=m.zP.getD a []:=by have _:=h;have _:=hT;have hA:=hE.m.mat a ha;have hl:=hE.m.len;unfold aM;rw[zMo (PM m.Prime D) [] _ _ _ _ (by grind) (by omega),J2,Lr,show k+(a-k)=a from by omega,←J2,zEE hA]
variable {k:Nat} (hk:k<x.zA.length) (hc:wQ (suf (exx D x m T) (k+1)))
 include hk hc
theorem zXb{a:Nat}(h1:k+1≤a)(ha:a<x.zA.length){e d:Vec}(he:V (suf (exx D x m T) (k+1)) e)(hd:Row m.Prime D d):
  mul (suf (exx D x m T) (k+1)) (adK m.Prime D (x.zA.length-(k+1)) e d) (xP ((exx D x m T).zA.length-(k+1)) (a-(k+1)))=adK m.Prime D (x.zA.length-(k+1)) (mul (suf (exx D x m T) (k+1)) e (xP ((exx D x m T).zA.length-(k+1)) (a-(k+1)))) (wD m.Prime D d (m.zP.getD a [])):=by
 have hp:=hE.m.p.pos;have gB:=uH h hE hT (k:=k+1) (by omega);have G:=(zCB _ gB hc).toMon;have hg:=zCR h hE hT h1 ha;have hgv:=zXa h hE hT h1 ha;have hz:=zD h hE hT (k:=k+1) (by omega) hd;have eK:=zD h hE hT (k:=k+1) (by omega) (vA (p:=m.Prime) (D:=D) (r:=d) (B:=m.zP.getD a []) (by omega));rw[zKw h hE hT (by omega) he hd,G.assoc he hz hg,zQ9 h hE hT h1 ha,zP6 h hE hT _ (k+1) (by omega) _ _ _ hd hgv (xS (by omega)),zAG (vA (by omega)),zVP h hE hT h1 ha,←zQ9 h hE hT h1 ha,zKw h hE hT (by omega) (G.cl he hg) (vA (by omega)),G.assoc he hg eK,zQ9 h hE hT h1 ha,zEQ h hE hT _ (k+1) (by omega) _ _ _ hgv (xS (by omega)) (vA (by omega)),vZ (vA (by omega))]
 omit hc in
theorem zId{e d:Vec}(he:V (suf (exx D x m T) (k+1)) e)(_hd:Row m.Prime D d):
    sig (suf (exx D x m T) (k+1)) (lvl (exx D x m T) k) (adK m.Prime D (x.zA.length-(k+1)) e d)=adK m.Prime D (x.zA.length-(k+1)) (sig (suf (exx D x m T) (k+1)) (lvl (exx D x m T) k) e) (wD m.Prime D d (m.zP.getD k [])):=by
  have hp:=hE.m.p.pos;obtain⟨y,u,rfl,hy,hu⟩:=(sQ h hE hT (x.zA.length-(k+1)) (k+1) (by omega) _).1 he;have ez:=vC h (by omega) hy;obtain⟨y1,u1,e,fg,fT⟩:=(sQ h hE hT (x.zA.length-(k+1)) (k+1) (by omega) _).1 (zHW h hE hT hk (y:=y));have gH:=vC h (by omega) fg;have e0:adK m.Prime D (x.zA.length-(k+1)) (y++u) d=y++adv m.Prime D u d:=by grind[adK]
  rw[e0,zBX h hE hT hk hy (qF (by omega)),zBX h hE hT hk hy hu,e,Jo gH,K8 gH,adK,Jo gH,K8 gH,zET,zDp]
theorem zMp{z d:Vec}(hz:V (suf (exx D x m T) (k+1)) z)(hd:Row m.Prime D d){w:Vec}(hw:V (suf (exx D x m T) (k+1)) w):
  mul (suf (exx D x m T) (k+1)) w (adK m.Prime D (x.zA.length-(k+1)) z d)=adK m.Prime D (x.zA.length-(k+1)) (mul (suf (exx D x m T) (k+1)) w z) d:=by
 have gB:=uH h hE hT (k:=k+1) (by omega);have G:=(zCB _ gB hc).toMon;rw[zKw h hE hT (by omega) hz hd,zKw h hE hT (by omega) (G.cl hw hz) hd,G.assoc hw hz (by grind[zD])]
 omit hc in
theorem zQA:V (suf (exx D x m T) (k+1)) (lvl (exx D x m T) k).w:=by
  have gB:=uH h hE hT (k:=k) (by omega);rw[yG (x:=exx D x m T) (by grind[wG])]at gB;exact gB.2.1
 omit hc in
theorem zAI{e:Vec}(he:V (suf (exx D x m T) (k+1)) e):V (suf (exx D x m T) (k+1)) (sig (suf (exx D x m T) (k+1)) (lvl (exx D x m T) k) e):=by
  have gB:=uH h hE hT (k:=k) (by omega);rw[yG (x:=exx D x m T) (by grind[wG])]at gB
  grind[zCA]
theorem zGj{b:Int}{e:Vec}(he:V (suf (exx D x m T) (k+1)) e):mul (suf (exx D x m T) k) (b::e) (xP ((exx D x m T).zA.length-k) (k-k))=if b+1≥at0 x.zA k then(b+1-at0 x.zA k)::mul (suf (exx D x m T) (k+1)) (lvl (exx D x m T) k).w (sig (suf (exx D x m T) (k+1)) (lvl (exx D x m T) k) e)else(b+1)::sig (suf (exx D x m T) (k+1)) (lvl (exx D x m T) k) e:=by have _:=hc;rw[zY7 (by grind[wG]),zY8 h hE hT (by omega) (zAI h hE hT hk he),tG h hE hT hk]
theorem zMq{a:Nat}(h1:k<a)(ha:a<x.zA.length){b:Int}(hb:b<at0 x.zA k){e:Vec}:mul (suf (exx D x m T) k) (b::e) (xP ((exx D x m T).zA.length-k) (a-k))=b::mul (suf (exx D x m T) (k+1)) e (xP ((exx D x m T).zA.length-(k+1)) (a-(k+1))):=by have _:=hc;grind[zY6,wG,tG]
theorem yBF{a:Nat}(h1:k≤a)(ha:a<x.zA.length){b:Int}(hb:b<at0 x.zA k){e d:Vec}(he:V (suf (exx D x m T) (k+1)) e)(hd:Row m.Prime D d):
  mul (suf (exx D x m T) k) (b::adK m.Prime D (x.zA.length-(k+1)) e d) (xP ((exx D x m T).zA.length-k) (a-k))=adK m.Prime D (x.zA.length-k) (mul (suf (exx D x m T) k) (b::e) (xP ((exx D x m T).zA.length-k) (a-k))) (wD m.Prime D d (m.zP.getD a [])):=by
 have hp:=hE.m.p.pos;rcases Jj k a with g|g
 ·rw[zMq h hE hT hk hc g ha hb,zMq h hE hT hk hc g ha hb,zXb h hE hT hk hc g ha he hd,zAU h hE hT hk]
 ·obtain rfl:a=k:=by omega
  rw[zGj h hE hT hk hc (by grind[zY9]),zGj h hE hT hk hc he,zId h hE hT hk he hd];split
  ·rw[zMp h hE hT hk hc (zAI h hE hT hk he) (vA (by omega)) (zQA h hE hT hk),zAU h hE hT hk]
  grind[zAU]
theorem yAJ{a:Nat}(h1:k≤a)(ha:a<x.zA.length){e:Vec}(he:V (suf (exx D x m T) k) e):V (suf (exx D x m T) k) (mul (suf (exx D x m T) k) e (xP ((exx D x m T).zA.length-k) (a-k))):=by have _:=hc;grind[xK,uH,zCR]
theorem yBG:∀{w:List Nat},(∀a∈w,k≤a∧a<x.zA.length)→ ∀{e:Vec},V (suf (exx D x m T) k) e→V (suf (exx D x m T) k) (fo (exx D x m T) k e w)
 | [],_,_,he=>he
 |a::w,hw,e,he=>by rw[sS];exact yBG (by grind) (by grind[yAJ])
theorem zPB:∀{w:List Nat},(∀a∈w,k≤a∧a<x.zA.length)→ ∀{e d:Vec},V (suf (exx D x m T) k) e→Row m.Prime D d→fo (exx D x m T) k (adK m.Prime D (x.zA.length-k) e d) w=adK m.Prime D (x.zA.length-k) (fo (exx D x m T) k e w) (wD m.Prime D d (wM m.Prime D m.zP w (idM D)))
 | [],_,e,d,_,hd=>by show adK _ _ _ e d=adK _ _ _ e (wD m.Prime D d (idM D));rw[jN hd]
 |a::w,hw,e,d,he,hd=>by
  have hp:=hE.m.p.pos;obtain⟨a1,a2⟩:=hw a (by simp);have hA:=hE.m.mat a a2;have ib:=he;rw[yG (x:=exx D x m T) (by grind[wG])]at ib;cases e with
  |nil=>exact ib.elim
  |cons b e=>
   obtain⟨⟨b0,b1⟩,he1⟩:=ib;have b2:b<at0 x.zA k:=by rw[←tG h hE hT hk];exact b1
   rw[sS,sS,zAU h hE hT hk,yBF h hE hT hk hc a1 a2 b2 he1 hd,zPB (by grind) (by grind[yAJ]) (vA (by omega)),zEP hA.1]
   congr 2
   show PM _ _ _ (wM m.Prime D m.zP w (idM D))=wM m.Prime D m.zP w (PM m.Prime D (idM D) (m.zP.getD a []));rw[←zKe (by omega) hA.1 w (qC (by omega)),zCM hA,zEE hA]
end
end Go.Pl

namespace Go.Pl
open Go Go.Ab Go.Wk Go.Pc
inductive Col (x:SPr) (k:Nat):List Nat→List (Nat×List Nat)→List Nat→Prop where
 |refl (w:List Nat):Col x k w [] w
 |step {w w1 w' s:List Nat}{r:Nat}{tr:List (Nat×List Nat)} (hw:∀a∈w,k≤a∧a<x.zA.length) (hs:stS x w=iz (r,s,w1)) (h:Col x k w1 tr w'):Col x k w ((r,s)::tr) w'
theorem Col.trans{x:SPr}{k:Nat}{w w1 w2:List Nat}{t1 t2:List (Nat×List Nat)}(h:Col x k w t1 w1)(h2:Col x k w1 t2 w2):Col x k w (t1++t2) w2:=by
 induction h with
 |refl w=>exact h2
 |step hw hs _ ih=>exact .step hw hs (ih h2)
def tv(p:Int)(D:Nat)(m:zF)(T:Mx):List (Nat×List Nat)→Vec
 | []=>zeros D
 |(r,s)::t=>adv p D (wD p D (T.getD r []) (wM p D m.zP s (idM D))) (tv p D m T t)
section
variable {p:Int}{D:Nat}{m:zF}{T:Mx} (hp:2≤p)
 include hp
theorem zKx:∀t,Row p D (tv p D m T t)
 | []=>xS (by omega)
 |(_,_)::_=>qF (by omega)
theorem zIe:∀t u,tv p D m T (t++u)=adv p D (tv p D m T t) (tv p D m T u)
 | [],u=>(vZ (zKx hp u)).symm
 |(r,s)::t,u=>by show adv p D _ (tv p D m T (t++u))=adv p D (adv p D _ _) _;rw[zIe t u,zDp]
theorem zYA{A:List Mx}{u v:List Nat}:wM p D A (u++v) (idM D)=PM p D (wM p D A u (idM D)) (wM p D A v (idM D)):=by have hu:=zHH (D:=D) (A:=A) (show 0<p by omega) u (qC hp);rw[zF8,←zKe (by omega) hu.1 v (qC hp),zCM hu]
theorem zEU{A:List Mx}{u v:List Nat}{r:Vec}:wD p D r (wM p D A (u++v) (idM D))=wD p D (wD p D r (wM p D A u (idM D))) (wM p D A v (idM D)):=by have hu:=zHH (D:=D) (A:=A) (show 0<p by omega) u (qC hp);rw[zYA hp,zEP hu.1]
theorem zTm(z:List Nat):∀t,tv p D m T (t.map fun q=>(q.1,q.2++z))=wD p D (tv p D m T t) (wM p D m.zP z (idM D))
 | []=>zAH.symm
 |(r,s)::t=>by show adv p D (wD p D (T.getD r []) (wM p D m.zP (s++z) (idM D))) (tv p D m T (t.map fun q=>(q.1,q.2++z)))=wD p D (adv p D _ (tv p D m T t)) _;rw[zTm z t,zET,zEU hp]
end
section
variable {x:SPr} (h:Pres x)
 include h
theorem zKy{a:Nat}(ha:a<x.zA.length):2≤yK x a:=by have:=(h.os.2 a ha).pos;show 2≤(at0 x.zA a).toNat;omega
theorem tZ{v:List Int}{i:Nat}(hv:Exp x.zA v i)(hi:i<x.zA.length):nw 0 v=nw (i+1) (v.drop (i+1))∧ ∀a∈nw 0 v,i+1≤a∧a<x.zA.length:=by
 have _:=h;have e:=zAy hv hi;have e1:nw 0 v=nw (i+1) (v.drop (i+1)):=by rw[e,zDk,zCP,yC,Ju,Jf,K8 (by rw[yC])]
 refine⟨e1,fun a ha=>?_⟩;rw[e1]at ha;refine⟨?_,zLR (n:=x.zA.length) (i+1) _ (by rw[K3,hv.1.1];omega) a ha⟩
 clear e e1 hv
 generalize v.drop (i+1)=y at ha
 generalize i+1=o at ha ⊢
 clear hi
 induction y generalizing o with
 |nil=>simp[nw]at ha
 |cons b y ih=>
  simp only[nw,Jh]at ha;rcases ha with ha|ha
  ·have:=Jm ha;omega
  ·have:=ih (o+1) ha;omega
theorem uC{i j:Nat}(hi:i<j)(hj:j<x.zA.length):Exp x.zA (lcj x i j) i:=by have g:=(h.tl i (by omega)).2.1;exact(h.tl i (by omega)).2.2 (j-(i+1)) (by omega)
theorem qX{i:Nat}(hi:i<x.zA.length):Exp x.zA (x.zR.getD i []) i:=(h.tl i hi).1
theorem zTn:∀(o:Nat)(y:Vec),∀a∈nw o y,o≤a
 |_,[],a,ha=>by simp[nw]at ha
 |o,b::y,a,ha=>by
  have _:=h;simp only[nw,Jh]at ha;rcases ha with ha|ha
  ·have:=Jm ha;omega
  ·have:=zTn (o+1) y a ha;omega
theorem zPC{k:Nat}{y:Vec}(hk:k≤x.zA.length)(hy:V (suf x k) y):∀a∈nw k y,k≤a∧a<x.zA.length:=fun a ha=>
 ⟨zTn h k y a ha,zLR (n:=x.zA.length) k y (by rw[vC h hk hy];omega) a ha⟩
theorem zFJ:∀(d k:Nat),k+d=x.zA.length→ ∀y,V (suf x k) y→stS x (nw k y)=iA
 |0,k,hk,y,hy=>by rw[vV (x:=x) (k:=k) (by omega)]at hy;obtain rfl:y=[]:=hy;rfl
 |d+1,k,hk,y,hy=>by
  rw[yG (x:=x) (by omega)]at hy;cases y with
  |nil=>exact hy.elim
  |cons b y=>
   obtain⟨⟨b0,b1⟩,hy⟩:=hy;change b<at0 x.zA k at b1;simp only[nw];have gE:b.toNat<yK x k:=by show b.toNat<(at0 x.zA k).toNat;omega
   rw[zEh gE b.toNat (Jl _) fun a ha=>?_,zFJ d (k+1) (by omega) y hy]
   ·rfl
   ·have:=zTn h (k+1) y a (Jb9 (by rw[ha];rfl))
    omega
theorem Col.ctx{i a:Nat}(hi:i<x.zA.length)(ha:a<yK x i){s:List Nat}(hs:∀b∈s,i≤b∧b<x.zA.length){w w':List Nat}{tr:List (Nat×List Nat)}(hc:Col x (i+1) w tr w'):
  Col x i (J0 a i++(w++s)) (tr.map fun q=>(q.1,q.2++s)) (J0 a i++(w'++s)):=by
 induction hc with
 |refl w=>exact .refl _
 | @step w w1 w' s1 r tr hw gA _ ih=>
  refine .step (fun b hb=>?_) ?_ ih
  ·simp only[Jh]at hb
   rcases hb with hb|hb|hb
   ·have:=Jm hb;omega
   ·have:=hw b hb;omega
   ·exact hs b hb
  ·rw[zEh ha a (Jl _) fun b hb=>?_,zKv (fun b hb=>zKy h (hw b hb).2) gA]
   ·rfl
   ·cases w with
    |nil=>cases gA
    |cons c w=>
     simp only[Jy,Gw,Ld.injEq]at hb;have:=hw c (by simp);omega
def cwd(x:SPr)(i:Nat):List Nat→List Nat
 | []=>[]
 |l::ur=>cwd x i ur++nw 0 (lcj x i l)
def mtr(x:SPr)(i:Nat):List Nat→List Nat→List (Nat×List Nat)
 | [],_=>[]
 |l::ur,z=>(base x.zA.length i+(l-(i+1)),z)::mtr x i ur (nw 0 (lcj x i l)++z)
theorem zKz{i:Nat}:∀{ur:List Nat},(∀b∈ur,i+1≤b∧b<x.zA.length)→ ∀b∈cwd x i ur,i+1≤b∧b<x.zA.length
 | [],_,b,hb=>by simp[cwd]at hb
 |l::ur,hu,b,hb=>by
  simp only[cwd,Jh]at hb;obtain⟨l1,l2⟩:=hu l (by simp);rcases hb with hb|hb
  ·exact zKz (fun b hb=>hu b (by simp[hb])) b hb
  ·exact(tZ h (uC h (by omega) l2) (by omega)).2 b hb
theorem Col.move{i a:Nat}(hi:i<x.zA.length)(ha:a<yK x i):∀{ur:List Nat},(∀b∈ur,i+1≤b∧b<x.zA.length)→stS x ur.reverse=iA→ ∀{z:List Nat},(∀b∈z,i≤b∧b<x.zA.length)→
  Col x i (J0 a i++(ur.reverse++i::z)) (mtr x i ur z) (J0 (a+1) i++(cwd x i ur++z))
 | [],_,_,z,_=>by
  have e:J0 a i++(([]:List Nat).reverse++i::z)=J0 (a+1) i++(cwd x i []++z):=by rw[Ln];simp[cwd]
  rw[e];exact .refl _
 |l::ur,hu,hn,z,hz=>by
  obtain⟨l1,l2⟩:=hu l (by simp);have eZ:∀b∈ur,i+1≤b∧b<x.zA.length:=fun b hb=>hu b (by simp[hb])
  have fP:=tZ h (uC h (show i<l by omega) l2) hi;rw[Jbi]at hn ⊢
  have bg:=zGi (fun b hb=>zKy h (eZ b (by simpa using hb)).2) hn;have eK:∀b∈nw 0 (lcj x i l)++z,i≤b∧b<x.zA.length:=fun b hb=>by
   simp only[Jh]at hb;rcases hb with hb|hb
   ·have:=fP.2 b hb;omega
   ·exact hz b hb
  have ih:=Col.move hi ha eZ bg eK;rw[show cwd x i (l::ur)++z=cwd x i ur++(nw 0 (lcj x i l)++z)from by simp[cwd]];have e1:ur.reverse++[l]++i::z=ur.reverse++l::i::z:=by simp
  rw[e1];refine .step (fun b hb=>?_) ?_ ih
  ·simp only[Jh,Jc,Qo]at hb
   rcases hb with hb|hb|hb|hb|hb
   ·have:=Jm hb;omega
   ·have:=eZ b hb;omega
   ·omega
   ·omega
   ·exact hz b hb
  ·rw[zEh ha a (Jl _) fun b hb=>?_,zTk (fun b hb=>by have:=eZ b (by simpa using hb);omega) (by omega) hn]
   ·rfl
   ·have:b∈ur.reverse++l::i::z:=Jb9 (by rw[hb];rfl)
    cases e:ur.reverse with
    |nil=>rw[e]at hb;simp only[Ju,Gw,Ld.injEq]at hb;omega
    |cons c t=>
     rw[e]at hb;simp only[Jy,Gw,Ld.injEq]at hb;have:=eZ c (by rw[←Qo,e];simp);omega
end
end Go.Pl

namespace Go.Pl
open Go Go.Ab Go.Wk Go.Pc
theorem zIf{α:Type}(m:α→α→α)(c:Nat→α)(z:α):∀(cs:List α)(v:Vec)(o:Nat)(acc:α),(∀j,j<cs.length→cs.getD j z=c (o+j))→v.length≤cs.length→img m cs v acc=(nw o v).foldl (fun acc j=>m acc (c j)) acc
 |cs,[],o,acc,_,_=>by cases cs<;>rfl
 | [],_::_,_,_,_,h=>by simp at h
 |a::cs,b::v,o,acc,hc,hl=>by
  have h0:=hc 0 (by simp);simp only[H7,G9]at h0;have e:∀(k:Nat)(u:α),(J0 k o).foldl (fun acc j=>m acc (c j)) u=iter k (fun v=>m v a) u:=by
   intro k
   induction k with
   |zero=>intro u;rfl
   |succ k ih=>intro u;rw[Jq,Gx,ih,h0];rfl
  show img m cs v (iter b.toNat (fun v=>m v a) acc)=_;simp only[nw,Ub];rw[e,zIf m c z cs v (o+1) _ (fun j hj=>by have:=hc (j+1) (by simpa using hj);rw[U8]at this;rw[this];congr 1;omega) (by simpa using hl)]
theorem map_drop{l:List (List Int)}{n i:Nat}:(l.map (·.drop n)).getD i []=(l.getD i []).drop n:=by rw[J2,J2,K4];cases l[i]? <;>simp
section
variable {D:Nat}{x:SPr}{m:zF}{T:Mx} (h:Pres x) (hE:ExB x.zA.length D x m T) (hT:∀i,i<T.length→Row m.Prime D (T.getD i []))
 include h hE hT
theorem zVQ{k:Nat}(hk:k<x.zA.length)(hc:wQ (suf (exx D x m T) k)):wQ (suf (exx D x m T) (k+1)):=by rw[yG (x:=exx D x m T) (by rw[wG h hE hT];omega)]at hc;exact hc.1
theorem zNQ{k:Nat}(hk:k≤x.zA.length):V (suf (exx D x m T) k) (zeros ((exx D x m T).zA.length-k)):=by
 have:=wO (uH h hE hT (k:=k) (by omega))
 rwa [yP]at this
theorem zIg{k:Nat}(hk:k≤x.zA.length):zeros ((exx D x m T).zA.length-k)=zeros (x.zA.length-k)++zeros D:=by rw[wG h hE hT,show x.zA.length+D-k=x.zA.length-k+D from by omega,zFI]
theorem zDw{k:Nat}(hk:k≤x.zA.length){y u:Vec}(hy:V (suf x k) y)(hu:Row m.Prime D u):V (suf (exx D x m T) k) (y++u):=
 (sQ h hE hT (x.zA.length-k) k (by omega) _).2 ⟨y,u,rfl,hy,hu⟩
theorem kF{k:Nat}(hk:k≤x.zA.length){y u d:Vec}(hy:V (suf x k) y):adK m.Prime D (x.zA.length-k) (y++u) d=y++adv m.Prime D u d:=by have _:=hE;have _:=hT;have ez:=vC h hk hy;rw[adK,Jo ez,K8 ez]
theorem zIh:∀(d k:Nat),k+d=x.zA.length→wQ (suf (exx D x m T) k)→ ∀y,V (suf x k) y→fo (exx D x m T) k (zeros ((exx D x m T).zA.length-k)) (nw k y)=y++zeros D
 |0,k,hk,_,y,hy=>by rw[vV (x:=x) (k:=k) (by omega)]at hy;obtain rfl:y=[]:=hy;rw[zIg h hE hT (by omega),show x.zA.length-k=0 from by omega];rfl
 |d+1,k,hk,hc,y,hy=>by
  have cV:=zVQ h hE hT (by omega) hc;have ih:=zIh d (k+1) (by omega) cV;rw[yG (x:=x) (by omega)]at hy;cases y with
  |nil=>exact hy.elim
  |cons b y=>
   obtain⟨⟨b0,b1⟩,hy⟩:=hy;change b<at0 x.zA k at b1;have pO:k<x.zA.length:=by omega
   have hz:=zNQ h hE hT (k:=k+1) (by omega);simp only[nw];rw[zCQ];have e1:∀c:Nat,(c:Int)<at0 x.zA k→fo (exx D x m T) k (zeros ((exx D x m T).zA.length-k)) (J0 c k)=(c:Int)::zeros ((exx D x m T).zA.length-(k+1)):=by
    intro c
    induction c with
    |zero=>
     intro _;have hl:=wG h hE hT;rw[show(exx D x m T).zA.length-k=(exx D x m T).zA.length-(k+1)+1 from by omega];rfl
    |succ c ihc=>
     intro gC;rw[Ln,zCQ,ihc (by omega)];show mul _ _ _=_;rw[zGj h hE hT pO cV hz,if_neg (by omega)];have:sig (suf (exx D x m T) (k+1)) (lvl (exx D x m T) k) (zeros ((exx D x m T).zA.length-(k+1)))=zeros ((exx D x m T).zA.length-(k+1)):=by unfold sig;rw[qB,yP]
     rw[this];rfl
   have e2:∀(w:List Nat)(e:Vec),(∀a∈w,k+1≤a∧a<x.zA.length)→fo (exx D x m T) k (b::e) w=b::fo (exx D x m T) (k+1) e w:=by
    intro w
    induction w with
    |nil=>intro e _;rfl
    |cons a w ihw=>
     intro e hw;rw[sS,zMq h hE hT pO cV (hw a (by simp)).1 (hw a (by simp)).2 b1,ihw _ fun a ha=>hw a (by simp[ha])];rfl
   have:=e1 b.toNat (by omega);rw[this,show((b.toNat:Nat):Int)=b from by omega,e2 _ _ fun a ha=>zPC h (by omega) hy a ha,ih y hy];rfl
variable {k:Nat} (hk:k<x.zA.length) (hc:wQ (suf (exx D x m T) (k+1)))
 include hk hc
theorem zIi{b:Int}(hb:b<at0 x.zA k):∀(w:List Nat)(e:Vec),(∀a∈w,k+1≤a∧a<x.zA.length)→fo (exx D x m T) k (b::e) w=b::fo (exx D x m T) (k+1) e w
 | [],e,_=>rfl
 |a::w,e,hw=>by rw[sS,zMq h hE hT hk hc (hw a (by simp)).1 (hw a (by simp)).2 hb,zIi hb w _ fun a ha=>hw a (by simp[ha])];rfl
 omit hc in
theorem zQB:∀{w:List Nat},(∀a∈w,k+1≤a∧a<x.zA.length)→ ∀{e:Vec},V (suf (exx D x m T) (k+1)) e→V (suf (exx D x m T) (k+1)) (fo (exx D x m T) (k+1) e w)
  | [],_,_,he=>he
  |a::w,hw,e,he=>by rw[sS];exact zQB (fun b hb=>hw b (by simp[hb])) (xK (uH h hE hT (by omega)) he (zCR h hE hT (hw a (by simp)).1 (hw a (by simp)).2))
theorem zTo:∀{w:List Nat},(∀a∈w,k+1≤a∧a<x.zA.length)→ ∀{e d:Vec},V (suf (exx D x m T) (k+1)) e→Row m.Prime D d→fo (exx D x m T) (k+1) (adK m.Prime D (x.zA.length-(k+1)) e d) w=adK m.Prime D (x.zA.length-(k+1)) (fo (exx D x m T) (k+1) e w) (wD m.Prime D d (wM m.Prime D m.zP w (idM D)))
 | [],_,e,d,_,hd=>by show adK _ _ _ e d=adK _ _ _ e (wD m.Prime D d (idM D));rw[jN hd]
 |a::w,hw,e,d,he,hd=>by
  have hp:=hE.m.p.pos;obtain⟨a1,a2⟩:=hw a (by simp);have hA:=hE.m.mat a a2;rw[sS,sS,zXb h hE hT hk hc a1 a2 he hd,zTo (fun b hb=>hw b (by simp[hb])) (xK (uH h hE hT (by omega)) he (zCR h hE hT a1 a2)) (vA (by omega)),zEP hA.1]
  congr 2
  show PM _ _ _ (wM m.Prime D m.zP w (idM D))=wM m.Prime D m.zP w (PM m.Prime D (idM D) (m.zP.getD a []));rw[←zKe (by omega) hA.1 w (qC (by omega)),zCM hA,zEE hA]
theorem zTp:∀{w:List Nat},(∀a∈w,k+1≤a∧a<x.zA.length)→ ∀{e f:Vec},V (suf (exx D x m T) (k+1)) e→V (suf (exx D x m T) (k+1)) f→fo (exx D x m T) (k+1) (mul (suf (exx D x m T) (k+1)) e f) w=mul (suf (exx D x m T) (k+1)) e (fo (exx D x m T) (k+1) f w)
 | [],_,_,_,_,_=>rfl
 |a::w,hw,e,f,he,hf=>by have gB:=uH h hE hT (k:=k+1) (by omega);have G:=(zCB _ gB hc).toMon;have hg:=zCR h hE hT (hw a (by simp)).1 (hw a (by simp)).2;rw[sS,sS,G.assoc he hf hg,zTp (fun b hb=>hw b (by simp[hb])) he (G.cl hf hg)]
theorem zIj{w:List Nat}(hw:∀a∈w,k+1≤a∧a<x.zA.length){e:Vec}(he:V (suf (exx D x m T) (k+1)) e):fo (exx D x m T) (k+1) e w=mul (suf (exx D x m T) (k+1)) e (fo (exx D x m T) (k+1) (zeros ((exx D x m T).zA.length-(k+1))) w):=by rw[←zTp h hE hT hk hc hw he (zNQ h hE hT (by omega)),zY8 h hE hT (by omega) he]
def dm(p:Int)(D:Nat)(x:SPr)(m:zF)(T:Mx)(k:Nat):List Nat→Vec
 | []=>zeros D
 |l::ur=>adv p D (wD p D (dm p D x m T k ur) (wM p D m.zP (nw 0 (lcj x k l)) (idM D))) (T.getD (base x.zA.length k+(l-(k+1))) [])
 omit h hE hT hk hc in
theorem zNR(hp:2≤m.Prime):∀ur,Row m.Prime D (dm m.Prime D x m T k ur)
  | []=>xS (by omega)
  |_::_=>qF (by omega)
 omit h hE hT hk hc in
theorem zNS(hp:2≤m.Prime):∀(ur:List Nat)(z:List Nat),tv m.Prime D m T (mtr x k ur z)=wD m.Prime D (dm m.Prime D x m T k ur) (wM m.Prime D m.zP z (idM D))
  | [],z=>zAH.symm
  |l::ur,z=>by show adv m.Prime D _ (tv m.Prime D m T (mtr x k ur (nw 0 (lcj x k l)++z)))=wD m.Prime D (adv m.Prime D _ _) _;rw[zNS hp ur,zET,zEU hp,tR]
theorem zTq:∀{ur:List Nat},(∀b∈ur,k+1≤b∧b<x.zA.length)→ur.reverse.foldl (fun acc j=>mul (suf (exx D x m T) (k+1)) acc ((lvl (exx D x m T) k).cs.getD (j-(k+1)) [])) (zeros ((exx D x m T).zA.length-(k+1)))=
  adK m.Prime D (x.zA.length-(k+1)) (fo (exx D x m T) (k+1) (zeros ((exx D x m T).zA.length-(k+1))) (cwd x k ur)) (dm m.Prime D x m T k ur)
 | [],_=>by have hp:=hE.m.p.pos;show zeros _=adK _ _ _ (zeros _) (zeros D);rw[zIg h hE hT (by omega),kF h hE hT (by omega) (zv h hE hT (by omega)),vZ (xS (by omega))]
 |l::ur,hu=>by
  have hp:=hE.m.p.pos;obtain⟨l1,l2⟩:=hu l (by simp);have eZ:∀b∈ur,k+1≤b∧b<x.zA.length:=fun b hb=>hu b (by simp[hb])
  have gB:=uH h hE hT (k:=k+1) (by omega);have G:=(zCB _ gB hc).toMon;have hz:=zNQ h hE hT (k:=k+1) (by omega);have p7:=zKz h eZ;have hF:=zQB h hE hT hk p7 hz;have fP:=tZ h (uC h (show k<l by omega) l2) hk;have gC:V (suf x (k+1)) ((lcj x k l).drop (k+1)):=jR (uC h (by omega) l2) hk;have bm:(lvl x k).cs.getD (l-(k+1)) []=(lcj x k l).drop (k+1):=map_drop;have ht:=zDC h hE hT (show k<l by omega) l2;have hd:=zNR (D:=D) (x:=x) (m:=m) (T:=T) (k:=k) (by omega) ur;have i8:=zIh h hE hT (x.zA.length-(k+1)) (k+1) (by omega) hc _ gC;have cG:=zDw h hE hT (k:=k+1) (by omega) gC (xS (p:=m.Prime) (D:=D) (by omega));rw[Jbi,Ub,zTq eZ];show mul _ (adK _ _ _ _ _) ((lvl (exx D x m T) k).cs.getD (l-(k+1)) [])=_;rw[zHY h hE hT hk l1 l2,bm];have e1:(lcj x k l).drop (k+1)++T.getD (base x.zA.length k+(l-(k+1))) []=adK m.Prime D (x.zA.length-(k+1)) ((lcj x k l).drop (k+1)++zeros D) (T.getD (base x.zA.length k+(l-(k+1))) []):=by rw[kF h hE hT (by omega) gC,vZ ht]
  have gO:∀b∈nw (k+1) ((lcj x k l).drop (k+1)),k+1≤b∧b<x.zA.length:=fun b hb=>fP.2 b (by rw[fP.1];exact hb)
  have f9:=zY9 h hE hT (k:=k+1) (by omega) hF (d:=dm m.Prime D x m T k ur);rw[e1,zMp h hE hT hk hc cG ht f9,←i8,←zIj h hE hT hk hc gO f9,zTo h hE hT hk hc gO hF hd,zWZ h hE hT (by omega) (zQB h hE hT hk gO hF),←zCQ,←fP.1];rfl
theorem zPD{y:Vec}(hy:V (suf x (k+1)) y):sig (suf (exx D x m T) (k+1)) (lvl (exx D x m T) k) (y++zeros D)=adK m.Prime D (x.zA.length-(k+1)) (fo (exx D x m T) (k+1) (zeros ((exx D x m T).zA.length-(k+1))) (cwd x k (nw (k+1) y).reverse)) (dm m.Prime D x m T k (nw (k+1) y).reverse):=by have hp:=hE.m.p.pos;have ez:=vC h (by omega) hy;have gO:=zPC h (show k+1≤x.zA.length by omega) hy;rw[←zTq h hE hT hk hc fun b hb=>gO b (by simpa using hb),Kn,zBX h hE hT hk hy (xS (by omega)),zAH];obtain⟨y1,u1,e,fg,fT⟩:=(sQ h hE hT (x.zA.length-(k+1)) (k+1) (by omega) _).1 (zHW h hE hT hk (y:=y));have gH:=vC h (by omega) fg;rw[e,Jo gH,K8 gH,zAG fT,←e];unfold sgG;rw[yP];refine zIf _ (fun j=>(lvl (exx D x m T) k).cs.getD (j-(k+1)) []) [] _ _ _ _ (fun j hj=>?_) (by rw[uX h hE hT];omega);rw[uX h hE hT]at hj;rw[show k+1+j-(k+1)=j from by omega,zBW h hE hT hk,J2,J2,Jx (by rw[uX h hE hT];exact hj)]
end
end Go.Pl

namespace Go.Pl
open Go Go.Ab Go.Wk Go.Pc
section
variable {x:SPr} (h:Pres x)
 include h
theorem zMr{D:Nat}{m:zF}{T:Mx}(hE:ExB x.zA.length D x m T)(hT:∀i,i<T.length→Row m.Prime D (T.getD i [])){k:Nat}(hk:k≤x.zA.length)(hc:wQ (suf (exx D x m T) k)):wQ (suf (exx D x m T) (k+1)):=by have hl:=wG h hE hT;have:=hE.m.d1;rw[yG (x:=exx D x m T) (by omega)]at hc;exact hc.1
structure qN (x:SPr) (k:Nat) (z:List Nat) (tr:List (Nat×List Nat)) (y:Vec):Prop where
 col:Col x k z tr (nw k y)
 v:V (suf x k) y
 val:∀(D:Nat)(m:zF)(T:Mx),ExB x.zA.length D x m T→(∀i,i<T.length→Row m.Prime D (T.getD i []))→wQ (suf (exx D x m T) (k+1))→fo (exx D x m T) k (zeros ((exx D x m T).zA.length-k)) z=y++tv m.Prime D m T tr
theorem zPE{k:Nat}(hk:k<x.zA.length)(P:∀v:List Nat,(∀a∈v,k+1≤a∧a<x.zA.length)→ ∃tr y,qN x (k+1) v tr y):∀(z:List Nat),(∀a∈z,k≤a∧a<x.zA.length)→ ∀(a:Nat),a<yK x k→ ∀(v:List Nat),(∀a∈v,k+1≤a∧a<x.zA.length)→
  ∃tr y,Col x k (J0 a k++(v++z)) tr (nw k y)∧V (suf x k) y∧ ∀(D:Nat)(m:zF)(T:Mx),ExB x.zA.length D x m T→(∀i,i<T.length→Row m.Prime D (T.getD i []))→wQ (suf (exx D x m T) (k+1))→
   fo (exx D x m T) k ((a:Int)::fo (exx D x m T) (k+1) (zeros ((exx D x m T).zA.length-(k+1))) v) z=y++tv m.Prime D m T tr
 | [],_,a,ha,v,hv=>by
  obtain⟨tr,y,c1,c2,c3⟩:=P v hv;have hc:=Col.ctx h hk ha (s:=[]) (fun b hb=>by simp at hb) c1;rw[show(fun q:Nat×List Nat=>(q.1,q.2++[]))=id from by funext q;simp,List.map_id,Ja,Ja]at hc;refine⟨tr,(a:Int)::y,?_,?_,fun D m T hE hT hc=>?_⟩
  ·simp only[nw,J9];rw[Ja];exact hc
  ·rw[yG hk]
   refine⟨⟨by omega,?_⟩,c2⟩;show(a:Int)<at0 x.zA k;have:a<(at0 x.zA k).toNat:=ha;omega
  ·rw[c3 D m T hE hT (zMr h hE hT (by omega) hc)];rfl
 |l::z,hz,a,ha,v,hv=>by
  have eK:∀b∈z,k≤b∧b<x.zA.length:=fun b hb=>hz b (by simp[hb])
  obtain⟨l1,l2⟩:=hz l (by simp);have mg:(a:Int)<at0 x.zA k:=by have:a<(at0 x.zA k).toNat:=ha;omega
  rcases Jj k l with g|g
  ·obtain⟨tr,y,c1,c2,c3⟩:=zPE hk P z eK a ha (v++[l]) (fun b hb=>by
    simp only[Jh,List.mem_singleton]at hb;rcases hb with hb|rfl
    ·exact hv b hb
    ·omega)
   refine⟨tr,y,by rw[Jd]at c1;exact c1,c2,fun D m T hE hT hc=>?_⟩;rw[←c3 D m T hE hT hc,sS,zMq h hE hT hk hc g l2 mg,zCQ];rfl
  ·obtain rfl:l=k:=by omega
   obtain⟨tr1,y1,c1,c2,c3⟩:=P v hv;have gO:=zPC h (show l+1≤x.zA.length by omega) c2;have cU:∀b∈(nw (l+1) y1).reverse,l+1≤b∧b<x.zA.length:=fun b hb=>gO b (by simpa using hb)
   have k1:=Col.ctx h hk ha (s:=l::z) hz c1;have k2:=Col.move h hk ha cU (by rw[Kn];exact zFJ h _ _ (by omega:l+1+(x.zA.length-(l+1))=x.zA.length) y1 c2) eK;rw[Kn]at k2;have p7:=zKz h cU;have val:∀(D:Nat)(m:zF)(T:Mx)(hE:ExB x.zA.length D x m T)(hT:∀i,i<T.length→Row m.Prime D (T.getD i []))(hc:wQ (suf (exx D x m T) (l+1))),
     fo (exx D x m T) l ((a:Int)::fo (exx D x m T) (l+1) (zeros ((exx D x m T).zA.length-(l+1))) v) (l::z)=adK m.Prime D (x.zA.length-l) (fo (exx D x m T) l (mul (suf (exx D x m T) l) ((a:Int)::(y1++zeros D)) (xP ((exx D x m T).zA.length-l) (l-l))) z) (tv m.Prime D m T (tr1.map fun q=>(q.1,q.2++l::z))):=by
    intro D m T hE hT hc;have hp:=hE.m.p.pos;have ht:=zKx (D:=D) (m:=m) (T:=T) (p:=m.Prime) (by omega) tr1;have t6:=zDw h hE hT (k:=l+1) (by omega) c2 (xS (p:=m.Prime) (D:=D) (by omega));have aT:V (suf (exx D x m T) l) ((a:Int)::(y1++zeros D)):=by rw[yG (x:=exx D x m T) (by rw[wG h hE hT];omega)];refine⟨⟨by omega,?_⟩,t6⟩;show(a:Int)<at0 (exx D x m T).zA l;rw[tG h hE hT hk];exact mg
    rw[c3 D m T hE hT (zMr h hE hT (by omega) hc),show y1++tv m.Prime D m T tr1=adK m.Prime D (x.zA.length-(l+1)) (y1++zeros D) (tv m.Prime D m T tr1)from by rw[kF h hE hT (by omega) c2,vZ ht],←zAU h hE hT hk,zPB h hE hT hk hc hz aT ht,zTm (by omega)];rfl
   have foV:∀(D:Nat)(m:zF)(T:Mx)(hE:ExB x.zA.length D x m T)(hT:∀i,i<T.length→Row m.Prime D (T.getD i []))(_hc:wQ (suf (exx D x m T) (l+1))),V (suf (exx D x m T) (l+1)) (fo (exx D x m T) (l+1) (zeros ((exx D x m T).zA.length-(l+1))) (cwd x l (nw (l+1) y1).reverse)):=fun D m T hE hT _hc=>zQB h hE hT hk p7 (zNQ h hE hT (by omega))
   rcases Jj (a+1) (yK x l)with g2|g2
   ·obtain⟨tr2,y2,d1,d2,d3⟩:=zPE hk P z eK (a+1) g2 (cwd x l (nw (l+1) y1).reverse) p7
    refine⟨_,y2,k1.trans (k2.trans d1),d2,fun D m T hE hT hc=>?_⟩;have hp:=hE.m.p.pos;have t6:=zDw h hE hT (k:=l+1) (by omega) c2 (xS (p:=m.Prime) (D:=D) (by omega));have g3:(a:Int)+1<at0 x.zA l:=by have:a+1<(at0 x.zA l).toNat:=g2;omega
    have hF:=foV D m T hE hT hc;have aT:V (suf (exx D x m T) l) (((a:Int)+1)::fo (exx D x m T) (l+1) (zeros ((exx D x m T).zA.length-(l+1))) (cwd x l (nw (l+1) y1).reverse)):=by rw[yG (x:=exx D x m T) (by rw[wG h hE hT];omega)];refine⟨⟨by omega,?_⟩,hF⟩;show(a:Int)+1<at0 (exx D x m T).zA l;rw[tG h hE hT hk];exact g3
    have hd:=zNR (D:=D) (x:=x) (m:=m) (T:=T) (k:=l) (by omega) (nw (l+1) y1).reverse;have d3':=d3 D m T hE hT hc;rw[show(((a+1:Nat):Int))=(a:Int)+1 from by omega]at d3';rw[val D m T hE hT hc,zGj h hE hT hk hc t6,if_neg (by omega),zPD h hE hT hk hc c2,←zAU h hE hT hk,zPB h hE hT hk hc eK aT hd,d3',kF h hE hT (by omega) d2,kF h hE hT (by omega) d2,←zNS (by omega),zIe (by omega),zIe (by omega),tR,tR (u:=tv m.Prime D m T tr2)]
   ·have g4:a+1=yK x l:=by omega
    have p5:=qX h hk;have pD:=tZ h p5 hk;have aX:∀b∈nw 0 (x.zR.getD l [])++cwd x l (nw (l+1) y1).reverse,l+1≤b∧b<x.zA.length:=fun b hb=>by
     simp only[Jh]at hb;rcases hb with hb|hb
     ·exact pD.2 b hb
     ·exact p7 b hb
    obtain⟨tr2,y2,d1,d2,d3⟩:=zPE hk P z eK 0 (by omega) _ aX;rw[Ko,Ju,Jd]at d1;have k3:Col x l (J0 (a+1) l++(cwd x l (nw (l+1) y1).reverse++z)) ((l,cwd x l (nw (l+1) y1).reverse++z)::tr2) (nw l y2):=by
     refine .step (fun b hb=>?_) (by rw[g4];exact zWY (zKy h hk) _) d1;simp only[Jh]at hb;rcases hb with hb|hb|hb
     ·have:=Jm hb;omega
     ·have:=p7 b hb;omega
     ·exact eK b hb
    refine⟨_,y2,k1.trans (k2.trans k3),d2,fun D m T hE hT hc=>?_⟩;have hp:=hE.m.p.pos;have t6:=zDw h hE hT (k:=l+1) (by omega) c2 (xS (p:=m.Prime) (D:=D) (by omega));have g3:(a:Int)+1=at0 x.zA l:=by have:a+1=(at0 x.zA l).toNat:=g4;omega
    have hF:=foV D m T hE hT hc;have hd:=zNR (D:=D) (x:=x) (m:=m) (T:=T) (k:=l) (by omega) (nw (l+1) y1).reverse;have ep:=zBY h hE hT hk;have ct:V (suf x (l+1)) ((x.zR.getD l []).drop (l+1)):=jR p5 hk;have pb:=zDw h hE hT (k:=l+1) (by omega) ct (xS (p:=m.Prime) (D:=D) (by omega));have hw:(lvl (exx D x m T) l).w=adK m.Prime D (x.zA.length-(l+1)) ((x.zR.getD l []).drop (l+1)++zeros D) (T.getD l []):=by rw[zHU h hE hT hk,kF h hE hT (by omega) ct,vZ ep];rfl
    have fQ:=zQA h hE hT hk;have hFw:=zQB h hE hT hk aX (zNQ h hE hT (by omega));have em:mul (suf (exx D x m T) (l+1)) (lvl (exx D x m T) l).w (fo (exx D x m T) (l+1) (zeros ((exx D x m T).zA.length-(l+1))) (cwd x l (nw (l+1) y1).reverse))=adK m.Prime D (x.zA.length-(l+1)) (fo (exx D x m T) (l+1) (zeros ((exx D x m T).zA.length-(l+1))) (nw 0 (x.zR.getD l [])++cwd x l (nw (l+1) y1).reverse)) (wD m.Prime D (T.getD l []) (wM m.Prime D m.zP (cwd x l (nw (l+1) y1).reverse) (idM D))):=by rw[←zIj h hE hT hk hc p7 fQ,hw,zTo h hE hT hk hc p7 pb ep,←zIh h hE hT _ (l+1) (by omega:l+1+(x.zA.length-(l+1))=x.zA.length) hc _ ct,←zCQ,←pD.1]
    have aT:V (suf (exx D x m T) l) ((0:Int)::fo (exx D x m T) (l+1) (zeros ((exx D x m T).zA.length-(l+1))) (nw 0 (x.zR.getD l [])++cwd x l (nw (l+1) y1).reverse)):=by rw[yG (x:=exx D x m T) (by rw[wG h hE hT];omega)];refine⟨⟨by omega,?_⟩,hFw⟩;show(0:Int)<at0 (exx D x m T).zA l;rw[tG h hE hT hk];omega
    have d3':=d3 D m T hE hT hc;rw[show(((0:Nat):Int))=0 from rfl]at d3';rw[val D m T hE hT hc,zGj h hE hT hk hc t6,if_pos (by omega),zPD h hE hT hk hc c2,zMp h hE hT hk hc hF hd fQ,em,zWZ h hE hT (by omega) hFw,g3,Int.sub_self,←zAU h hE hT hk,zPB h hE hT hk hc eK aT (qF (by omega)),d3',kF h hE hT (by omega) d2,kF h hE hT (by omega) d2,zET,←zNS (by omega),←zEU (by omega),zIe (by omega),zIe (by omega)];show y2++adv m.Prime D (adv m.Prime D (tv m.Prime D m T tr2) (adv m.Prime D _ _)) _=y2++adv m.Prime D _ (adv m.Prime D _ (adv m.Prime D _ (tv m.Prime D m T tr2)));rw[tR,tR (u:=tv m.Prime D m T tr2),tR (u:=wD m.Prime D (T.getD l []) _),zDp]
theorem zVR:∀(d k:Nat),k+d=x.zA.length→ ∀z:List Nat,(∀a∈z,k≤a∧a<x.zA.length)→ ∃tr y,qN x k z tr y
 |0,k,hk,z,hz=>by
  have:z=[]:=by
   cases z with
   |nil=>rfl
   |cons a z=>have:=hz a (by simp);omega
  subst this;refine⟨[],[],.refl _,by rw[vV (x:=x) (k:=k) (by omega)];rfl,fun D m T hE hT _=>?_⟩;show zeros _=[]++zeros D;rw[zIg h hE hT (by omega),show x.zA.length-k=0 from by omega];rfl
 |d+1,k,hk,z,hz=>by have ho:=zKy h (show k<x.zA.length by omega);obtain⟨tr,y,c1,c2,c3⟩:=zPE h (show k<x.zA.length by omega) (zVR d (k+1) (by omega)) z hz 0 (by omega) [] (fun b hb=>by simp at hb);refine⟨tr,y,by simpa using c1,c2,fun D m T hE hT hc=>?_⟩;rw[←c3 D m T hE hT hc];have hl:=wG h hE hT;rw[show(exx D x m T).zA.length-k=(exx D x m T).zA.length-(k+1)+1 from by omega];rfl
end
end Go.Pl

namespace Go.Pl
open Go Go.Ab Go.Wk Go.Pc
section
variable {D:Nat}{x:SPr}{m:zF}{T:Mx} (h:Pres x) (hE:ExB x.zA.length D x m T) (hT:∀i,i<T.length→Row m.Prime D (T.getD i []))
 include h hE hT
variable {k:Nat} (hk:k<x.zA.length) (hc:wQ (suf (exx D x m T) (k+1)))
 include hk hc
theorem zG7{w1 w2:List Nat}{t1 t2:List (Nat×List Nat)}{y1 y2:Vec}(k1:qN x k w1 t1 y1)(k2:qN x k w2 t2 y2){r1 r2:Nat}{s1 s2:List Nat}{b:Int}{A1 A2:Vec}(hA1:V (suf (exx D x m T) (k+1)) A1)(hA2:V (suf (exx D x m T) (k+1)) A2)
  (v1:fo (exx D x m T) k (zeros ((exx D x m T).zA.length-k)) w1=b::A1)(v2:fo (exx D x m T) k (zeros ((exx D x m T).zA.length-k)) w2=b::A2)
  (ep:(adK m.Prime D (x.zA.length-(k+1)) A1 (wD m.Prime D (T.getD r1 []) (wM m.Prime D m.zP s1 (idM D)))).take (x.zA.length-(k+1))=(adK m.Prime D (x.zA.length-(k+1)) A2 (wD m.Prime D (T.getD r2 []) (wM m.Prime D m.zP s2 (idM D)))).take (x.zA.length-(k+1))):
  tv m.Prime D m T ((r1,s1)::t1)=tv m.Prime D m T ((r2,s2)::t2)↔adK m.Prime D (x.zA.length-(k+1)) A1 (wD m.Prime D (T.getD r1 []) (wM m.Prime D m.zP s1 (idM D)))=adK m.Prime D (x.zA.length-(k+1)) A2 (wD m.Prime D (T.getD r2 []) (wM m.Prime D m.zP s2 (idM D))):=by
 have _:=hA1;have _:=hA2;have key:∀(w:List Nat)(t:List (Nat×List Nat))(y:Vec)(A:Vec)(r:Nat)(s:List Nat),qN x k w t y→fo (exx D x m T) k (zeros ((exx D x m T).zA.length-k)) w=b::A→
   b::adK m.Prime D (x.zA.length-(k+1)) A (wD m.Prime D (T.getD r []) (wM m.Prime D m.zP s (idM D)))=y++tv m.Prime D m T ((r,s)::t):=by
  intro w t y A r s kc v;rw[←zAU h hE hT hk,←v,kc.val D m T hE hT hc,kF h hE hT (by omega) kc.v,tR];rfl
 have e1:=key w1 t1 y1 A1 r1 s1 k1 v1;have e2:=key w2 t2 y2 A2 r2 s2 k2 v2;have l1:=vC h (by omega) k1.v;have l2:=vC h (by omega) k2.v;have hy:y1=y2:=by have a1:=congrArg (Jbh (x.zA.length-(k+1)+1)) e1;have a2:=congrArg (Jbh (x.zA.length-(k+1)+1)) e2;rw[Ku,Jo (by omega)]at a1 a2;rw[←a1,←a2,ep]
 subst hy;constructor
 ·intro g
  rw[g,←e2]at e1;exact(Qt.inj e1).2
 ·intro g
  rw[g,e2]at e1;exact(List.append_cancel_left e1).symm
theorem zEi{v:List Nat}(hv:∀a∈v,k+1≤a∧a<x.zA.length){z:List Nat}:fo (exx D x m T) k (zeros ((exx D x m T).zA.length-k)) (v++k::z)=fo (exx D x m T) k ((1:Int)::sig (suf (exx D x m T) (k+1)) (lvl (exx D x m T) k) (fo (exx D x m T) (k+1) (zeros ((exx D x m T).zA.length-(k+1))) v)) z:=by
 have ho:=(h.os.2 k hk).pos;have hl:=wG h hE hT;have hF:=zQB h hE hT hk hv (zNQ h hE hT (by omega));rw[show zeros ((exx D x m T).zA.length-k)=0::zeros ((exx D x m T).zA.length-(k+1))from by rw[show(exx D x m T).zA.length-k=(exx D x m T).zA.length-(k+1)+1 from by omega];rfl,zCQ,zIi h hE hT hk hc (by omega) v _ hv,sS,zGj h hE hT hk hc hF,if_neg (by omega)];rfl
 omit hc in
theorem zEV{y:Vec}(hy:V (suf x (k+1)) y):sig (suf (exx D x m T) (k+1)) (lvl (exx D x m T) k) (y++zeros D)=(nw (k+1) y).foldl (fun acc j=>mul (suf (exx D x m T) (k+1)) acc ((lvl (exx D x m T) k).cs.getD (j-(k+1)) [])) (zeros ((exx D x m T).zA.length-(k+1))):=by
  have hp:=hE.m.p.pos;have ez:=vC h (by omega) hy;rw[zBX h hE hT hk hy (xS (by omega)),zAH];obtain⟨y1,u1,e,fg,fT⟩:=(sQ h hE hT (x.zA.length-(k+1)) (k+1) (by omega) _).1 (zHW h hE hT hk (y:=y));have gH:=vC h (by omega) fg;rw[e,Jo gH,K8 gH,zAG fT,←e];unfold sgG;rw[yP];refine zIf _ (fun j=>(lvl (exx D x m T) k).cs.getD (j-(k+1)) []) [] _ _ _ _ (fun j hj=>?_) (by rw[uX h hE hT];omega);rw[uX h hE hT]at hj;rw[show k+1+j-(k+1)=j from by omega,zBW h hE hT hk,J2,J2,Jx (by rw[uX h hE hT];exact hj)]
 omit hc in
theorem zMs{j:Nat}(h1:k+1≤j)(h2:j<x.zA.length):V (suf (exx D x m T) (k+1)) ((lvl (exx D x m T) k).cs.getD (j-(k+1)) []):=by have gC:V (suf x (k+1)) ((lcj x k j).drop (k+1)):=jR (uC h (by omega) h2) hk;rw[zHY h hE hT hk h1 h2,show(lvl x k).cs.getD (j-(k+1)) []=(lcj x k j).drop (k+1)from map_drop];exact zDw h hE hT (by omega) gC (zDC h hE hT (by omega) h2)
theorem zMt:∀{v:List Nat},(∀a∈v,k+1≤a∧a<x.zA.length)→ ∀{e f:Vec},V (suf (exx D x m T) (k+1)) e→V (suf (exx D x m T) (k+1)) f→v.foldl (fun acc j=>mul (suf (exx D x m T) (k+1)) acc ((lvl (exx D x m T) k).cs.getD (j-(k+1)) [])) (mul (suf (exx D x m T) (k+1)) e f)=mul (suf (exx D x m T) (k+1)) e (v.foldl (fun acc j=>mul (suf (exx D x m T) (k+1)) acc ((lvl (exx D x m T) k).cs.getD (j-(k+1)) [])) f)
 | [],_,_,_,_,_=>rfl
 |a::w,hw,e,f,he,hf=>by have gB:=uH h hE hT (k:=k+1) (by omega);have G:=(zCB _ gB hc).toMon;have hg:=zMs h hE hT hk (hw a (by simp)).1 (hw a (by simp)).2;simp only[Gx];rw[G.assoc he hf hg,zMt (fun b hb=>hw b (by simp[hb])) he (G.cl hf hg)]
theorem csE{j:Nat}(h1:k+1≤j)(h2:j<x.zA.length):V (suf x (k+1)) ((lcj x k j).drop (k+1))∧(lvl (exx D x m T) k).cs.getD (j-(k+1)) []=adK m.Prime D (x.zA.length-(k+1)) ((lcj x k j).drop (k+1)++zeros D) (T.getD (base x.zA.length k+(j-(k+1))) [])∧
  fo (exx D x m T) (k+1) (zeros ((exx D x m T).zA.length-(k+1))) (nw 0 (lcj x k j))=(lcj x k j).drop (k+1)++zeros D∧(∀a∈nw 0 (lcj x k j),k+1≤a∧a<x.zA.length):=by
 have gC:V (suf x (k+1)) ((lcj x k j).drop (k+1)):=jR (uC h (by omega) h2) hk;have fP:=tZ h (uC h (show k<j by omega) h2) hk;refine⟨gC,?_,?_,fP.2⟩
 ·rw[zHY h hE hT hk h1 h2,show(lvl x k).cs.getD (j-(k+1)) []=(lcj x k j).drop (k+1)from map_drop,kF h hE hT (by omega) gC,vZ (zDC h hE hT (by omega) h2)]
 ·rw[fP.1];exact zIh h hE hT _ (k+1) (by omega:k+1+(x.zA.length-(k+1))=x.zA.length) hc _ gC
theorem wE:V (suf x (k+1)) ((x.zR.getD k []).drop (k+1))∧(lvl (exx D x m T) k).w=adK m.Prime D (x.zA.length-(k+1)) ((x.zR.getD k []).drop (k+1)++zeros D) (T.getD k [])∧
  fo (exx D x m T) (k+1) (zeros ((exx D x m T).zA.length-(k+1))) (nw 0 (x.zR.getD k []))=(x.zR.getD k []).drop (k+1)++zeros D∧(∀a∈nw 0 (x.zR.getD k []),k+1≤a∧a<x.zA.length):=by
 have ct:V (suf x (k+1)) ((x.zR.getD k []).drop (k+1)):=jR (qX h hk) hk;have pD:=tZ h (qX h hk) hk;refine⟨ct,?_,?_,pD.2⟩
 ·rw[zHU h hE hT hk,kF h hE hT (by omega) ct,vZ (zBY h hE hT hk)];rfl
 ·rw[pD.1];exact zIh h hE hT _ (k+1) (by omega:k+1+(x.zA.length-(k+1))=x.zA.length) hc _ ct
 omit hc in
theorem zK0{a:Nat}(ha:a<x.zA.length):wM m.Prime D m.zP [a] (idM D)=m.zP.getD a []:=by have _:=h;have _:=hT;have _:=hk;show PM m.Prime D (idM D) (m.zP.getD a [])=_;exact zEE (hE.m.mat a ha)
theorem zXc(hL:LC x k){t1 t2:List (Nat×List Nat)}{y1 y2:Vec}(k1:qN x k (nw 0 (x.zR.getD k [])++[k]) t1 y1)(k2:qN x k (k::nw 0 (x.zR.getD k [])) t2 y2):
  tv m.Prime D m T ((k,[k])::t1)=tv m.Prime D m T ((k,[])::t2)↔sig (suf (exx D x m T) (k+1)) (lvl (exx D x m T) k) (lvl (exx D x m T) k).w=(lvl (exx D x m T) k).w:=by
 have hp:=hE.m.p.pos;have ho:=(h.os.2 k hk).pos;obtain⟨w1,w2,w3,w4⟩:=wE h hE hT hk hc;have ep:=zBY h hE hT hk;have pb:=zDw h hE hT (k:=k+1) (by omega) w1 (xS (p:=m.Prime) (D:=D) (by omega));have fQ:=zQA h hE hT hk;have v1:=zEi h hE hT hk hc w4 (z:=[]);rw[w3]at v1;have v2:=zEi h hE hT hk hc (v:=[]) (fun a ha=>by simp at ha) (z:=nw 0 (x.zR.getD k []));have hz:fo (exx D x m T) (k+1) (zeros ((exx D x m T).zA.length-(k+1))) []=zeros ((exx D x m T).zA.length-(k+1)):=rfl;have hs:sig (suf (exx D x m T) (k+1)) (lvl (exx D x m T) k) (zeros ((exx D x m T).zA.length-(k+1)))=zeros ((exx D x m T).zA.length-(k+1)):=by unfold sig;rw[qB,yP]
 rw[hz,hs,zIi h hE hT hk hc (by omega) _ _ w4,w3]at v2;have e1:adK m.Prime D (x.zA.length-(k+1)) (sig (suf (exx D x m T) (k+1)) (lvl (exx D x m T) k) ((x.zR.getD k []).drop (k+1)++zeros D)) (wD m.Prime D (T.getD k []) (wM m.Prime D m.zP [k] (idM D)))=sig (suf (exx D x m T) (k+1)) (lvl (exx D x m T) k) (lvl (exx D x m T) k).w:=by rw[zK0 h hE hT hk hk,w2,zId h hE hT hk pb ep]
 have e2:adK m.Prime D (x.zA.length-(k+1)) ((x.zR.getD k []).drop (k+1)++zeros D) (wD m.Prime D (T.getD k []) (wM m.Prime D m.zP [] (idM D)))=(lvl (exx D x m T) k).w:=by rw[show wM m.Prime D m.zP [] (idM D)=idM D from rfl,jN ep,w2]
 have:=zG7 h hE hT hk hc k1 k2 (r1:=k) (r2:=k) (s1:=[k]) (s2:=[]) (zAI h hE hT hk pb) pb v1 v2 (by rw[e1,e2,zEf h hE hT hk fQ,zHU h hE hT hk,Jo (by have:=vC h (by omega) w1;exact this)];exact hL.c3)
 rw[e1,e2]at this;exact this
end
end Go.Pl

namespace Go.Pl
open Go Go.Ab Go.Wk Go.Pc
theorem zXd:∀(a o:Nat)(b:Int)(c:Vec),nw o (zeros a++b::c)=J0 b.toNat (o+a)++nw (o+a+1) c
 |0,o,b,c=>rfl
 |a+1,o,b,c=>by rw[show zeros (a+1)++b::c=0::(zeros a++b::c)from rfl];simp only[nw,Gb,Ko,Ju];rw[zXd a (o+1) b c,show o+1+a=o+(a+1)from by omega]
theorem zK1{os v:List Int}{j k:Nat}(hv:Exp os v j)(hk:k≤j):Exp os v k:=⟨hv.1,fun i hi=>hv.2 i (by omega)⟩
section
variable {x:SPr} (h:Pres x)
 include h
theorem zXe:∀(a k:Nat){b:Int}{c:Vec},k+a<x.zA.length→0≤b→b<at0 x.zA (k+a)→V (suf x (k+a+1)) c→V (suf x k) (zeros a++b::c)
 |0,k,b,c,ha,h0,h1,hc=>by rw[yG (x:=x) (by omega)];exact⟨⟨h0,h1⟩,hc⟩
 |a+1,k,b,c,ha,h0,h1,hc=>by
  have:=(h.os.2 k (by omega)).pos;rw[yG (x:=x) (by omega)];refine⟨⟨Int.le_refl 0,?_⟩,?_⟩
  ·show(0:Int)<at0 x.zA k
   omega
  ·exact zXe a (k+1) (by omega) h0 (by rwa [show k+1+a=k+(a+1)from by omega]) (by rwa [show k+1+a+1=k+(a+1)+1 from by omega])
end
section
variable {D:Nat}{x:SPr}{m:zF}{T:Mx} (h:Pres x) (hE:ExB x.zA.length D x m T) (hT:∀i,i<T.length→Row m.Prime D (T.getD i []))
 include h hE hT
variable {k:Nat} (hk:k<x.zA.length) (hc:wQ (suf (exx D x m T) (k+1)))
 include hk hc
theorem zNT{j:Nat}(h1:k+1≤j)(h2:j<x.zA.length){b:Int}(h0:0≤b)(hb:b<at0 x.zA j){c:Vec}(p8:V (suf x (j+1)) c):V (suf x (k+1)) (zeros (j-(k+1))++b::c)∧nw (k+1) (zeros (j-(k+1))++b::c)=J0 b.toNat j++nw (j+1) c∧
  fo (exx D x m T) (k+1) (zeros ((exx D x m T).zA.length-(k+1))) (J0 b.toNat j++nw (j+1) c)=(zeros (j-(k+1))++b::c)++zeros D:=by
 have e:k+1+(j-(k+1))=j:=by omega
 have hv:V (suf x (k+1)) (zeros (j-(k+1))++b::c):=zXe h (j-(k+1)) (k+1) (by omega) h0 (by rwa [e]) (by rwa [e]);have hn:nw (k+1) (zeros (j-(k+1))++b::c)=J0 b.toNat j++nw (j+1) c:=by rw[zXd,e]
 refine⟨hv,hn,?_⟩;rw[←hn];exact zIh h hE hT _ (k+1) (by omega:k+1+(x.zA.length-(k+1))=x.zA.length) hc _ hv
theorem zPF{e:Vec}(he:V (suf (exx D x m T) (k+1)) e):mul (suf (exx D x m T) (k+1)) (zeros ((exx D x m T).zA.length-(k+1))) e=e:=by
 have G:=(zCB _ (uH h hE hT (k:=k+1) (by omega)) hc).toMon;have:=G.onel he
 rwa [yP]at this
theorem zPG{j:Nat}(h1:k+1≤j)(h2:j<x.zA.length):fo (exx D x m T) (k+1) (zeros ((exx D x m T).zA.length-(k+1))) [j]=xP ((exx D x m T).zA.length-(k+1)) (j-(k+1))∧sig (suf (exx D x m T) (k+1)) (lvl (exx D x m T) k) (xP ((exx D x m T).zA.length-(k+1)) (j-(k+1)))=(lvl (exx D x m T) k).cs.getD (j-(k+1)) []:=by
 have ho:=(h.os.2 j h2).pos;have hz:V (suf x (j+1)) (zeros (x.zA.length-(j+1))):=by have:=wO (h.okAt (k:=j+1) (by omega));rwa [yP]at this
 obtain⟨v1,v2,v3⟩:=zNT h hE hT hk hc h1 h2 (b:=1) (by omega) (by omega) hz;have hn:nw (j+1) (zeros (x.zA.length-(j+1)))=[]:=zCP _ _;rw[hn]at v2 v3;have hf:fo (exx D x m T) (k+1) (zeros ((exx D x m T).zA.length-(k+1))) [j]=xP ((exx D x m T).zA.length-(k+1)) (j-(k+1)):=zPF h hE hT hk hc (zCR h hE hT h1 h2);refine⟨hf,?_⟩;rw[←hf];have v3':fo (exx D x m T) (k+1) (zeros ((exx D x m T).zA.length-(k+1))) [j]=_:=v3;rw[v3',zEV h hE hT hk v1,v2];exact zPF h hE hT hk hc (zMs h hE hT hk h1 h2)
theorem zXf(hL:LC x k){j:Nat}(h1:k+1≤j)(h2:j<x.zA.length){t1 t2:List (Nat×List Nat)}{y1 y2:Vec}(k1:qN x k (nw 0 (x.zR.getD j [])++[k]) t1 y1)(k2:qN x k (J0 (yK x j-1) j++k::nw 0 (lcj x k j)) t2 y2):
  tv m.Prime D m T ((j,[k])::t1)=tv m.Prime D m T ((base x.zA.length k+(j-(k+1)),[])::t2)↔c1E (exx D x m T) k j:=by
 have hp:=hE.m.p.pos;have ho:=(h.os.2 k hk).pos;have hj:=(h.os.2 j h2).pos;have p5:=zK1 (qX h h2) (show k≤j by omega);have ct:V (suf x (k+1)) ((x.zR.getD j []).drop (k+1)):=jR p5 hk;have pD:=tZ h p5 hk;have tx:=zBY h hE hT h2;have pb:=zDw h hE hT (k:=k+1) (by omega) ct (xS (p:=m.Prime) (D:=D) (by omega));obtain⟨c1,c2,c3,c4⟩:=csE h hE hT hk hc h1 h2;have cG:=zDw h hE hT (k:=k+1) (by omega) c1 (xS (p:=m.Prime) (D:=D) (by omega));have hcV:=zMs h hE hT hk h1 h2;have ep:=zDC h hE hT (show k<j by omega) h2;have mE:V (suf x (j+1)) (zeros (x.zA.length-(j+1))):=by have:=wO (h.okAt (k:=j+1) (by omega));rwa [yP]at this
 obtain⟨u1,u2,u3⟩:=zNT h hE hT hk hc h1 h2 (b:=at0 x.zA j-1) (by omega) (by omega) mE;rw[zCP,Ja,show(at0 x.zA j-1).toNat=yK x j-1 from by show _=(at0 x.zA j).toNat-1;omega]at u2 u3;have gB:=uH h hE hT (k:=k+1) (by omega);have G:=(zCB _ gB hc).toMon;have v1:=zEi h hE hT hk hc pD.2 (z:=[]);rw[pD.1,zIh h hE hT _ (k+1) (by omega:k+1+(x.zA.length-(k+1))=x.zA.length) hc _ ct,←pD.1]at v1;have hr:∀a∈J0 (yK x j-1) j,k+1≤a∧a<x.zA.length:=fun a ha=>by have:=Jm ha;omega
 have v2:=zEi h hE hT hk hc hr (z:=nw 0 (lcj x k j));have u7:∀q(e:Vec),(J0 q j).foldl (fun acc j=>mul (suf (exx D x m T) (k+1)) acc ((lvl (exx D x m T) k).cs.getD (j-(k+1)) [])) e=iter q (fun v=>mul (suf (exx D x m T) (k+1)) v ((lvl (exx D x m T) k).cs.getD (j-(k+1)) [])) e:=by
  intro q
  induction q with
  |zero=>intro e;rfl
  |succ q ih=>intro e;rw[Jq,Gx,ih];rfl
 have d7:sig (suf (exx D x m T) (k+1)) (lvl (exx D x m T) k) (fo (exx D x m T) (k+1) (zeros ((exx D x m T).zA.length-(k+1))) (J0 (yK x j-1) j))=pw (mul (suf (exx D x m T) (k+1))) (zeros (suf (exx D x m T) (k+1)).length) ((lvl (exx D x m T) k).cs.getD (j-(k+1)) []) (yK x j-1):=by rw[u3,zEV h hE hT hk u1,u2,u7,yP];rfl
 have ug:V (suf (exx D x m T) (k+1)) (pw (mul (suf (exx D x m T) (k+1))) (zeros (suf (exx D x m T) (k+1)).length) ((lvl (exx D x m T) k).cs.getD (j-(k+1)) []) (yK x j-1)):=tV G hcV _;rw[d7,zIi h hE hT hk hc (by omega) _ _ c4,zIj h hE hT hk hc c4 ug,c3]at v2;have e1:adK m.Prime D (x.zA.length-(k+1)) (sig (suf (exx D x m T) (k+1)) (lvl (exx D x m T) k) ((x.zR.getD j []).drop (k+1)++zeros D)) (wD m.Prime D (T.getD j []) (wM m.Prime D m.zP [k] (idM D)))=sig (suf (exx D x m T) (k+1)) (lvl (exx D x m T) k) (((exx D x m T).zR.getD j []).drop (k+1)):=by rw[zK0 h hE hT hk hk,zEd h hE hT (by omega) h2,←zId h hE hT hk pb tx,kF h hE hT (by omega) ct,vZ tx]
 have e2:adK m.Prime D (x.zA.length-(k+1)) (mul (suf (exx D x m T) (k+1)) (pw (mul (suf (exx D x m T) (k+1))) (zeros (suf (exx D x m T) (k+1)).length) ((lvl (exx D x m T) k).cs.getD (j-(k+1)) []) (yK x j-1)) ((lcj x k j).drop (k+1)++zeros D)) (wD m.Prime D (T.getD (base x.zA.length k+(j-(k+1))) []) (wM m.Prime D m.zP [] (idM D)))=pw (mul (suf (exx D x m T) (k+1))) (zeros (suf (exx D x m T) (k+1)).length) ((lvl (exx D x m T) k).cs.getD (j-(k+1)) []) (at0 (exx D x m T).zA j).toNat:=by
  rw[show wM m.Prime D m.zP [] (idM D)=idM D from rfl,jN ep,←zMp h hE hT hk hc cG ep ug,←c2,tG h hE hT h2,show(at0 x.zA j).toNat=(yK x j-1)+1 from by show _=(at0 x.zA j).toNat-1+1;omega]
  conv=>rhs;rw[pw,vG]
  rfl
 have ee:V (suf (exx D x m T) (k+1)) (((exx D x m T).zR.getD j []).drop (k+1)):=by rw[zEd h hE hT (by omega) h2];exact zDw h hE hT (by omega) ct tx
 have:=zG7 h hE hT hk hc k1 k2 (r1:=j) (r2:=base x.zA.length k+(j-(k+1))) (s1:=[k]) (s2:=[]) (zAI h hE hT hk pb) (xK gB ug cG) v1 v2 (by rw[e1,e2,zEf h hE hT hk ee,zIc h hE hT hk (by omega) h2,zWX h hE hT (by omega) hcV,zJw h hE hT hk h1 h2,tG h hE hT h2];exact(hL.c1 j h1 h2).symm)
 rw[e1,e2]at this;rw[this];exact eq_comm
theorem zXg(hL:LC x k){i j:Nat}(h1:k+1≤i)(gM:i<j)(h2:j<x.zA.length){t1 t2:List (Nat×List Nat)}{y1 y2:Vec}(k1:qN x k (i::(nw 0 (lcj x i j)++[k])) t1 y1)(k2:qN x k (j::k::nw 0 (lcj x k i)) t2 y2):
  tv m.Prime D m T ((base x.zA.length i+(j-(i+1)),[k])::t1)=tv m.Prime D m T ((base x.zA.length k+(i-(k+1)),[])::t2)↔c2E (exx D x m T) k i j:=by
 have hp:=hE.m.p.pos;have ho:=(h.os.2 k hk).pos;have hi:=(h.os.2 i (by omega)).pos;have bq:=uC h gM h2;have di:=zK1 bq (show k≤i by omega);have bU:V (suf x (k+1)) ((lcj x i j).drop (k+1)):=jR di hk;have hci:V (suf x (i+1)) ((lcj x i j).drop (i+1)):=jR bq (by omega);have hn:=tZ h di hk;have hni:=tZ h bq (by omega);have tz:=zDC h hE hT gM h2;have dp:=zDw h hE hT (k:=k+1) (by omega) bU (xS (p:=m.Prime) (D:=D) (by omega));obtain⟨c1,c2,c3,c4⟩:=csE h hE hT hk hc h1 (show i<x.zA.length by omega);have cG:=zDw h hE hT (k:=k+1) (by omega) c1 (xS (p:=m.Prime) (D:=D) (by omega));have cd:=zMs h hE hT hk h1 (show i<x.zA.length by omega);have mb:=zMs h hE hT hk (show k+1≤j by omega) h2;have ep:=zDC h hE hT (show k<i by omega) (show i<x.zA.length by omega);have gB:=uH h hE hT (k:=k+1) (by omega);obtain⟨u1,u2,u3⟩:=zNT h hE hT hk hc h1 (show i<x.zA.length by omega) (b:=1) (by omega) (by omega) hci;rw[←hni.1,show J0 (1:Int).toNat i++nw 0 (lcj x i j)=i::nw 0 (lcj x i j)from rfl]at u2 u3;have hr:∀a∈i::nw 0 (lcj x i j),k+1≤a∧a<x.zA.length:=fun a ha=>by
  simp only[Jc]at ha;rcases ha with rfl|ha
  ·omega
  ·exact hn.2 a ha
 have v1:=zEi h hE hT hk hc hr (z:=[]);have es:sig (suf (exx D x m T) (k+1)) (lvl (exx D x m T) k) (fo (exx D x m T) (k+1) (zeros ((exx D x m T).zA.length-(k+1))) (i::nw 0 (lcj x i j)))=mul (suf (exx D x m T) (k+1)) ((lvl (exx D x m T) k).cs.getD (i-(k+1)) []) (sig (suf (exx D x m T) (k+1)) (lvl (exx D x m T) k) ((lcj x i j).drop (k+1)++zeros D)):=by rw[u3,zEV h hE hT hk u1,u2,Gx,zPF h hE hT hk hc cd,zEV h hE hT hk bU,←hn.1];have:=zMt h hE hT hk hc hn.2 cd (zNQ h hE hT (k:=k+1) (by omega));rw[zY8 h hE hT (by omega) cd]at this;exact this
 rw[es]at v1;have v2:=zEi h hE hT hk hc (v:=[j]) (fun a ha=>by simp only[List.mem_singleton]at ha;omega) (z:=nw 0 (lcj x k i));obtain⟨g1,g2⟩:=zPG h hE hT hk hc (show k+1≤j by omega) h2;rw[g1,g2,zIi h hE hT hk hc (by omega) _ _ c4,zIj h hE hT hk hc c4 mb,c3]at v2;have cX:=zAI h hE hT hk dp;have hH:((((exx D x m T).zE.getD i []).getD (j-(i+1)) []).drop (k+1))=adK m.Prime D (x.zA.length-(k+1)) ((lcj x i j).drop (k+1)++zeros D) (T.getD (base x.zA.length i+(j-(i+1))) []):=by rw[zFG h hE hT (by omega) gM h2,kF h hE hT (by omega) bU,vZ tz]
 have e1:adK m.Prime D (x.zA.length-(k+1)) (mul (suf (exx D x m T) (k+1)) ((lvl (exx D x m T) k).cs.getD (i-(k+1)) []) (sig (suf (exx D x m T) (k+1)) (lvl (exx D x m T) k) ((lcj x i j).drop (k+1)++zeros D))) (wD m.Prime D (T.getD (base x.zA.length i+(j-(i+1))) []) (wM m.Prime D m.zP [k] (idM D)))=mul (suf (exx D x m T) (k+1)) ((lvl (exx D x m T) k).cs.getD (i-(k+1)) []) (sig (suf (exx D x m T) (k+1)) (lvl (exx D x m T) k) ((((exx D x m T).zE.getD i []).getD (j-(i+1)) []).drop (k+1))):=by rw[zK0 h hE hT hk hk,←zMp h hE hT hk hc cX (vA (by omega)) cd,←zId h hE hT hk dp tz,←hH]
 have e2:adK m.Prime D (x.zA.length-(k+1)) (mul (suf (exx D x m T) (k+1)) ((lvl (exx D x m T) k).cs.getD (j-(k+1)) []) ((lcj x k i).drop (k+1)++zeros D)) (wD m.Prime D (T.getD (base x.zA.length k+(i-(k+1))) []) (wM m.Prime D m.zP [] (idM D)))=mul (suf (exx D x m T) (k+1)) ((lvl (exx D x m T) k).cs.getD (j-(k+1)) []) ((lvl (exx D x m T) k).cs.getD (i-(k+1)) []):=by rw[show wM m.Prime D m.zP [] (idM D)=idM D from rfl,jN ep,←zMp h hE hT hk hc cG ep mb,←c2]
 have aO:V (suf (exx D x m T) (k+1)) ((((exx D x m T).zE.getD i []).getD (j-(i+1)) []).drop (k+1)):=by rw[hH];exact zY9 h hE hT (by omega) dp
 have:=zG7 h hE hT hk hc k1 k2 (r1:=base x.zA.length i+(j-(i+1))) (r2:=base x.zA.length k+(i-(k+1))) (s1:=[k]) (s2:=[]) (xK gB cd cX) (xK gB mb cG) v1 v2 (by rw[e1,e2,zCa h hE hT (by omega) cd (zAI h hE hT hk aO),zCa h hE hT (by omega) mb cd,zEf h hE hT hk aO,zJw h hE hT hk h1 (by omega),zJw h hE hT hk (by omega) h2,zTf h hE hT hk h1 gM h2];exact(hL.c2 i h1 (by omega) j (by omega) h2).symm)
 rw[e1,e2]at this;rw[this];exact eq_comm
end
end Go.Pl

namespace Go.Pl
open Go Go.Ab Go.Wk Go.Pc
section
variable {D:Nat}{x:SPr}{m:zF}{T:Mx} (h:Pres x) (hE:ExB x.zA.length D x m T) (hT:∀i,i<T.length→Row m.Prime D (T.getD i []))
 include h hE hT
variable {k:Nat} (hk:k<x.zA.length) (hc:wQ (suf (exx D x m T) (k+1)))
 include hk hc
 omit hc in
theorem zNU:∀(q:Nat){e:Vec},V (suf (exx D x m T) (k+1)) e→V (suf (exx D x m T) (k+1)) (iter q (sig (suf (exx D x m T) (k+1)) (lvl (exx D x m T) k)) e)
  |0,_,he=>he
  |q+1,_,he=>zNU q (zAI h hE hT hk he)
 omit hc in
theorem zXh:∀(q:Nat){e d:Vec},V (suf (exx D x m T) (k+1)) e→Row m.Prime D d→iter q (sig (suf (exx D x m T) (k+1)) (lvl (exx D x m T) k)) (adK m.Prime D (x.zA.length-(k+1)) e d)=adK m.Prime D (x.zA.length-(k+1)) (iter q (sig (suf (exx D x m T) (k+1)) (lvl (exx D x m T) k)) e) (wD m.Prime D d (wM m.Prime D m.zP (J0 q k) (idM D)))
  |0,e,d,_,hd=>by show adK _ _ _ e d=adK _ _ _ e (wD m.Prime D d (idM D));rw[jN hd]
  |q+1,e,d,he,hd=>by have hp:=hE.m.p.pos;show iter q _ (sig _ _ (adK _ _ _ e d))=adK _ _ _ (iter q _ (sig _ _ e)) _;rw[zId h hE hT hk he hd,zXh q (zAI h hE hT hk he) (vA (by omega)),Jq,show k::J0 q k=[k]++J0 q k from rfl,zEU (by omega),zK0 h hE hT hk hk]
theorem zTr:∀(q:Nat){c:Int}{e:Vec},0≤c→c+(q:Int)<at0 x.zA k→V (suf (exx D x m T) (k+1)) e→fo (exx D x m T) k (c::e) (J0 q k)=(c+(q:Int))::iter q (sig (suf (exx D x m T) (k+1)) (lvl (exx D x m T) k)) e
 |0,c,e,_,_,_=>by
  show c::e=(c+((0:Nat):Int))::e
  congr 1;omega
 |q+1,c,e,h0,h1,he=>by
  rw[Jq,sS,zGj h hE hT hk hc he,if_neg (by omega),zTr q (by omega) (by omega) (zAI h hE hT hk he)];show(c+1+(q:Int))::iter q _ (sig _ _ e)=(c+((q+1:Nat):Int))::iter q _ (sig _ _ e)
  congr 1;omega
theorem zXi(hL:LC x k){j:Nat}(h1:k+1≤j)(h2:j<x.zA.length){t1 t2:List (Nat×List Nat)}{y1 y2:Vec}(k1:qN x k (k::(nw 0 (lcj x k j)++J0 (yK x k-1) k)) t1 y1)(k2:qN x k (j::nw 0 (x.zR.getD k [])) t2 y2):
  tv m.Prime D m T ((base x.zA.length k+(j-(k+1)),J0 (yK x k-1) k)::t1)=tv m.Prime D m T ((k,[])::t2)↔c4E (exx D x m T) k j:=by
 have hp:=hE.m.p.pos;have ho:=(h.os.2 k hk).pos;have hon:(yK x k:Int)=at0 x.zA k:=by show(((at0 x.zA k).toNat:Nat):Int)=_;omega
 obtain⟨w1,w2,w3,w4⟩:=wE h hE hT hk hc;have pb:=zDw h hE hT (k:=k+1) (by omega) w1 (xS (p:=m.Prime) (D:=D) (by omega));have fQ:=zQA h hE hT hk;have ep:=zBY h hE hT hk;obtain⟨c1,c2,c3,c4⟩:=csE h hE hT hk hc h1 h2;have cG:=zDw h hE hT (k:=k+1) (by omega) c1 (xS (p:=m.Prime) (D:=D) (by omega));have tx:=zDC h hE hT (show k<j by omega) h2;have gB:=uH h hE hT (k:=k+1) (by omega);have hg:=zCR h hE hT h1 h2;obtain⟨g1,g2⟩:=zPG h hE hT hk hc h1 h2;have hz:fo (exx D x m T) (k+1) (zeros ((exx D x m T).zA.length-(k+1))) []=zeros ((exx D x m T).zA.length-(k+1)):=rfl;have hs:sig (suf (exx D x m T) (k+1)) (lvl (exx D x m T) k) (zeros ((exx D x m T).zA.length-(k+1)))=zeros ((exx D x m T).zA.length-(k+1)):=by unfold sig;rw[qB,yP]
 have hl:=wG h hE hT;have v1:=zEi h hE hT hk hc (v:=[]) (fun a ha=>by simp at ha) (z:=nw 0 (lcj x k j)++J0 (yK x k-1) k);rw[hz,hs]at v1;have v0:=v1.trans (zCQ (e:=exx D x m T) (k:=k) (u:=(1:Int)::zeros ((exx D x m T).zA.length-(k+1))) (v:=nw 0 (lcj x k j)) (w:=J0 (yK x k-1) k));rw[zIi h hE hT hk hc (by omega) _ _ c4,c3]at v0;have e6:=zNU h hE hT hk (yK x k-2) cG;have v1':fo (exx D x m T) k (zeros ((exx D x m T).zA.length-k)) (k::(nw 0 (lcj x k j)++J0 (yK x k-1) k))=0::mul (suf (exx D x m T) (k+1)) (lvl (exx D x m T) k).w (iter (yK x k-1) (sig (suf (exx D x m T) (k+1)) (lvl (exx D x m T) k)) ((lcj x k j).drop (k+1)++zeros D)):=by
  refine v0.trans ?_;rw[show yK x k-1=(yK x k-2)+1 from by omega,Ln,zCQ,zTr h hE hT hk hc (yK x k-2) (by omega) (by omega) cG];show mul _ _ _=_;rw[zGj h hE hT hk hc e6,if_pos (by omega),vG]
  congr 1;omega
 have hr:∀a∈j::nw 0 (x.zR.getD k []),k+1≤a∧a<x.zA.length:=fun a ha=>by
  simp only[Jc]at ha;rcases ha with rfl|ha
  ·omega
  ·exact w4 a ha
 have v2:fo (exx D x m T) k (zeros ((exx D x m T).zA.length-k)) (j::nw 0 (x.zR.getD k []))=0::mul (suf (exx D x m T) (k+1)) (xP ((exx D x m T).zA.length-(k+1)) (j-(k+1))) ((x.zR.getD k []).drop (k+1)++zeros D):=by rw[show zeros ((exx D x m T).zA.length-k)=0::zeros ((exx D x m T).zA.length-(k+1))from by rw[show(exx D x m T).zA.length-k=(exx D x m T).zA.length-(k+1)+1 from by omega];rfl,zIi h hE hT hk hc (by omega) _ _ hr,sS,zPF h hE hT hk hc hg,zIj h hE hT hk hc w4 hg,w3]
 have e1:adK m.Prime D (x.zA.length-(k+1)) (mul (suf (exx D x m T) (k+1)) (lvl (exx D x m T) k).w (iter (yK x k-1) (sig (suf (exx D x m T) (k+1)) (lvl (exx D x m T) k)) ((lcj x k j).drop (k+1)++zeros D))) (wD m.Prime D (T.getD (base x.zA.length k+(j-(k+1))) []) (wM m.Prime D m.zP (J0 (yK x k-1) k) (idM D)))=mul (suf (exx D x m T) (k+1)) (lvl (exx D x m T) k).w (iter (lvl (exx D x m T) k).o.toNat (sig (suf (exx D x m T) (k+1)) (lvl (exx D x m T) k)) (xP ((exx D x m T).zA.length-(k+1)) (j-(k+1)))):=by rw[←zMp h hE hT hk hc (zNU h hE hT hk _ cG) (vA (by omega)) fQ,←zXh h hE hT hk _ cG tx,←c2,←g2,zB5 h hE hT hk,show(at0 x.zA k).toNat=(yK x k-1)+1 from by show _=(at0 x.zA k).toNat-1+1;omega];rfl
 have e2:adK m.Prime D (x.zA.length-(k+1)) (mul (suf (exx D x m T) (k+1)) (xP ((exx D x m T).zA.length-(k+1)) (j-(k+1))) ((x.zR.getD k []).drop (k+1)++zeros D)) (wD m.Prime D (T.getD k []) (wM m.Prime D m.zP [] (idM D)))=mul (suf (exx D x m T) (k+1)) (xP ((exx D x m T).zA.length-(k+1)) (j-(k+1))) (lvl (exx D x m T) k).w:=by rw[show wM m.Prime D m.zP [] (idM D)=idM D from rfl,jN ep,←zMp h hE hT hk hc pb ep hg,←w2]
 have dA:(lvl (exx D x m T) k).w.take (x.zA.length-(k+1))=(lvl x k).w:=zIc h hE hT hk (Jl k) hk;have eY:(xP (x.zA.length-(k+1)) (j-(k+1))).length=x.zA.length-(k+1):=by simp[xP,zeros]
 have:=zG7 h hE hT hk hc k1 k2 (r1:=base x.zA.length k+(j-(k+1))) (r2:=k) (s1:=J0 (yK x k-1) k) (s2:=[]) (xK gB fQ (zNU h hE hT hk _ cG)) (xK gB hg pb) v1' v2 (by rw[e1,e2,zCa h hE hT (by omega) fQ (zNU h hE hT hk _ hg),zCa h hE hT (by omega) hg fQ,zKt h hE hT hk _ hg,dA,zTg h hE hT hk h1 h2,Jo eY,zB5 h hE hT hk];exact hL.c4 j h1 h2)
 rw[e1,e2]at this;exact this
end
structure zK2 (x:SPr) (k:Nat) (r1:Nat) (s1 w1:List Nat) (r2:Nat) (s2 w2:List Nat) (t1 t2:List (Nat×List Nat)):Prop where
 a:∃u1 y1,t1=(r1,s1)::u1∧qN x k w1 u1 y1
 b:∃u2 y2,t2=(r2,s2)::u2∧qN x k w2 u2 y2
structure zXj (x:SPr) (D:Nat) (m:zF) (T:Mx):Prop where
 p1:∀k j,k<j→j<x.zA.length→ ∀t1 t2,zK2 x k j [k] (nw 0 (x.zR.getD j [])++[k]) (base x.zA.length k+(j-(k+1))) [] (J0 (yK x j-1) j++k::nw 0 (lcj x k j)) t1 t2→tv m.Prime D m T t1=tv m.Prime D m T t2
 p2:∀k i j,k<i→i<j→j<x.zA.length→ ∀t1 t2,zK2 x k (base x.zA.length i+(j-(i+1))) [k] (i::(nw 0 (lcj x i j)++[k])) (base x.zA.length k+(i-(k+1))) [] (j::k::nw 0 (lcj x k i)) t1 t2→tv m.Prime D m T t1=tv m.Prime D m T t2
 p3:∀k,k<x.zA.length→ ∀t1 t2,zK2 x k k [k] (nw 0 (x.zR.getD k [])++[k]) k [] (k::nw 0 (x.zR.getD k [])) t1 t2→tv m.Prime D m T t1=tv m.Prime D m T t2
 p4:∀k j,k<j→j<x.zA.length→ ∀t1 t2,zK2 x k (base x.zA.length k+(j-(k+1))) (J0 (yK x k-1) k) (k::(nw 0 (lcj x k j)++J0 (yK x k-1) k)) k [] (j::nw 0 (x.zR.getD k [])) t1 t2→tv m.Prime D m T t1=tv m.Prime D m T t2
end Go.Pl

namespace Go.Pl
open Go Go.Ab Go.Wk Go.Pc
section
variable {D:Nat}{x:SPr}{m:zF}{T:Mx} (h:Pres x) (hE:ExB x.zA.length D x m T) (hT:∀i,i<T.length→Row m.Prime D (T.getD i []))
 include h hE hT
theorem zJx{k:Nat}(hk:k<x.zA.length)(hL:LC x k)(hc:wQ (suf (exx D x m T) (k+1))):LCn x (exx D x m T) k↔
  (∀j,k<j→j<x.zA.length→ ∀t1 t2,zK2 x k j [k] (nw 0 (x.zR.getD j [])++[k]) (base x.zA.length k+(j-(k+1))) [] (J0 (yK x j-1) j++k::nw 0 (lcj x k j)) t1 t2→tv m.Prime D m T t1=tv m.Prime D m T t2)∧
  (∀i j,k<i→i<j→j<x.zA.length→ ∀t1 t2,zK2 x k (base x.zA.length i+(j-(i+1))) [k] (i::(nw 0 (lcj x i j)++[k])) (base x.zA.length k+(i-(k+1))) [] (j::k::nw 0 (lcj x k i)) t1 t2→tv m.Prime D m T t1=tv m.Prime D m T t2)∧
  (∀t1 t2,zK2 x k k [k] (nw 0 (x.zR.getD k [])++[k]) k [] (k::nw 0 (x.zR.getD k [])) t1 t2→tv m.Prime D m T t1=tv m.Prime D m T t2)∧
  (∀j,k<j→j<x.zA.length→ ∀t1 t2,zK2 x k (base x.zA.length k+(j-(k+1))) (J0 (yK x k-1) k) (k::(nw 0 (lcj x k j)++J0 (yK x k-1) k)) k [] (j::nw 0 (x.zR.getD k [])) t1 t2→tv m.Prime D m T t1=tv m.Prime D m T t2):=by
 have hC:=fun(w:List Nat)(hw:∀a∈w,k≤a∧a<x.zA.length)=>zVR h (x.zA.length-k) k (by omega) w hw
 have hH:∀i j,i<j→j<x.zA.length→ ∀a∈nw 0 (lcj x i j),i+1≤a∧a<x.zA.length:=fun i j hi hj=>(tZ h (uC h hi hj) (by omega)).2
 have ee:∀i,i<x.zA.length→ ∀a∈nw 0 (x.zR.getD i []),i+1≤a∧a<x.zA.length:=fun i hi=>(tZ h (qX h hi) hi).2
 constructor
 ·intro g
  refine⟨?_,?_,?_,?_⟩
  ·rintro j h1 h2 t1 t2 ⟨⟨u1,y1,rfl,k1⟩,⟨u2,y2,rfl,k2⟩⟩
   exact(zXf h hE hT hk hc hL (by omega) h2 k1 k2).2 (g.c1 j (by omega) h2)
  ·rintro i j h1 gM h2 t1 t2 ⟨⟨u1,y1,rfl,k1⟩,⟨u2,y2,rfl,k2⟩⟩
   exact(zXg h hE hT hk hc hL (by omega) gM h2 k1 k2).2 (g.c2 i (by omega) (by omega) j (by omega) h2)
  ·rintro t1 t2 ⟨⟨u1,y1,rfl,k1⟩,⟨u2,y2,rfl,k2⟩⟩
   exact(zXc h hE hT hk hc hL k1 k2).2 g.c3
  ·rintro j h1 h2 t1 t2 ⟨⟨u1,y1,rfl,k1⟩,⟨u2,y2,rfl,k2⟩⟩
   exact(zXi h hE hT hk hc hL (by omega) h2 k1 k2).2 (g.c4 j (by omega) h2)
 ·rintro⟨g1,g2,g3,g4⟩
  refine⟨fun j h1 h2=>?_,fun i h1 hi j gM h2=>?_,?_,fun j h1 h2=>?_⟩
  ·obtain⟨u1,y1,k1⟩:=hC (nw 0 (x.zR.getD j [])++[k]) (fun a ha=>by
    simp only[Jh,List.mem_singleton]at ha;rcases ha with ha|rfl
    ·have:=ee j h2 a ha;omega
    ·omega)
   obtain⟨u2,y2,k2⟩:=hC (J0 (yK x j-1) j++k::nw 0 (lcj x k j)) (fun a ha=>by
    simp only[Jh,Jc]at ha;rcases ha with ha|rfl|ha
    ·have:=Jm ha;omega
    ·omega
    ·have:=hH k j (by omega) h2 a ha;omega)
   exact(zXf h hE hT hk hc hL h1 h2 k1 k2).1 (g1 j (by omega) h2 _ _ ⟨⟨u1,y1,rfl,k1⟩,⟨u2,y2,rfl,k2⟩⟩)
  ·obtain⟨u1,y1,k1⟩:=hC (i::(nw 0 (lcj x i j)++[k])) (fun a ha=>by
    simp only[Jh,Jc,Jb1,or_false]at ha;rcases ha with rfl|ha|rfl
    ·omega
    ·have:=hH i j (by omega) h2 a ha;omega
    ·omega)
   obtain⟨u2,y2,k2⟩:=hC (j::k::nw 0 (lcj x k i)) (fun a ha=>by
    simp only[Jc]at ha;rcases ha with rfl|rfl|ha
    ·omega
    ·omega
    ·have:=hH k i (by omega) hi a ha;omega)
   exact(zXg h hE hT hk hc hL h1 (by omega) h2 k1 k2).1 (g2 i j (by omega) (by omega) h2 _ _ ⟨⟨u1,y1,rfl,k1⟩,⟨u2,y2,rfl,k2⟩⟩)
  ·obtain⟨u1,y1,k1⟩:=hC (nw 0 (x.zR.getD k [])++[k]) (fun a ha=>by
    simp only[Jh,List.mem_singleton]at ha;rcases ha with ha|rfl
    ·have:=ee k hk a ha;omega
    ·omega)
   obtain⟨u2,y2,k2⟩:=hC (k::nw 0 (x.zR.getD k [])) (fun a ha=>by
    simp only[Jc]at ha;rcases ha with rfl|ha
    ·omega
    ·have:=ee k hk a ha;omega)
   exact(zXc h hE hT hk hc hL k1 k2).1 (g3 _ _ ⟨⟨u1,y1,rfl,k1⟩,⟨u2,y2,rfl,k2⟩⟩)
  ·obtain⟨u1,y1,k1⟩:=hC (k::(nw 0 (lcj x k j)++J0 (yK x k-1) k)) (fun a ha=>by
    simp only[Jh,Jc]at ha;rcases ha with rfl|ha|ha
    ·omega
    ·have:=hH k j (by omega) h2 a ha;omega
    ·have:=Jm ha;omega)
   obtain⟨u2,y2,k2⟩:=hC (j::nw 0 (x.zR.getD k [])) (fun a ha=>by
    simp only[Jc]at ha;rcases ha with rfl|ha
    ·omega
    ·have:=ee k hk a ha;omega)
   exact(zXi h hE hT hk hc hL h1 h2 k1 k2).1 (g4 j (by omega) h2 _ _ ⟨⟨u1,y1,rfl,k1⟩,⟨u2,y2,rfl,k2⟩⟩)
theorem zQC(hx:wQ (suf x 0))(hr:zF9 x m D):zXj x D m T↔wQ (suf (exx D x m T) 0):=by
 have hl:=wG h hE hT;have bm:∀k,k<x.zA.length→LC x k:=fun k hk=>((zAD h.w hk).1 (zBz hx k)).2
 constructor
 ·intro g
  have key:∀(d k:Nat),k+d=x.zA.length→wQ (suf (exx D x m T) k):=by
   intro d
   induction d with
   |zero=>intro k hk;exact zIa h hE hT D k (by omega) (by omega)
   |succ d ih=>
    intro k hk;have hc:=ih (k+1) (by omega);refine(zAD (zG3 h hE hT) (by omega)).2 ⟨hc,zTa h hE hT hr (by omega) ((zJx h hE hT (by omega) (bm k (by omega)) hc).2 ⟨?_,?_,?_,?_⟩)⟩
    ·exact fun j h1 h2 t1 t2 b=>g.p1 k j h1 h2 t1 t2 b
    ·exact fun i j h1 gM h2 t1 t2 b=>g.p2 k i j h1 gM h2 t1 t2 b
    ·exact fun t1 t2 b=>g.p3 k (by omega) t1 t2 b
    ·exact fun j h1 h2 t1 t2 b=>g.p4 k j h1 h2 t1 t2 b
  exact key x.zA.length 0 (by omega)
 ·intro g
  have g0:=(zP7 h hE hT hr).1 g;have hck:∀k,k<x.zA.length→wQ (suf (exx D x m T) (k+1)):=fun k _=>zBz g (k+1)
  have key:=fun k(hk:k<x.zA.length)=>(zJx h hE hT hk (bm k hk) (hck k hk)).1 (g0 k hk)
  exact⟨fun k j h1 h2=>(key k (by omega)).1 j h1 h2,fun k i j h1 gM h2=>(key k (by omega)).2.1 i j h1 gM h2,fun k hk=>(key k hk).2.2.1,fun k j h1 h2=>(key k (by omega)).2.2.2 j h1 h2⟩
end
theorem Col.det{x:SPr}{k k':Nat}{w:List Nat}{t1 t2:List (Nat×List Nat)}{w1 w2:List Nat}(h1:Col x k w t1 w1)(h2:Col x k' w t2 w2)(n1:stS x w1=iA)(n2:stS x w2=iA):t1=t2∧w1=w2:=by
 induction h1 generalizing t2 with
 |refl w=>
  cases h2 with
  |refl=>exact⟨rfl,rfl⟩
  |step _ hs _=>rw[n1]at hs;cases hs
 |step hw hs hc ih=>
  cases h2 with
  |refl=>rw[n2]at hs;cases hs
  |step _ cY cI=>
   rw[hs]at cY;cases cY;obtain⟨rfl,rfl⟩:=ih cI n1;exact⟨rfl,rfl⟩
end Go.Pl
