/- The program's TailsOfMap returns what the reference's returns,for all arguments;no conditions. -/
import Derived.Test.YtfaocpkdikjohaaGreatPlA
open List renaming replicate→J1,getD_eq_getElem?_getD→J2,getElem?_eq_getElem→J3,length_append→J5,length_cons→J6,getElem?_append_right→J8,append_nil→J9,append_assoc→Ja,mem_cons→Jc,length_map→Jd,length_replicate→Jh,nil_append→Ji,mem_append→Jj,range→Jl,getElem?_append_left→Jm,take_left'→Jn,cons_append→Jp,replicate_succ→Jq,take_of_length_le→Jr,mem_map→Js,eq_of_mem_replicate→Jt,length_nil→Ju,map_cons→Jv,replicate_append_replicate→Jw,length_drop→Jz,getElem?_eq_none→K0,getElem?_map→K1,length_take→K3,take_succ_eq_append_getElem→K4,drop_left'→K5,take_zero→K7,take_succ_cons→Kb,eq_nil_of_length_eq_zero→Kd,getElem_mem→Kf,getElem?_drop→Ko,reverse_reverse→Ks,drop_append_of_le_length→Kt,mem_range→Kv,getElem?_replicate→Kw,map_append→Kx,length_range→Ky,ext_getElem?→Ld,take_length→Lo,flatten_cons→Lq,range_succ→Lr,getD_cons_zero→Lv,mem_append_right→Lx,map_nil→Ly,flatMap_append→Lz,reverse_cons→H2,getElem?_take→H5,replicate_succ'→H6,drop_replicate→H8,drop_eq_getElem_cons→Hc,take_append_of_le_length→Hg,replicate_zero→Hh,set_append_right→Hl,flatten_nil→G4,mem_iff_getElem→Ga,drop_zero→Gb,length_singleton→Gg,mem_append_left→Gv,head?_cons→U1,foldl_cons→U2,mem_of_mem_take→U5,getD_cons_succ→Ug,foldl_append→Uj,getElem?_take_of_lt→Uo,getElem?_range→Ux,range_zero→Q9,map_congr_left→Qp,flatten_append→Qr,cons→Qs,mem_reverse→Qw,ext_getElem→Qy,getElem?_replicate_of_lt→Qz,getElem?_set_ne→Jak,foldl_nil→Jal,flatMap_nil→Jam,range_succ_eq_map→Jb6,not_mem_nil→Jb7,drop_of_length_le→Jba,mem_of_mem_head?→Jbj,take→Jbq,mem_of_mem_drop→Jbr,map_map→Jbs,length→Jbt,getElem_map→Jdd
open Int renaming toNat_natCast→Je,mul_emod→Jx,emod_emod→Kc,add_emod→Ke,emod_eq_of_lt→Kj,emod_lt_of_pos→Kr,tmod_eq_emod_of_nonneg→L4,natCast_mul→L6,emod_nonneg→L7,mul_zero→Le,zero_add→Lp,add_mul_emod_self_left→H1,add_zero→Hd,mul_assoc→Hi,mul_one→Hq,toNat_zero→Hv,natCast_add→Gf,zero_mul→Ue,mul_comm→Uf,add_emod_right→Us,add_mul→Qj,sub_mul→Ja9,one_mul→Jaa,add_emod_emod→Jby,add_assoc→Jc9,toNat_of_nonneg→Jde
open Nat renaming zero_add→Jg,lt_or_ge→Jk,le_refl→Jo,succ_mul→Jy,mul_le_mul→K6,mul_le_mul_right→Kl,zero_le→Kn,sub_self→Kq,add_assoc→Lt,add_sub_cancel_left→He,add_zero→Hy,min_eq_left→Gl,sub_zero→Ud,eq_zero_or_pos→Ui,mul_succ→Jap,le_mul_of_pos_right→Jbg,lt_of_not_le→Jbz,lt_irrefl→Jc5,add_comm→Jcr
open Bool renaming not_true→Ka,not_false→Kg
open Option renaming some→L8,map_some→Hk
open Option renaming some→ja,none→jb
open Bool renaming true→jc,false→jd
namespace Go.Pl
open Go Go.Ab Go.Wk Go.Pc
theorem zN9{p:Int}{n:Nat}{R out:Mx}{cf:Nat→Int}(ho:∀i,i<out.length→Sp p n R (out.getD i [])){u:List Int}(hu:∀j,j<n→at0 u j%p=(S out.length fun k=>cf k*ent out k j)%p):Sp p n R u:=
 kQ ho ⟨cf,fun j hj=>(hu j hj).symm⟩
theorem Red.len_le{p:Int}{n:Nat}{R:Mx}{pv:Nat→Nat}(h:Red p n R pv):R.length≤n:=by
 have key:∀i,i<R.length→i≤pv i:=by
  intro i
  induction i with
  |zero=>intro _;omega
  |succ i ih=>
   intro hi;have h1:=ih (by omega);have h2:=h.mono i (i+1) (by omega) hi;omega
 rcases Ui R.length with g|g
 ·omega
 ·have h1:=key (R.length-1) (by omega)
  have h2:=h.lt (R.length-1) (by omega);omega
theorem zDl{xs:Mx}{v:List Int}{i:Nat}(h:i<xs.length):(xs++[v]).getD i []=xs.getD i []:=by simp only[J2,Jm h]
theorem zDm{xs:Mx}{v:List Int}:(xs++[v]).getD xs.length []=v:=by simp[J2]
section
variable {p:Int} (hp:Prime p) {n:Nat} (hn:n≤100000)
 include hp hn
theorem zNA{w:List Int}(hw:Row p n w){r:Int}(h0:0≤r)(h1:r≤p-1):zVK p r w=ja (mkv n fun j=>(at0 w j*r)%p):=by
 have h7:=hp.pos;unfold zVK;rw[hw.1,xM (by omega),bs,tO hp (zHS (by omega)) hw ⟨by omega,by omega⟩ (by omega),bs]
 congr 1
 refine zX fun j hj=>?_
 rw[show at0 (z0 n) j=0 from by simp[z0,at0,J2,hj],Lp,Uf]
variable {rows:Mx} (hm:rows.length≤600000) (hr:∀i,i<rows.length→Row p n (rows.getD i []))
 include hm hr
theorem zEQ:∃R pv,f_p p rows=ja R∧(Red p n R pv∧R.length≤rows.length)∧jG p n R rows:=by
 have h7:=hp.pos;unfold f_p;have main:=tE (body:=zQF p rows) (s:=([],0)) (Q:=fun R=> ∃pv,(Red p n R pv∧R.length≤rows.length)∧jG p n R rows)
  (fun i s=> ∃(out:Mx)(pv:Nat→Nat),s=(out,(i:Int))∧Red p n out pv∧jG p n out (rows.take i)∧out.length≤i∧i≤rows.length) rows.length (fun i s hi hI=>?_) (fun s hI=>?_) ⟨[],fun _=>0,rfl,Red.empty,by rw[K7];exact jG.refl,Kn _,Kn _⟩
 ·obtain⟨R,h1,pv,h2,h3⟩:=main
  rw[h1,bs];exact⟨R,pv,rfl,h2,h3⟩
 ·obtain⟨out,pv,rfl,h,hs,hl,_⟩:=hI
  have hon:out.length≤n:=h.len_le;left;have hv:=hr i hi;have hw:=zKh hp hn h hv out.length;have gG:=zHT hp hn h hv (by omega);have hpz:=zXR hp hn h hv out.length (Jo _);obtain⟨cf,cP⟩:=zVd hp hn h hv out.length (Jo _);obtain⟨k,k1,k2,k3,k4⟩:=zJp hw.1 (by omega);have ex:rows.take (i+1)=rows.take i++[rows.getD i []]:=by rw[K4 hi,J2,J3 hi];rfl
  have th:(rows.take i).length=i:=by rw[K3];omega
  have fN:∀u,Sp p n (rows.take i) u→Sp p n (rows.take (i+1)) u:=fun u hu=>kQ (fun a ha=>by have:=qI (p:=p) (n:=n) (R:=rows.take (i+1)) (i:=a) (by rw[ex,J5];omega);rw[ex,zDl ha,←ex]at this;exact this) hu
  have p9:Sp p n (rows.take (i+1)) (rows.getD i []):=by
   have:=qI (p:=p) (n:=n) (R:=rows.take (i+1)) (i:=i) (by rw[ex,J5,th];simp);rw[ex]at this;have e:(rows.take i++[rows.getD i []]).getD i []=rows.getD i []:=by have:=zDm (xs:=rows.take i) (v:=rows.getD i []);rw[th]at this;exact this
   rw[e,←ex]at this;exact this
  by_cases mb:k=n
  ·
   refine⟨(out,((i+1:Nat):Int)),?_,out,pv,rfl,h,⟨fun a ha=>fN _ (hs.1 a ha),fun a ha=>?_⟩,by omega,by omega⟩
   ·unfold zQF
    simp only
    rw[xD hi,zN,yX [] hi];simp only[bs,gG,k2];rw[hw.1,zLO (by omega),zN,zC (by omega) (by omega),bs,cs]
   ·rw[ex,J5,th,Gg]at ha
    rw[ex];rcases Jk a i with g|g
    ·rw[zDl (by omega)];exact hs.2 a (by omega)
    ·have:a=i:=by omega
     subst this;have e:(rows.take a++[rows.getD a []]).getD a []=rows.getD a []:=by have:=zDm (xs:=rows.take a) (v:=rows.getD a []);rw[th]at this;exact this
     rw[e];refine zN9 (out:=out) (cf:=fun q=> -1*cf q) (fun a ha=>qI ha) fun j hj=>?_
     have h1:=cP j hj;rw[k3 j (by omega)]at h1;rw[xI (g:=fun q=> -1*(cf q*ent out q j)) (fun q _=>by rw[Hi]),zCK];have h2:(at0 (rows.getD a []) j+S out.length fun q=>cf q*ent out q j)%p=0:=by rw[←h1];rfl
     rw[show at0 (rows.getD a []) j=(at0 (rows.getD a []) j+S out.length fun q=>cf q*ent out q j)+ -1*(S out.length fun q=>cf q*ent out q j)from by omega,Ke,h2,Lp,Kc]
  ·have hk:k<n:=by omega
   have hwk:=hw.2 k hk;have gf:=k4 hk;obtain⟨r,r1,r2,r3,r4⟩:=zSu hp (x:=at0 (cl p n out pv (rows.getD i []) out.length) k) (by omega) (by omega);have tk:=zNA hp hn hw r2 r3;have hu:Row p n (mkv n fun j=>(at0 (cl p n out pv (rows.getD i []) out.length) j*r)%p):=⟨yB _ _,fun j hj=>by have e1:=L7 (at0 (cl p n out pv (rows.getD i []) out.length) j*r) (show p≠0 by omega);have e2:=Kr (at0 (cl p n out pv (rows.getD i []) out.length) j*r) (show 0<p by omega);rw[yE hj];omega⟩
   have ua:∀j,j<n→at0 (mkv n fun j=>(at0 (cl p n out pv (rows.getD i []) out.length) j*r)%p) j=(at0 (cl p n out pv (rows.getD i []) out.length) j*r)%p:=fun j hj=>yE hj
   generalize mkv n (fun j=>(at0 (cl p n out pv (rows.getD i []) out.length) j*r)%p)=u at tk hu ua
   have u1:at0 u k=1:=by rw[ua k hk];exact r4
   have ul:∀j,j<k→at0 u j=0:=fun j hj=>by rw[ua j (by omega),k3 j hj];simp
   have up:∀a,a<out.length→at0 u (pv a)=0:=fun a ha=>by rw[ua _ (h.lt a ha),hpz a ha];simp
   obtain⟨q,⟨hq,ib⟩,eF⟩:=zBq (p:=fun q=>q≤out.length∧(q<out.length→k<pv q)) ⟨out.length,Jo _,fun g=>by omega⟩;have q1:∀a,a<q→pv a<k:=fun a ha=>by
    have h1:¬(k<pv a):=fun g=>eF a ha ⟨by omega,fun _=>g⟩
    have h2:pv a≠k:=fun e=>by have:=up a (by omega);rw[e,u1]at this;cases this
    omega
   have q2:∀a,q≤a→a<out.length→k<pv a:=fun a ha ha2=>by
    have h1:=ib (by omega);rcases Jk q a with g|g
    ·have:=h.mono q a g ha2;omega
    ·rw[show a=q from by omega];exact h1
   have fj:=zLR hp h hu hk u1 ul up hq q1 q2 hn (by omega) (x:=(i:Int));have uk:=zN8 hp h hu hk u1 ul up hq q1 q2;obtain⟨s1,s2,s3⟩:=zQi hp h hu hk u1 ul up hq q1 q2;refine⟨(mkR (out.length+1) (sN p n out u k q),((i+1:Nat):Int)),?_,_,_,rfl,uk,⟨fun a ha=>?_,fun a ha=>?_⟩,by rw[sJ];omega,by omega⟩
   ·unfold zQF
    simp only
    rw[xD hi,zN,yX [] hi];simp only[bs,gG,k2];rw[hw.1,zLP (by omega),zI,yP (by rw[hw.1];exact hk)];simp only[bs,r1,tk];cases eG:zH (zIH p (out,(i:Int)) (k:Int) u) ([],jd,0)with
    |none=>rw[eG]at fj;cases fj
    |some r32=>
     rw[eG,bs]at fj;simp only[bs];obtain⟨a1,a2⟩:=r32;cases a2 with
     |true=>
      simp only[Ka,zI]at fj ⊢
      rw[zC (by omega) (by omega),bs,cs,L8.inj fj]
     |false=>
      simp only[Kg,zN]at fj ⊢
      cases hap:xK a1 [u]with
      |none=>rw[hap]at fj;cases fj
      |some v33=>
       rw[hap,bs]at fj;simp only[bs];rw[zC (by omega) (by omega),bs,cs,L8.inj fj]
   ·rw[sJ]at ha
    rw[kF ha];refine kQ (fun b hb=>?_) (s1 a ha);rw[J5,Gg]at hb;rcases Jk b out.length with g|g
    ·rw[zDl g];exact fN _ (hs.1 b g)
    ·rw[show b=out.length from by omega,zDm]
     have dY:Sp p n (rows.take (i+1)) (cl p n out pv (rows.getD i []) out.length):=by
      have mw:Sp p n (rows.take (i+1)) (mkv n fun j=>S out.length fun k=>cf k*ent out k j):=zN9 (out:=out) (cf:=cf) (fun b hb=>fN _ (hs.1 b hb)) fun j hj=>by rw[yE hj]
      refine zBc (k:=1) p9 mw fun j hj=>?_
      rw[cP j hj,yE hj,Jaa]
     refine zBc (k:=r) (zEM (u:=[]) fun j _=>by simp[at0]) dY fun j hj=>?_
     rw[ua j hj,Kc,show at0 ([]:List Int) j=0 from by simp[at0],Lp,Uf]
   ·rw[ex,J5,th,Gg]at ha
    rw[ex];rcases Jk a i with g|g
    ·rw[zDl (by omega)]
     exact kQ s2 (hs.2 a (by omega))
    ·have hai:a=i:=by omega
     subst hai;have e:(rows.take a++[rows.getD a []]).getD a []=rows.getD a []:=by have:=zDm (xs:=rows.take a) (v:=rows.getD a []);rw[th]at this;exact this
     rw[e];have dY:Sp p n (mkR (out.length+1) (sN p n out u k q)) (cl p n out pv (rows.getD a []) out.length):=by
      refine zBc (k:=at0 (cl p n out pv (rows.getD a []) out.length) k) (zEM (u:=[]) fun j _=>by simp[at0]) s3 fun j hj=>?_
      rw[ua j hj,show at0 ([]:List Int) j=0 from by simp[at0],Lp];rw[Jx,Kc,←Jx,←Hi,Uf (at0 (cl p n out pv (rows.getD a []) out.length) k),Hi,Jx,r4,Hq,Kc]
     have mw:Sp p n (mkR (out.length+1) (sN p n out u k q)) (mkv n fun j=>S out.length fun k=>cf k*ent out k j):=zN9 (out:=out) (cf:=cf) s2 fun j hj=>by rw[yE hj]
     refine zBc (k:=-1) dY mw fun j hj=>?_
     rw[yE hj,Ke,cP j hj,←Ke]
     congr 1;omega
 ·obtain⟨out,pv,rfl,h,hs,hl,_⟩:=hI
  refine⟨out,?_,pv,⟨h,hl⟩,by rw[Lo]at hs;exact hs⟩;unfold zQF;simp only
  rw[xP,zI]
theorem zLS:∃R pv,f_p p rows=ja R∧Red p n R pv∧jG p n R rows:=by obtain⟨R,pv,h1,h2,h3⟩:=zEQ hp hn hm hr;exact⟨R,pv,h1,h2.1,h3⟩
theorem zHU{R:Mx}{pv:Nat→Nat}(h:Red p n R pv)(hs:jG p n R rows):R.length≤rows.length:=by have h7:=hp.pos;obtain⟨R',pv',_,h2,h3⟩:=zEQ hp hn hm hr;rw[h.unique (by omega) h2.1 (hs.trans h3.symm)];exact h2.2
theorem kR:∃R pv,f_p p rows=ja R∧f_j p rows=ja R∧Red p n R pv∧jG p n R rows:=by have h7:=hp.pos;obtain⟨R,pv,h1,h2,h3⟩:=zLS hp hn hm hr;obtain⟨R',pv',g1,g2,g3⟩:=zLQ hp hn hm hr;have e:=h2.unique (by omega) g2 (h3.trans g3.symm);exact⟨R,pv,h1,by rw[e];exact g1,h2,h3⟩
end
end Go.Pl

namespace Go.Pl
open Go Go.Ab Go.Wk Go.Pc
theorem vJ{β:Type}{body:List β×Int→Option ((List β×Int)⊕List β)}(n:Nat)(F:Nat→β)(h:∀i acc,i<n→acc.length=i→body (acc,(i:Int))=ja (.inl (acc++[F i],((i+1:Nat):Int))))(he:∀acc,body (acc,(n:Int))=ja (.inr acc)):
  zH body ([],0)=ja ((Jl n).map F):=by
 have:=zW (body:=body) (r:=(Jl n).map F) (fun i=>((Jl i).map F,(i:Int))) n (fun i hi=>by rw[h i _ hi (by simp),Lr,Kx];rfl) (he _)
 exact this
theorem zQj{xs:Mx}(hx:xs.length≤100000)(hf:xs.flatten.length≤1000000):zVW xs=ja xs.flatten:=by
 unfold zVW;have:=zW (body:=zMK xs) (r:=xs.flatten) (fun i=>((xs.take i).flatten,(i:Int))) xs.length (fun i hi=>by
  have h1:=zFL hi;have h2:=zKb (xs:=xs) (i+1);have h3:=congrArg Jbt h1;rw[J5]at h3;unfold zMK;simp only
  rw[xD hi,zN,yX [] hi,bs,yN (by omega),bs,zC (by omega) (by omega),bs,cs,h1]) (by
  unfold zMK;simp only
  rw[xP,zI,Lo])
 rw[show((0:Nat):Int)=0 from rfl,K7]at this;simp only[G4]at this;rw[this,bs]
theorem zPg{p:Int}{L:Nat}{v:List Int}:Row p L v↔v.length=L∧ ∀a∈v,0≤a∧a≤p-1:=by
 constructor
 ·rintro⟨h1,h2⟩
  refine⟨h1,fun a ha=>?_⟩;obtain⟨i,hi,rfl⟩:=Ga.1 ha;have:=h2 i (by omega);simpa[at0,J2,J3 hi]using this
 ·rintro⟨h1,h2⟩
  refine⟨h1,fun i hi=>?_⟩;have:=h2 v[i] (Kf (by omega));simpa[at0,J2,J3 (show i<v.length by omega)]using this
def kS(D k:Nat):List Int:=mkv D fun j=>if j=k then 1 else 0
theorem zQk{p:Int}{D k:Nat}(hp:2≤p):Row p D (kS D k):=⟨yB _ _,fun i hi=>by rw[kS,yE hi];split<;>omega⟩
theorem zG1{D k:Nat}(hk:k<D)(hD:D≤1000000):zM0 (D:Int) (k:Int)=ja (kS D k):=by
 unfold zM0;rw[xM (by omega),bs,yP (by simp;exact hk),bs,Je]
 congr 1
 rw[uS,jF,kS]
end Go.Pl

namespace Go.Pl
open Go Go.Ab Go.Wk Go.Pc
abbrev gl{β:Type}(m:Nat)(F:Nat→β):List β:=(Jl m).map F
theorem wC{β:Type}{m:Nat}{F:Nat→β}:(gl m F).length=m:=by simp[gl]
theorem zER{β:Type}{m:Nat}{F:Nat→β}{i:Nat}(h:i<m):ixO (gl m F) (i:Int)=ja (F i):=by rw[kE (by rw[wC];exact h)];simp[gl]
theorem zB5{β:Type}{m:Nat}{F G:Nat→β}(h:∀i,i<m→F i=G i):gl m F=gl m G:=Qp fun i hi=>h i (Kv.1 hi)
theorem zKi{β:Type}{m:Nat}{F:Nat→β}{i:Nat}{a:β}:(gl m F).set i a=gl m (fun k=>if k=i then a else F k):=by
 apply Ld;intro k
 by_cases hk:k<m
 ·by_cases h:i=k
  ·subst h;simp[gl,hk]
  ·rw[Jak h];simp[gl,hk,Ne.symm h]
 ·rw[K0 (by simp[gl];omega),K0 (by simp[gl];omega)]
theorem zES{β:Type}{m:Nat}{F:Nat→β}:gl m F++[F m]=gl (m+1) F:=by simp[gl,Lr]
def base(n i:Nat):Nat:=n+i*n-i*(i+1)/2
theorem zBU:∀n,n<7→ ∀i,i<n→base n i+(n-1-i)≤base n n:=by decide
theorem vK:∀n,n<7→n≤base n n∧base n n≤21∧base n 0=n:=by decide
theorem zNB:∀n:Nat,n<7→ ∀j:Nat,j<n→ ∀i:Nat,i<j→zY9 (n:Int) (i:Int) (j:Int)=ja ((base n i+(j-i-1):Nat):Int):=by decide+kernel
def exP(n D:Nat)(x:SPr)(T:Mx)(i:Nat):List Int:=if i<n then x.zT.getD i []++T.getD i []else J1 (n+D) 0
def exF(n:Nat)(x:SPr)(m:zG)(T:Mx)(i j:Nat):List Int:=if j<n-1-i then(x.zE.getD i []).getD j []++T.getD (base n i+j) []else J1 n 0++(m.zR.getD i []).getD (j-(n-1-i)) []
def unC(N i:Nat):Mx:=gl (N-1-i) fun j=>kS N (i+1+j)
def exC(n D:Nat)(x:SPr)(m:zG)(T:Mx)(i:Nat):Mx:=if i<n then gl (n+D-1-i) (exF n x m T i)else unC (n+D) i
def ext(n D:Nat)(x:SPr)(m:zG)(T:Mx):SPr:=⟨x.zA++J1 D m.Prime,gl (n+D) (exP n D x T),gl (n+D) (exC n D x m T)⟩
end Go.Pl

namespace Go.Pl
open Go Go.Ab Go.Wk Go.Pc
end Go.Pl

namespace Go.Pl
open Go Go.Ab Go.Wk Go.Pc
theorem zW7{α:Type}{c:α→Nat}{b:Nat}:∀{xs:List α},(∀x∈xs,c x≤b)→sm c xs≤xs.length*b
 | [],_=>by simp[sm]
 |x::xs,h=>by
  have h1:=zW7 (xs:=xs) fun y hy=>h y (by simp[hy])
  have h2:=h x (by simp);simp only[sm,J6,Jy];omega
theorem zBV{x:SPr}{n:Nat}(ho:x.zA.length=n)(hn:n≤6):zUe x=ja ((base n n:Nat):Int):=by
 unfold zUe;rw[ho];have key:∀n:Nat,n<7→((rng ((n:Int)-1)).bind fun v1=>(rng ((n:Int)*v1)).bind fun v2=>(uM v2 2).bind fun v3=>(rng ((n:Int)+v3)).bind fun v4=>ja v4)=ja ((base n n:Nat):Int):=by decide+kernel
 exact key n (by omega)
theorem zHV{x:SPr}{n:Nat}(ho:x.zA.length=n)(hn:n≤6):zUf x=ja ((base n n:Nat):Int):=by
 unfold zUf;rw[ho];have key:∀n:Nat,n<7→((rng ((n:Int)+1)).bind fun v1=>(rng ((n:Int)*v1)).bind fun v2=>(uM v2 2).bind fun v3=>ja v3)=ja ((base n n:Nat):Int):=by decide+kernel
 exact key n (by omega)
end Go.Pl

namespace Go.Pl
open Go Go.Ab Go.Wk Go.Pc
def zSv(x:SPr):Nat:=c1 x.zA+sm c1 x.zT+sm (sm c1) x.zE
def zW8(x:SPr)(k:Int):SPr:=⟨m1 k x.zA,m2 (k+c1 x.zA) x.zT,m3 (k+c1 x.zA+sm c1 x.zT) x.zE⟩
theorem zPh{x:SPr}(h:zDB x):zSv x≤3145728:=by obtain⟨h1,h2,h3⟩:=h;have g2:=zHD (x:=x.zT);have g3:=zXJ (x:=x.zE);simp only[S1]at h1;simp only[S2]at h2;simp only[S3]at h3;simp only[zSv];omega
theorem zD0{x:SPr}{k:Int}(h:zDB x)(k0:0≤k)(k1:k≤1000000000):zVF x k=ja (k+zSv x,zW8 x k):=by have ht:=zPh h;simp only[zSv]at ht;unfold zVF;rw[zH9 h.1 k0 (by omega),bs,zAN h.2.1 (by simp only;omega) (by simp only;omega),bs,zJV h.2.2 (by simp only;omega) (by simp only;omega),bs];simp only[zSv,zW8,Gf,Jc9]
end Go.Pl

namespace Go.Pl
open Go Go.Ab Go.Wk Go.Pc
end Go.Pl

namespace Go.Pl
open Go Go.Ab Go.Wk Go.Pc
theorem zSw{x:zK}(h:S2 x.Rows):zVV x x=ja jc:=by unfold zVV;rw[bne_self_eq_false,zI,bne_self_eq_false,zI,zBy h,bs,beq_self_eq_true,Ka,zI]
theorem zNC{x:zK}{k:Int}(h:S2 x.Rows)(k0:0≤k)(k1:k≤1000000000):zVX x k=ja (k+sm c1 x.Rows,zK.mk x.Prime x.yI (m2 k x.Rows)):=by have g2:=zHD (x:=x.Rows);have h':=h;simp only[S2]at h';unfold zVX;rw[zAN h k0 (by omega),bs]
end Go.Pl

namespace Go.Pl
open Go Go.Ab Go.Wk Go.Pc
theorem zND{v:List Int}{k:Nat}(hl:v.length≤1000000)(hk:k<v.length)(h0:∀j,j<k→at0 v j=0)(h1:at0 v k≠0):zVS v=ja (k:Int):=by
 unfold zVS;have:=zW (body:=zJu v) (r:=.inr (k:Int)) (fun i=>(i:Int)) k (fun i hi=>by
  unfold zJu zVR;rw[xD (by omega),zN,yP (by omega),bs,bs,h0 i hi,bne_self_eq_false,zI,zC (by omega) (by omega),bs,cs]) (by
  unfold zJu zVR;rw[xD hk,zN,yP hk,bs,bs,zAd h1,zN])
 have e:zH (zJu v) 0=ja (.inr (k:Int)):=this;rw[e,bs]
section
variable {p:Int} (hp:Prime p) {n:Nat} (hn:n≤100000) {R:Mx}{pv:Nat→Nat} (h:Red p n R pv) {v:List Int} (hv:Row p n v)
 include hp hn h
theorem zLT(hm:R.length≤100000):zVT R=ja (gl R.length fun i=>(pv i:Int)):=by
 have h7:=hp.pos;unfold zVT;rw[vJ (body:=zMJ R) R.length (fun i=>(pv i:Int)) (fun i acc hi ha=>by
  have hr:=h.row i hi;have h1:=h.one i hi;unfold zMJ;simp only
  rw[xD hi,zN,yX [] hi,bs,zND (k:=pv i) (by rw[hr.1];omega) (by rw[hr.1];exact h.lt i hi) (fun j hj=>h.low i hi j hj) (by simp only[ent]at h1;omega),bs,yN (by simp;omega),bs,zC (by omega) (by omega),bs,cs]) (fun acc=>by
  unfold zMJ;simp only
  rw[xP,zI]),bs]
 include hv
theorem zXS{i:Nat}(hi:i<R.length):tG p n (cl p n R pv v i) (0-at0 (cl p n R pv v i) (pv i)) (R.getD i [])=cl p n R pv v (i+1):=by
 have _:=hp;have _:=hn;have _:=h;have _:=hv;have _:=hi;rw[cl];refine zX fun j _=>?_
 generalize at0 (cl p n R pv v i) (pv i)=a
 generalize at0 (R.getD i []) j=b
 rw[Ja9,Ja9,Ue];have e:at0 (cl p n R pv v i) j+(p*b-a*b)=at0 (cl p n R pv v i) j+(0-a*b)+p*b:=by omega
 rw[e,H1]
theorem zHW{c:Int}(hm:R.length≤100000):zVU (zK.mk p c R) v=ja (cl p n R pv v R.length):=by
 have h7:=hp.pos;have:=zW (body:=zJv (zK.mk p c R) (gl R.length fun i=>(pv i:Int))) (r:=cl p n R pv v R.length) (fun i=>(cl p n R pv v i,(i:Int))) R.length (fun i hi=>by
  have hr:=zKh hp hn h hv i;have ha:=hr.2 (pv i) (h.lt i hi);unfold zJv;simp only
  rw[wC,xD hi,zN,zER hi,bs,yX [] hi,bs,yP (by rw[hr.1];exact h.lt i hi),bs,zC (by omega) (by omega),bs,zAv hp hr (h.row i hi) (by omega) (by omega),bs,zC (by omega) (by omega),bs,cs,zXS hp hn h hv hi]) (by
  unfold zJv;simp only
  rw[wC,xP,zI])
 unfold zVU;rw[zEi (by rw[hv.1];omega),bs];simp only
 rw[zLT hp hn h hm,bs];have e:zH (zJv (zK.mk p c R) (gl R.length fun i=>(pv i:Int))) (v,0)=ja (cl p n R pv v R.length):=this;rw[e,bs]
end
end Go.Pl

namespace Go.Pl
open Go Go.Ab Go.Wk Go.Pc
section
variable {p:Int} (hp:1<p) {n:Nat}{R R':Mx}{pv pv':Nat→Nat} (h:Red p n R pv) (h':Red p n R' pv') (hs:∀i,i<R.length→Sp p n R' (R.getD i []))
 include hp h h' hs
theorem Red.lt_of{i i2 k k2:Nat}(hii:i<i2)(fa:i2<R.length)(hk:k<R'.length)(e:pv' k=pv i)(e2:pv' k2=pv i2):k<k2:=by
 have _:=hp;have _:=hs;have h1:=h.mono i i2 hii fa;refine Classical.byContradiction fun hn=>?_
 rcases Jk k2 k with g|g
 ·have:=h'.mono k2 k g hk;omega
 ·have:k=k2:=by omega
  subst this;omega
theorem Red.low_in:∀i,i<R.length→ ∃k,k<R'.length∧pv' k=pv i∧i≤k:=by
 intro i
 induction i with
 |zero=>intro hi;obtain⟨k,hk,e⟩:=h.piv_in hp h' hs hi;exact⟨k,hk,e,by omega⟩
 |succ i ih=>
  intro hi;obtain⟨k,hk,e,da⟩:=ih (by omega);obtain⟨k2,fg,e2⟩:=h.piv_in hp h' hs hi;have:=h.lt_of hp h' hs (show i<i+1 by omega) hi hk e e2;exact⟨k2,fg,e2,by omega⟩
theorem Red.le_of:R.length≤R'.length:=by
 rcases Ui R.length with g|g
 ·omega
 ·obtain⟨k,hk,_,da⟩:=h.low_in hp h' hs (R.length-1) (by omega)
  omega
end
end Go.Pl

namespace Go.Pl
open Go Go.Ab Go.Wk Go.Pc
end Go.Pl

namespace Go.Pl
open Go Go.Ab Go.Wk Go.Pc
theorem zDn{u v:List Int}{j:Nat}:at0 (u++v) j=if j<u.length then at0 u j else at0 v (j-u.length):=by
 simp only[at0,J2];split
 ·next h=>rw[Jm h]
 ·next h=>rw[J8 (by omega)]
theorem zB6{v:List Int}{c j:Nat}:at0 (v.drop c) j=at0 v (c+j):=by simp only[at0,J2,Ko]
theorem zHX{v:List Int}{c j:Nat}(h:j<c):at0 (v.take c) j=at0 v j:=by simp only[at0,J2,H5,if_pos h]
theorem zGE{f:Nat→Int}(t:Nat):∀d:Nat,S (t+d) f=S t f+S d (fun i=>f (t+i))
 |0=>by simp[S]
 |d+1=>by rw[←Lt];simp only[S];rw[zGE t d];omega
theorem zXT{f:Nat→Int}{t n:Nat}(ht:t≤n)(h:∀i,i<t→f i=0):S n f=S (n-t) (fun i=>f (t+i)):=by
 have e:n=t+(n-t):=by omega
 conv=>lhs;rw[e,zGE,xI (g:=fun _=>0) h,qH]
 omega
theorem xU{F:Nat→List Int}{m i:Nat}(h:i<m):(gl m F).getD i []=F i:=by simp[gl,J2,h]
def ur(N i:Nat):List Int:=mkv N fun j=>if j=i then 1 else 0
def wd(N:Nat)(A:Mx):Mx:=gl N fun i=>A.getD i []++ur N i
def Gr(p:Int)(c N:Nat)(A:Mx)(u:List Int):Prop:=∀j,j<c→at0 u j%p=(S N fun k=>at0 u (c+k)*ent A k j)%p
section
variable {p:Int} (hp:1<p) {c N:Nat}{A:Mx} (hA:∀i,i<N→Row p c (A.getD i []))
 include hA
theorem zCN:(wd N A).length=N:=by have _:=hA;exact wC
theorem zKj{i j:Nat}(hi:i<N)(hj:j<c):ent (wd N A) i j=ent A i j:=by rw[ent,wd,xU hi,zDn,(hA i hi).1,if_pos hj]
theorem zB7{i l:Nat}(hi:i<N)(hl:l<N):ent (wd N A) i (c+l)=if l=i then 1 else 0:=by
 rw[ent,wd,xU hi,zDn,(hA i hi).1,if_neg (by omega),He,ur,yE hl]
 include hp
theorem zSx{i:Nat}(hi:i<N):Row p (c+N) ((wd N A).getD i []):=by
 refine⟨by rw[wd,xU hi,J5,(hA i hi).1,ur,yB],fun j hj=>?_⟩;rcases Jk j c with g|g
 ·have:=(hA i hi).2 j g
  have e:=zKj hA hi g;simp only[ent]at e;rw[e];exact this
 ·have e:=zB7 hA (l:=j-c) hi (by omega)
  rw[show c+(j-c)=j from by omega]at e;simp only[ent]at e;rw[e];split<;>omega
theorem yAh{u:List Int}:Sp p (c+N) (wd N A) u↔Gr p c N A u:=by
 have _:=hp;constructor
 ·rintro⟨cf,cP⟩ j hj
  rw[zCN hA]at cP;rw[←cP j (by omega)];refine kP fun k hk=>?_
  have h1:=cP (c+k) (by omega);rw[zAe (k:=k) hk (fun i hi gf=>by rw[zB7 hA hi hk,if_neg (Ne.symm gf),Le]),zB7 hA hk hk,if_pos rfl,Hq]at h1;rw[zKj hA hk hj,Jx,h1,←Jx]
 ·intro h
  refine⟨fun k=>at0 u (c+k),fun j hj=>?_⟩;rw[zCN hA];rcases Jk j c with g|g
  ·rw[h j g]
   refine congrArg (· %p) (xI fun k hk=>?_);rw[zKj hA hk g]
  ·obtain⟨l,rfl⟩:∃l,j=c+l:=⟨j-c,by omega⟩
   rw[zAe (k:=l) (by omega) (fun i hi gf=>by rw[zB7 hA hi (by omega),if_neg (Ne.symm gf),Le]),zB7 hA (by omega) (by omega),if_pos rfl,Hq]
variable {W:Mx}{pv:Nat→Nat} (hW:Red p (c+N) W pv) (hs:jG p (c+N) W (wd N A))
 include hW
theorem zXU:∃t,t≤W.length∧(∀i,i<t→pv i<c)∧ ∀i,t≤i→i<W.length→c≤pv i:=by
 have _:=hA;have _:=hp;obtain⟨t,ht,eF⟩:=zBq (p:=fun t=>W.length≤t∨c≤pv t) ⟨W.length,.inl (Jo _)⟩;have gz:∀i,i<t→i<W.length∧pv i<c:=fun i hi=>by have:=eF i hi;exact⟨Jbz fun h=>this (.inl h),Jbz fun h=>this (.inr h)⟩
 refine⟨t,Nat.le_of_not_lt fun h=>?_,fun i hi=>(gz i hi).2,fun i hi fa=>?_⟩
 ·have:=(gz W.length h).1;omega
 ·rcases ht with h|h
  ·omega
  ·rcases Jk t i with g|g
   ·have:=hW.mono t i g fa;omega
   ·rw[show i=t from by omega];exact h
def nul(c t:Nat)(W:Mx):Mx:=gl (W.length-t) fun i=>(W.getD (t+i) []).drop c
 omit hp hA hW in
theorem zET{t i j:Nat}(hi:t+i<W.length):ent (nul c t W) i j=ent W (t+i) (c+j):=by rw[ent,nul,xU (by omega),zB6]
variable {t:Nat} (ht:t≤W.length) (h1:∀i,i<t→pv i<c) (h2:∀i,t≤i→i<W.length→c≤pv i)
 include ht h1 h2
theorem zVg:Red p N (nul c t W) (fun i=>pv (t+i)-c):=by
 have _:=hp;have _:=hA;have _:=h1;have _:=ht;have hl:(nul c t W).length=W.length-t:=wC;have dK:∀i,i<W.length-t→c≤pv (t+i):=fun i hi=>h2 (t+i) (by omega) (by omega)
 refine⟨fun i hi=>?_,fun i hi=>?_,fun i hi=>?_,fun i hi j hj=>?_,fun i k hi hk gf=>?_,fun i j gP hj=>?_⟩
 ·rw[hl]at hi
  have hr:=hW.row (t+i) (by omega);refine⟨by rw[nul,xU hi,Jz,hr.1];omega,fun j hj=>?_⟩;have:=hr.2 (c+j) (by omega);rw[nul,xU hi,zB6];exact this
 ·rw[hl]at hi
  have:=hW.lt (t+i) (by omega);have:=dK i hi;omega
 ·rw[hl]at hi
  rw[zET (by omega),show c+(pv (t+i)-c)=pv (t+i)from by have:=dK i hi;omega];exact hW.one _ (by omega)
 ·rw[hl]at hi
  rw[zET (by omega)];exact hW.low _ (by omega) _ (by omega)
 ·rw[hl]at hi hk
  rw[zET (by omega),show c+(pv (t+i)-c)=pv (t+i)from by have:=dK i hi;omega];exact hW.off _ _ (by omega) (by omega) (by omega)
 ·rw[hl]at hj
  have:=hW.mono (t+i) (t+j) (by omega) (by omega);have:=dK i (by omega);omega
 include hs
theorem yAi{u:List Int}:Sp p (c+N) W u↔Gr p c N A u:=by have _:=hW;have _:=ht;have _:=h1;have _:=h2;exact hs.iff.trans (yAh hp hA)
theorem zXV{x:List Int}:Sp p N (nul c t W) x↔ ∀j,j<c→(S N fun k=>at0 x k*ent A k j)%p=0:=by
 have hl:(nul c t W).length=W.length-t:=wC;constructor
 ·rintro⟨cf,cP⟩ j hj
  rw[hl]at cP;have e1:(S N fun k=>at0 x k*ent A k j)%p=(S N fun k=>(S (W.length-t) fun i=>cf i*ent (nul c t W) i k)*ent A k j)%p:=kP fun k hk=>by rw[Jx,←cP k hk,←Jx]
  have e2:(S N fun k=>(S (W.length-t) fun i=>cf i*ent (nul c t W) i k)*ent A k j)=S (W.length-t) fun i=>cf i*S N fun k=>ent W (t+i) (c+k)*ent A k j:=by
   rw[xI (g:=fun k=>S (W.length-t) fun i=>cf i*(ent W (t+i) (c+k)*ent A k j)) (fun k hk=>by rw[←zLD];exact xI fun i hi=>by rw[zET (by omega),Hi]),zHL]
   exact xI fun i hi=>by rw[zCK]
  have e3:(S (W.length-t) fun i=>cf i*S N fun k=>ent W (t+i) (c+k)*ent A k j)%p=(S (W.length-t) fun _=>0)%p:=kP fun i hi=>by have h:=(yAi hp hA hW hs ht h1 h2).1 (qI (p:=p) (n:=c+N) (R:=W) (i:=t+i) (by omega)) j hj;have hz:=hW.low (t+i) (by omega) j (by have:=h2 (t+i) (by omega) (by omega);omega);simp only[ent]at hz;rw[hz]at h;rw[Jx,show(S N fun k=>ent W (t+i) (c+k)*ent A k j)%p=0 from h.symm,Le]
  rw[e1,e2,e3,qH];rfl
 ·intro h0
  let u:List Int:=mkv (c+N) fun j=>if j<c then 0 else at0 x (j-c)
  have fO:∀j,j<c→at0 u j=0:=fun j hj=>by rw[yE (by omega),if_pos hj]
  have eY:∀k,k<N→at0 u (c+k)=at0 x k:=fun k hk=>by rw[yE (by omega),if_neg (by omega),He]
  have hg:Gr p c N A u:=fun j hj=>by rw[fO j hj,xI (g:=fun k=>at0 x k*ent A k j) (fun k hk=>by rw[eY k hk]),h0 j hj];rfl
  have hx:=hW.expand ((yAi hp hA hW hs ht h1 h2).2 hg);refine⟨fun i=>at0 u (pv (t+i)),fun j hj=>?_⟩;have h3:=hx (c+j) (by omega);rw[eY j hj,zXT ht (fun i hi=>by rw[fO _ (h1 i hi),Ue])]at h3;rw[hl,h3];exact congrArg (· %p) (xI fun i hi=>by rw[zET (by omega)])
end
end Go.Pl

namespace Go.Pl
open Go Go.Ab Go.Wk Go.Pc
def yAj(u:zK):Prop:=Prime u.Prime∧ ∃C:Nat,C≤8∧u.yI=(C:Int)∧u.Rows.length≤8∧ ∀i,i<u.Rows.length→Row u.Prime C (u.Rows.getD i [])
theorem zQl{u:zK}:IsB (zVA u) (yAj u):=by
 unfold zVA;rcases zEd u.Prime with⟨h1,h2⟩|⟨h1,h2⟩
 ·rw[h1,bs,Ka,zI]
  rcases kN u.yI 0 8 with⟨h3,h4⟩|⟨h3,h4⟩
  ·obtain⟨C,hC⟩:∃C:Nat,u.yI=(C:Int):=⟨u.yI.toNat,by omega⟩
   rw[h3,bs,Ka,zI]
   by_cases hl:u.Rows.length≤8
   ·rw[je (by omega),zI]
    refine(zA4 (body:=zM2 u) u.Rows.length (fun i=>Row u.Prime C (u.Rows.getD i [])) rfl (fun i hi _=>?_) ?_).iff ⟨fun g=>⟨h2,C,by omega,hC,hl,g⟩,fun⟨_,C',_,e,_,g⟩=>by
     have:C'=C:=by omega
     rw[←this];exact g⟩
    ·refine jE (zLK h2 (D:=C) (by omega)) (by omega) ?_
     unfold zM2;rw[xD hi,zN,yX [] hi,bs,hC]
    ·unfold zM2
     rw[xP,zI]
   ·rw[jf (by omega),zN]
    exact .inr ⟨rfl,fun⟨_,_,_,_,g,_⟩=>hl g⟩
  ·rw[h3,bs,Kg,zN]
   exact .inr ⟨rfl,fun⟨_,C,g1,g2,_⟩=>h4 (by omega)⟩
 ·rw[h1,bs,Kg,zN]
  exact .inr ⟨rfl,fun g=>h2 g.1⟩
theorem zQm{u:zK}:IsB (zVQ u) (yAj u):=by
 unfold zVQ;rcases zHE u.Prime with⟨h1,h2⟩|⟨h1,h2⟩
 ·rw[h1,bs,Ka,zI]
  rcases zAO u.yI 0 8 with⟨h3,h4⟩|⟨h3,h4⟩
  ·obtain⟨C,hC⟩:∃C:Nat,u.yI=(C:Int):=⟨u.yI.toNat,by omega⟩
   rw[h3,bs,Ka,zI]
   by_cases hl:u.Rows.length≤8
   ·rw[je (by omega),zI]
    refine(zA4 (body:=zMI u) u.Rows.length (fun i=>Row u.Prime C (u.Rows.getD i [])) rfl (fun i hi _=>?_) ?_).iff ⟨fun g=>⟨h2,C,by omega,hC,hl,g⟩,fun⟨_,C',_,e,_,g⟩=>by
     have:C'=C:=by omega
     rw[←this];exact g⟩
    ·refine jE (zLL h2 (D:=C) (by omega)) (by omega) ?_
     unfold zMI;rw[xD hi,zN,yX [] hi,bs,hC]
    ·unfold zMI
     rw[xP,zI]
   ·rw[jf (by omega),zN]
    exact .inr ⟨rfl,fun⟨_,_,_,_,g,_⟩=>hl g⟩
  ·rw[h3,bs,Kg,zN]
   exact .inr ⟨rfl,fun⟨_,C,g1,g2,_⟩=>h4 (by omega)⟩
 ·rw[h1,bs,Kg,zN]
  exact .inr ⟨rfl,fun g=>h2 g.1⟩
theorem zKk{v:List Int}(hl:v.length≤1000000):IsB (f_W v) (∀i,i<v.length→at0 v i=0):=by
 refine zA4 v.length (fun i=>at0 v i=0) rfl (fun i hi _=>?_) ?_
 ·refine jE (o:=ja (at0 v i==0)) (IsB.of_bool (by simp)) (by omega) ?_
  unfold zQA;rw[xD hi,zN,yP hi,bs,bs];rfl
 ·unfold zQA
  rw[xP,zI]
end Go.Pl

namespace Go.Pl
open Go Go.Ab Go.Wk Go.Pc
def zVh(x:zK):Prop:=VI x.Prime∧VI x.yI∧VL (VL VI) x.Rows
theorem zSy{x:zK}{b:Int}(h:zVh x)(b0:0≤b)(b1:b≤1048576):zVP x b=ja (szR (c2 x.Rows) b):=by
 unfold zVP;rw[zF9 h.2.2 b0 b1,bs]
 by_cases g:szR (c2 x.Rows) b<0
 ·rw[jf g,zN]
  unfold szR at g ⊢
  split
  ·next h1=>rw[if_pos h1]at g;omega
  ·rfl
 ·rw[je g,zI]
theorem zSz{x:zK}(h:S2 x.Rows):zOh x=ja x:=by unfold zOh;rw[zFA h,bs]
end Go.Pl

namespace Go.Pl
open Go Go.Ab Go.Wk Go.Pc
end Go.Pl

namespace Go.Pl
open Go Go.Ab Go.Wk Go.Pc
structure Nul (p:Int) (c N:Nat) (A W:Mx) (pv:Nat→Nat) (t:Nat):Prop where
 row:∀i,i<N→Row p c (A.getD i [])
 len:A.length=N
 red:Red p (c+N) W pv
 sp:jG p (c+N) W (wd N A)
 le:t≤W.length
 lo:∀i,i<t→pv i<c
 hi:∀i,t≤i→i<W.length→c≤pv i
section
variable {p:Int} (hp:Prime p) {c N:Nat} (fw:c+N≤100000) {A W:Mx}{pv:Nat→Nat}{t:Nat}
 include hp fw
theorem Nul.get(hr:∀i,i<N→Row p c (A.getD i []))(hl:A.length=N):∃W pv t,Nul p c N A W pv t∧f_p p (wd N A)=ja W∧f_j p (wd N A)=ja W:=by have h7:=hp.pos;obtain⟨W,pv,r1,r2,r3,r4⟩:=kR hp (n:=c+N) fw (rows:=wd N A) (by rw[zCN hr];omega) (fun i hi=>zSx (by omega) hr (by rwa [zCN hr]at hi));obtain⟨t,t1,t2,t3⟩:=zXU (by omega) hr r3;exact⟨W,pv,t,⟨hr,hl,r3,r4,t1,t2,t3⟩,r1,r2⟩
variable (h:Nul p c N A W pv t)
 include h
theorem Nul.nred:Red p N (nul c t W) (fun i=>pv (t+i)-c):=by have _:=fw;have h7:=hp.pos;exact zVg (by omega) h.row h.red h.le h.lo h.hi
theorem Nul.nsp{x:List Int}:Sp p N (nul c t W) x↔ ∀j,j<c→(S N fun k=>at0 x k*ent A k j)%p=0:=by have _:=fw;have h7:=hp.pos;exact zXV (by omega) h.row h.red h.sp h.le h.lo h.hi
theorem Nul.full:W.length=N:=by
 have h7:=hp.pos;have g1:W.length≤(wd N A).length:=zHU hp (n:=c+N) fw (by rw[zCN h.row];omega) (fun i hi=>zSx (by omega) h.row (by rwa [zCN h.row]at hi)) h.red h.sp;rw[zCN h.row]at g1;have hl:(gl W.length fun i=>(W.getD i []).drop c).length=W.length:=wC;have hR:∀i,i<W.length→Row p N ((gl W.length fun i=>(W.getD i []).drop c).getD i []):=fun i hi=>by have hr:=h.red.row i hi;rw[xU hi];refine⟨by rw[Jz,hr.1];omega,fun j hj=>?_⟩;rw[zB6];exact hr.2 (c+j) (by omega)
 obtain⟨R3,pv3,_,_,g3,g4⟩:=kR hp (n:=N) (by omega) (rows:=gl W.length fun i=>(W.getD i []).drop c) (by omega) (by rw[hl];exact hR);have g5:=zHU hp (n:=N) (by omega) (by omega) (by rw[hl];exact hR) g3 g4;have f8:(gl N (ur N)).length=N:=wC;have mq:∀i j,i<N→j<N→ent (gl N (ur N)) i j=if j=i then 1 else 0:=fun i j hi hj=>by rw[ent,xU hi,ur,yE hj]
 have ew:Red p N (gl N (ur N)) (fun i=>i):=by
  refine⟨fun i hi=>?_,fun i hi=>by omega,fun i hi=>?_,fun i hi j hj=>?_,fun i k hi hk gf=>?_,fun i j gP hj=>gP⟩
  ·rw[f8]at hi
   rw[xU hi];refine⟨yB _ _,fun j hj=>?_⟩;rw[ur,yE hj];split<;>omega
  ·rw[f8]at hi
   rw[mq i i hi hi,if_pos rfl]
  ·rw[f8]at hi
   rw[mq i j hi (by omega),if_neg (by omega)]
  ·rw[f8]at hi hk
   rw[mq k i hk hi,if_neg (Ne.symm gf)]
 have g6:=ew.le_of (by omega) g3 (fun i hi=>by rw[f8]at hi;refine g4.iff.2 ?_;obtain⟨cf,cP⟩:=h.sp.2 i (by rw[zCN h.row];exact hi);refine⟨cf,fun j hj=>?_⟩;have h1:=cP (c+j) (by omega);have h2:=zB7 h.row hi hj;simp only[ent]at h2;rw[h2]at h1;have h3:=mq i j hi hj;simp only[ent]at h3;rw[h3,hl,←h1];exact congrArg (· %p) (xI fun k hk=>by rw[ent,xU hk,zB6]))
 omega
 omit h in
theorem zNE{N:Nat}(hN:N≤100000):f_J (N:Int)=ja (gl N (ur N)):=by
  have _:=hp;have _:=fw;unfold f_J;rw[vJ (body:=zMv (N:Int)) N (ur N) (fun i acc hi ha=>by
    unfold zMv;simp only
    rw[xD hi,zN,xM (by omega),bs,uC,Kw,if_pos hi,bs,Je,uS,jF,yN (by simp;omega),bs,zC (by omega) (by omega),bs,cs];rfl) (fun acc=>by
    unfold zMv;simp only
    rw[xP,zI]),bs]
 omit h in
theorem zQn(hr:∀i,i<N→Row p c (A.getD i []))(hl:A.length=N):zVL p A=f_p p (wd N A):=by
  unfold zVL;rw[hl,zNE hp fw (by omega),bs,vJ (body:=zMB A (gl N (ur N))) N (fun i=>A.getD i []++ur N i) (fun i acc hi ha=>by
    unfold zMB;simp only
    rw[hl,xD hi,zN,yX [] (by omega),bs,qO (by rw[(hr i hi).1];omega),bs,zER hi,bs,yN (by rw[(hr i hi).1,ur,yB];omega),bs,yN (by simp;omega),bs,zC (by omega) (by omega),bs,cs]) (fun acc=>by
    unfold zMB;simp only
    rw[hl,xP,zI]),bs]
  show(f_p p (wd N A)).bind _=_;cases f_p p (wd N A)<;>rfl
theorem zQo:zH (zQG (c:Int) W) ([],0)=ja (nul c t W):=by
 have hf:=h.full hp fw;have p6:=h.le;have:=zW (body:=zQG (c:Int) W) (r:=nul c t W) (fun i=>(gl (i-t) (fun k=>(W.getD (t+k) []).drop c),(i:Int))) W.length (fun i hi=>by
  have hr:=h.red.row i hi;have h1:=h.red.one i hi;have gz:=h.red.lt i hi;have d7:=zKg (n:=c+N) hr.1 (by omega) gz (h.red.low i hi) (by simp only[ent]at h1;omega);unfold zQG;simp only
  rw[xD hi,zN,yX [] hi,bs,d7,bs];rcases Jk i t with g|g
  ·have:=h.lo i g
   rw[je (by omega),zI,zC (by omega) (by omega),bs,cs,show i-t=0 from by omega,show i+1-t=0 from by omega]
  ·have:=h.hi i g hi
   have e:yA (W.getD i []) (c:Int) ((W.getD i []).length:Int)=ja ((W.getD i []).drop c):=by unfold yA;rw[if_pos ⟨by omega,by rw[hr.1];omega,by omega⟩,Je,Je,Jr (by rw[Jz];omega)]
   rw[jf (by omega),zN,bs,e,bs,qO (by rw[Jz,hr.1];omega),bs,yN (by rw[wC];simp;omega),bs,zC (by omega) (by omega),bs,cs,show i+1-t=(i-t)+1 from by omega,←zES,show t+(i-t)=i from by omega]) (by
  unfold zQG;simp only
  rw[xP,zI];rfl)
 rw[show 0-t=0 from by omega]at this;exact this
end
end Go.Pl

namespace Go.Pl
open Go Go.Ab Go.Wk Go.Pc
theorem zPi{β:Type}{n:Nat}{F:Nat→β}:gl (n+1) F=gl n F++[F n]:=zES.symm
theorem zPj{β:Type}{L:Nat}{F:Nat→List β}:∀{n:Nat},(∀i,i<n→(F i).length=L)→(gl n F).flatten.length=n*L
 |0,_=>by simp[gl]
 |n+1,h=>by rw[zPi,Qr,J5,zPj fun i hi=>h i (by omega),Jy];simp[h n (by omega)]
theorem zS0{β:Type}{body:List β×Int→Option ((List β×Int)⊕List β)}(n L:Nat)(F:Nat→List β)(a0:List β)(hF:∀i,i<n→(F i).length=L)
  (h:∀i acc,i<n→acc.length=a0.length+i*L→body (acc,(i:Int))=ja (.inl (acc++F i,((i+1:Nat):Int))))(he:∀acc,body (acc,(n:Int))=ja (.inr acc)):
  zH body (a0,0)=ja (a0++(gl n F).flatten):=by
 have:=zW (body:=body) (r:=a0++(gl n F).flatten) (fun i=>(a0++(gl i F).flatten,(i:Int))) n (fun i hi=>by rw[h i _ hi (by rw[J5,zPj fun j hj=>hF j (by omega)]),zPi,Qr,Ja];simp) (he _)
 simpa[gl]using this
def zA9(p:Int)(D E:Nat)(r:List Int)(B:Mx):List Int:=mkv E fun j=>S D (fun l=>at0 r l*ent B l j)%p
section
variable {p:Int} (hp:Prime p)
 include hp
theorem zLU{D E:Nat}{r:List Int}{B:Mx}:Row p E (zA9 p D E r B):=by have h7:=hp.pos;refine⟨yB _ _,fun j hj=>?_⟩;rw[zA9,yE hj];have e1:=L7 (S D fun l=>at0 r l*ent B l j) (show p≠0 by omega);have e2:=Kr (S D fun l=>at0 r l*ent B l j) (show 0<p by omega);omega
end
end Go.Pl

namespace Go.Pl
open Go Go.Ab Go.Wk Go.Pc
end Go.Pl

namespace Go.Pl
open Go Go.Ab Go.Wk Go.Pc
theorem zHY{α:Type}{f:α→α}{a:α}(h:f a=a):∀k,iter k f a=a
 |0=>rfl
 |k+1=>by show iter k f (f a)=a;rw[h];exact zHY h k
theorem zS1{p:Int}{D:Nat}{A:List Mx}:∀(v:Vec)(o:Nat)(B:Mx),o+v.length≤A.length→wM p D A (nw o v) B=img (PM p D) (A.drop o) v B
 | [],o,B,_=>by simp[nw,wM,img]
 |a::v,o,B,h=>by
  simp only[J6]at h;have e:A.drop o=A.getD o []::A.drop (o+1):=by rw[Hc (by omega),J2,J3 (by omega)];rfl
  rw[e];simp only[nw,img];rw[zFJ,zN2,zS1 v (o+1) _ (by omega)]
theorem zCO:∀(k o:Nat),nw o (zeros k)=[]
 |0,_=>rfl
 |k+1,o=>by rw[show zeros (k+1)=0::zeros k from rfl];simp only[nw];rw[zCO k];rfl
section
variable {x:SPr}{m:zG}{D:Nat} (h:Pres x) (hm:zSp x.zA.length m D) (hr:zFK x m D)
 include hm
 include h hr
theorem zPk:∀(d k:Nat),k+d=x.zA.length→Rel (PM m.Prime D) (idM D) (suf x k) (m.zR.drop k)
 |0,k,hk=>by rw[vV (by omega),Jba (by rw[hm.len];omega)];exact rfl
 |d+1,k,mO=>by
  have h6:=h.os.1;have hk:k<x.zA.length:=by omega
  have gj:=hm.len;have e:m.zR.drop k=m.zR.getD k []::m.zR.drop (k+1):=by rw[Hc (by omega),J2,J3 (by omega)];rfl
  obtain⟨t1,t2,t3⟩:=h.tl k hk;obtain⟨r1,r2⟩:=hr k hk;have mA:∀v,Exp x.zA v k→wM m.Prime D m.zR (nw 0 v) (idM D)=img (PM m.Prime D) (m.zR.drop (k+1)) (v.drop (k+1)) (idM D):=fun v hv=>by
   have hl:=hv.1.1
   conv=>lhs;rw[zAs hv hk]
   rw[zDk,zCO,Ji,yC,zS1 _ _ _ (by rw[Jz];omega),Jg]
  rw[yG hk,e];refine⟨?_,fun q c dd hc hd=>?_,zPk d (k+1) (by omega)⟩
  ·show pw (PM m.Prime D) (idM D) (m.zR.getD k []) (lvl x k).o.toNat=img (PM m.Prime D) (m.zR.drop (k+1)) ((x.zT.getD k []).drop (k+1)) (idM D)
   rw[←mA _ t1,←r1,zN2];rfl
  ·rw[Ko]at hc
   have hq:k+1+q<m.zR.length:=by
    rcases Jk (k+1+q) m.zR.length with g|g
    ·exact g
    ·rw[K0 g]at hc;simp at hc
   have dQ:c=m.zR.getD (k+1+q) []:=by rw[J2,hc];rfl
   have mr:dd=((x.zE.getD k []).getD q []).drop (k+1):=by
    simp only[lvl,K1]at hd;rw[J2];cases hg:(x.zE.getD k [])[q]? with
    |none=>rw[hg]at hd;simp at hd
    |some u=>rw[hg]at hd;simp only[Hk,L8.injEq]at hd;exact hd.symm
   have:=r2 (k+1+q) (by omega) (by omega);rw[show k+1+q-(k+1)=q from by omega]at this;rw[dQ,mr,this,mA _ (t3 q (by omega))]
end
end Go.Pl

namespace Go.Pl
open Go Go.Ab Go.Wk Go.Pc
theorem zEU{p:Int}{c N:Nat}(fw:c+N≤100000){A:Mx}(hr:∀i,i<N→Row p c (A.getD i []))(hl:A.length=N):zVH A=ja (wd N A):=by
 unfold zVH;rw[vJ (body:=zM7 A) N (fun i=>A.getD i []++ur N i) (fun i acc hi ha=>by
  have h1:=(hr i hi).1;have e:xX (J1 (c+N) (0:Int)) 0 ((A.getD i []).take (((J1 (c+N) (0:Int)).length)-0))=A.getD i []++J1 N 0:=by
   unfold xX;rw[Jh,Jr (l:=A.getD i []) (by omega),K7,Ji,h1,H8]
   congr 2;omega
  have e2:ixO (A.getD i []++J1 N (0:Int)) ((c+i:Nat):Int)=ja 0:=by rw[uC,J8 (by omega),h1,Kw,if_pos (by omega)]
  unfold zM7;simp only
  rw[hl,xD hi,zN,yX [] (by omega),bs,h1,←Gf,zC (by omega) (by omega),bs,xM (by omega),bs,←Gf,zC (by omega) (by omega),bs,e,e2,bs,Je,Hl _ _ (by omega),h1,He,uS,jF,yN (by simp;omega),bs,zC (by omega) (by omega),bs,cs];rfl) (fun acc=>by
  unfold zM7;simp only
  rw[hl,xP,zI]),bs]
 rfl
end Go.Pl

namespace Go.Pl
open Go Go.Ab Go.Wk Go.Pc
theorem zLV{p:Int}(hp:Prime p){n:Nat}(hn:n≤100000){R:Mx}{pv:Nat→Nat}(h:Red p n R pv):f_p p R=ja R∧f_j p R=ja R:=by have h7:=hp.pos;have hl:R.length≤n:=h.len_le;obtain⟨R2,pv2,r1,r2,r3,r4⟩:=kR hp hn (rows:=R) (by omega) h.row;have e:=r3.unique (by omega) h r4;rw[e]at r1 r2;exact⟨r1,r2⟩
section
variable {p:Int} (hp:Prime p) {c N:Nat} (fw:c+N≤100000) {A W:Mx}{pv:Nat→Nat}{t:Nat}
 include hp fw
theorem zLW(h:Nul p c N A W pv t):zH (zQN (c:Int) W) ([],0)=ja (nul c t W):=by
 have h7:=hp.pos;have hf:=h.full hp fw;have p6:=h.le;have:=zW (body:=zQN (c:Int) W) (r:=nul c t W) (fun i=>(gl (i-t) (fun k=>(W.getD (t+k) []).drop c),(i:Int))) W.length (fun i hi=>by
  have hr:=h.red.row i hi;have h1:=h.red.one i hi;have e0:yA (W.getD i []) 0 (c:Int)=ja ((W.getD i []).take c):=by unfold yA;rw[if_pos ⟨by omega,by omega,by rw[hr.1];omega⟩,Je,show(0:Int).toNat=0 from rfl,Gb,Ud]
  have cE:((W.getD i []).take c).length=c:=by rw[K3,hr.1];omega
  have hz:=zKk (v:=(W.getD i []).take c) (by omega);unfold zQN;simp only
  rw[xD hi,zN,yX [] hi,bs,e0,bs];rcases Jk i t with g|g
  ·have eG:=h.lo i g
   rcases hz with⟨_,z⟩|⟨z,_⟩
   ·have:=z (pv i) (by omega)
    rw[zHX eG]at this;simp only[ent]at h1;omega
   ·rw[z,bs,zI,zC (by omega) (by omega),bs,cs,show i-t=0 from by omega,show i+1-t=0 from by omega]
  ·have ft:=h.hi i g hi
   have e:yA (W.getD i []) (c:Int) ((W.getD i []).length:Int)=ja ((W.getD i []).drop c):=by unfold yA;rw[if_pos ⟨by omega,by rw[hr.1];omega,by omega⟩,Je,Je,Jr (by rw[Jz];omega)]
   rcases hz with⟨z,_⟩|⟨_,z⟩
   ·rw[z,bs,zN,e,bs,yN (by rw[wC];simp;omega),bs,zC (by omega) (by omega),bs,cs,show i+1-t=(i-t)+1 from by omega,←zES,show t+(i-t)=i from by omega]
   ·refine absurd (fun j hj=>?_) z
    rw[cE]at hj;rw[zHX hj];have:=h.red.low i hi j (by omega);simpa only[ent]using this) (by
  unfold zQN;simp only
  rw[xP,zI];rfl)
 rw[show 0-t=0 from by omega]at this;exact this
theorem zFP(hr:∀i,i<N→Row p c (A.getD i []))(hl:A.length=N):∃K pk,f_Y p A (c:Int)=ja K∧f_G p A (c:Int)=ja K∧Red p N K pk∧ ∀x,Sp p N K x↔ ∀j,j<c→(S N fun k=>at0 x k*ent A k j)%p=0:=by
 obtain⟨W,pv,t,h1,h2,h3⟩:=Nul.get hp fw hr hl;refine⟨nul c t W,_,?_,?_,h1.nred hp fw,fun x=>h1.nsp hp fw⟩
 ·unfold f_Y
  rw[zQn hp fw hr hl,h2,bs,zQo hp fw h1,bs]
 ·unfold f_G
  rw[zEU fw hr hl,bs,h3,bs,zLW hp fw h1,bs,(zLV hp (by omega) (h1.nred hp fw)).2,bs]
end
end Go.Pl

namespace Go.Pl
open Go Go.Ab Go.Wk Go.Pc
section
variable {x:SPr} (h:Pres x)
 include h
theorem zS2:∀k,k≤x.zA.length→2*((Jl k).flatMap (R2 x)).length+k*k+k=2*(x.zA.length*k)
 |0,_=>by simp
 |k+1,hk=>by
  have ih:=zS2 k (by omega);have t2:=(h.tl k (by omega)).2.1;have e:((Jl (k+1)).flatMap (R2 x)).length=((Jl k).flatMap (R2 x)).length+(x.zE.getD k []).length:=by rw[Lr,Lz,J5];simp[R2]
  have e3:(k+1)*(k+1)=k*k+2*k+1:=by rw[Jap (k+1) k,Jy k k];omega
  have e4:x.zA.length*(k+1)=x.zA.length*k+x.zA.length:=Jap _ _;rw[e,e3,e4];omega
theorem zQp:2*(uU x).length=x.zA.length*(x.zA.length+1):=by have:=zS2 h x.zA.length (Jo _);simp only[uU,J5,Jd,Ky];rw[Jap];omega
end
theorem zFQ{α:Type}{F:α→List Int}{D:Nat}:∀(L:List α),(∀q∈L,(F q).length=D)→((L.map F).flatten).length=L.length*D
 | [],_=>by simp
 |y::L,h=>by
  have:=zFQ L fun q hq=>h q (by simp[hq])
  have:=h y (by simp);simp only[Jv,Lq,J5,J6,Jy];omega
def zLX{α:Type}(N:Nat)(F:Nat→α→List Int)(L:List α):Mx:=gl N fun k=>(L.map (F k)).flatten
section
variable {α:Type}{p:Int}{N D:Nat}{F:Nat→α→List Int} (hF:∀k,k<N→ ∀q,Row p D (F k q))
 include hF
theorem zQq(L:List α):∀k,k<N→Row p (L.length*D) ((zLX N F L).getD k []):=by intro k hk;rw[zLX,xU hk];refine zPg.2 ⟨zFQ L fun q _=>(hF k hk q).1,fun v hv=>?_⟩;obtain⟨r,h1,h2⟩:=List.mem_flatten.1 hv;obtain⟨q,_,rfl⟩:=Js.1 h1;exact(zPg.1 (hF k hk q)).2 v h2
end
def zEV(n D:Nat)(v:List Int):Mx:=gl n fun i=>mkv D fun j=>at0 v (i*D+j)
theorem zS3{v:List Int}{D a:Nat}(h:a+D≤v.length):(v.drop a).take D=mkv D fun j=>at0 v (a+j):=by
 have hl:((v.drop a).take D).length=D:=by rw[K3,Jz];omega
 rw[vX hl];exact zX fun j hj=>by rw[zHX hj,zB6]
theorem zFR{v:List Int}{D a:Nat}(h:a+D≤v.length):yA v (a:Int) ((a+D:Nat):Int)=ja (mkv D fun j=>at0 v (a+j)):=by unfold yA;rw[if_pos ⟨by omega,by omega,by omega⟩,Je,Je,He,zS3 h]
theorem zXW{p:Int}{n D:Nat}{v:List Int}(hv:Row p (n*D) v):VOk n p D (zEV n D v):=by
 refine⟨wC,fun i hi=>?_⟩;rw[zEV,xU hi];refine⟨yB _ _,fun j hj=>?_⟩;rw[yE hj];have:i*D+D≤n*D:=by have:=Kl D (show i+1≤n by omega);rw[Jy]at this;exact this
 exact hv.2 _ (by omega)
end Go.Pl

namespace Go.Pl
open Go Go.Ab Go.Wk Go.Pc
end Go.Pl

namespace Go.Pl
open Go Go.Ab Go.Wk Go.Pc
theorem zPl{n D i:Nat}(hi:i<n):i*D+D≤n*D:=by have:=Kl D (show i+1≤n by omega);rw[Jy]at this;exact this
theorem zHZ{n D:Nat}(hD:1≤D){v:List Int}(hl:v.length=n*D)(hs:n*D≤100000):f_S v (D:Int)=ja (zEV n D v):=by
 have hn:n≤n*D:=Jbg n hD;have:=zW (body:=zQH v (D:Int)) (r:=zEV n D v) (fun i=>(gl i fun i=>mkv D fun j=>at0 v (i*D+j),((i*D:Nat):Int))) n (fun i hi=>by
  have h1:=zPl (D:=D) hi;unfold zQH;simp only
  rw[jf (by omega),zN,←Gf,zC (by omega) (by omega),bs,zFR (by omega),bs,zEi (by rw[yB];omega),bs,yN (by rw[wC];simp;omega),bs,bs,zES,←Jy]) (by
  unfold zQH;simp only
  rw[je (by omega),zI];rfl)
 unfold f_S;rw[show((0*D:Nat):Int)=0 from by simp]at this;have e:zH (zQH v (D:Int)) ([],0)=ja (zEV n D v):=this;rw[e,bs]
theorem zS4{n D:Nat}(hD:1≤D)(hD3:D≤1000){v:List Int}(hl:v.length=n*D)(hs:n*D≤100000):f_Z v (D:Int)=ja (zEV n D v):=by
 have hn:n≤n*D:=Jbg n hD;have:=zW (body:=zQO v (D:Int)) (r:=zEV n D v) (fun i=>(gl i fun i=>mkv D fun j=>at0 v (i*D+j),((i*D:Nat):Int))) n (fun i hi=>by
  have h1:=zPl (D:=D) hi;unfold zQO;simp only
  rw[←Gf,zC (by omega) (by omega),bs,jf (by omega),zN,bs,zFR (by omega),bs,qO (by rw[yB];omega),bs,yN (by rw[wC];simp;omega),bs,bs,zES,←Jy]) (by
  unfold zQO;simp only
  rw[←Gf,zC (by omega) (by omega),bs,je (by omega),zI];rfl)
 unfold f_Z;rw[show((0*D:Nat):Int)=0 from by simp]at this;have e:zH (zQO v (D:Int)) ([],0)=ja (zEV n D v):=this;rw[e,bs]
section
variable {x:SPr} (h:Pres x) {m:zG}{D:Nat} (hm:MOk x.zA.length m D)
 include h hm
section
variable {vals:Mx} (hv:VOk x.zA.length m.Prime D vals)
 include hv
theorem zNF:f_q x m vals=ja ((uU x).map (dfc m D vals)):=by
 have h6:=h.os.1;have h7:=hm.p.pos;have h3:=hm.d3;have pI:=h.pl;have gG:=h.cl;have hz:=zHS (p:=m.Prime) (D:=D) (by omega);unfold f_q;rw[hm.d,xM (by omega),bs];have e1:=vJ (body:=zUn x m vals D) x.zA.length (fun i=>dfc m D vals (r1 x i)) (fun i acc hi ha=>by
  obtain⟨p1,p2⟩:=zAu h.os (h.tl i hi).1;have ho:=(h.os.2 i hi).pos;unfold zUn;simp only
  rw[xD hi,zN];rw[uX (S:=Row m.Prime D) (body:=zUm x m vals (acc,(i:Int))) (fun v=>v) (fun v=>stp m D vals v i) (at0 x.zA i) (by omega) (fun v _=>zBS hm h6 hv) (fun u q hu hq=>by
   unfold zUm;simp only
   rw[yP hi,bs,jf hq,zN,zB4 hm h6 hv hu hi,bs,zC (by omega) (by omega),bs,cs]) (fun u hu=>by
   unfold zUm;simp only
   rw[yP hi,bs,je (by omega),zI]) hz,bs,zC (by omega) (by omega),bs,yX [] (by omega),bs,zGt hm h6 hv hz p1 p2,bs,←zN4]
  have e1:f_x m.Prime (ev m D vals (z0 D) (J1 (at0 x.zA i).toNat i)) (m.Prime-1) (ev m D vals (z0 D) (nw 0 (x.zT.getD i [])))=ja (dfc m D vals (r1 x i)):=by rw[tO hm.p (zEh hm h6 hv hz _) (zEh hm h6 hv hz _) (by omega) (by omega),zEg];rfl
  rw[e1,bs,yN (by simp;omega),bs,zC (by omega) (by omega),bs,cs]) (fun acc=>by
  unfold zUn;simp only
  rw[xP,zI])
 rw[e1,bs];have iM:=zKa h;have e2:=zW (body:=zQP x m vals D) (r:=(uU x).map (dfc m D vals)) (fun i=>(((Jl x.zA.length).map (fun i=>dfc m D vals (r1 x i)))++((Jl i).flatMap (R2 x)).map (dfc m D vals),(i:Int))) x.zA.length (fun i hi=>by
  have t2:=(h.tl i hi).2.1;have hfi:=iM i (by omega);unfold zQP;simp only
  rw[xD hi,zN,zC (by omega) (by omega),bs,cs];have gJ:=zW (body:=zUo x m vals D (((Jl x.zA.length).map (fun i=>dfc m D vals (r1 x i)))++((Jl i).flatMap (R2 x)).map (dfc m D vals),(i:Int)))
   (r:=((Jl x.zA.length).map (fun i=>dfc m D vals (r1 x i)))++((Jl (i+1)).flatMap (R2 x)).map (dfc m D vals))
   (fun j=>(((Jl x.zA.length).map (fun i=>dfc m D vals (r1 x i)))++((Jl i).flatMap (R2 x)).map (dfc m D vals)++(Jl j).map (fun j=>dfc m D vals (r2 x i j)),((i+1+j:Nat):Int))) (x.zE.getD i []).length (fun j hj=>by
   obtain⟨c1,c2⟩:=zAu h.os ((h.tl i hi).2.2 j hj);have a8:i+1+j<x.zA.length:=by omega
   have s1:=zB4 hm h6 hv hz a8;have s2:=zB4 hm h6 hv (zBS hm h6 hv (v:=z0 D) (w:=i+1+j)) hi;have s3:=zB4 hm h6 hv hz hi;have s4:=zGt hm h6 hv (zBS hm h6 hv (v:=z0 D) (w:=i)) c1 c2;unfold zUo;simp only
   rw[xD a8,zN,s1,bs,s2,bs,s3,bs,yX [] (by omega),bs,zC (by omega) (by omega),bs,zC (by omega) (by omega),bs,show(((i+1+j:Nat):Int)-(i:Int)-1)=(j:Int)from by omega,yX [] hj,bs,s4,bs,zC (by omega) (by omega),bs];have e2:f_x m.Prime (stp m D vals (stp m D vals (z0 D) (i+1+j)) i) (m.Prime-1) (ev m D vals (stp m D vals (z0 D) i) (nw 0 ((x.zE.getD i []).getD j [])))=ja (dfc m D vals (r2 x i j)):=by rw[tO hm.p (zBS hm h6 hv) (zEh hm h6 hv (zBS hm h6 hv) _) (by omega) (by omega),zEg];simp only[dfc,r2,ev,U2,Jal];rw[show i+j+1=i+1+j from by omega]
   rw[e2,bs,yN (by simp only[J5,Jd,Ky,Gg];omega),bs,zC (by omega) (by omega),bs,cs,Lr,Kx,Ja];rfl) (by
   unfold zUo;simp only
   rw[show i+1+(x.zE.getD i []).length=x.zA.length from by omega,xP,zI,Lr (n:=i),Lz,Kx,←Ja];simp[R2])
  simp only[Q9,Ly,J9,Hy]at gJ;rw[gJ,bs,bs]) (by
  unfold zQP;simp only
  rw[xP,zI];simp only[uU,Kx,Jbs];rfl)
 simp only[Q9,Jam,Ly,J9]at e2;have e3:zH (zQP x m vals D) ((Jl x.zA.length).map (fun i=>dfc m D vals (r1 x i)),0)=ja ((uU x).map (dfc m D vals)):=e2;rw[e3,bs]
end
def uv(n D k:Nat):Mx:=zEV n D (kS (n*D) k)
theorem zPm{k:Nat}:VOk x.zA.length m.Prime D (uv x.zA.length D k):=by have _:=h;have h7:=hm.p.pos;exact zXW (zQk h7.1)
theorem zXX:∀k,k<x.zA.length*D→ ∀q,Row m.Prime D (dfc m D (uv x.zA.length D k) q):=fun k _ q=>by have _:=h;exact zA8 hm.p
theorem zS5{k:Nat}:f_S (kS (x.zA.length*D) k) (D:Int)=ja (uv x.zA.length D k):=by have h6:=h.os.1;have h3:=hm.d3;have cL:x.zA.length*D≤9*3:=K6 h6 h3;exact zHZ hm.d1 (yB _ _) (by omega)
theorem zXY{k:Nat}:f_Z (kS (x.zA.length*D) k) (D:Int)=ja (uv x.zA.length D k):=by have h6:=h.os.1;have h3:=hm.d3;have cL:x.zA.length*D≤9*3:=K6 h6 h3;exact zS4 hm.d1 (by omega) (yB _ _) (by omega)
theorem zIa{vals:Mx}{L:List Rl}:((L.map (dfc m D vals)).flatten).length=L.length*D:=by have _:=h;have _:=hm;exact zFQ L fun q _=>zSq
theorem zG2:zUq x m=ja (zLX (x.zA.length*D) (fun k=>dfc m D (uv x.zA.length D k)) (uU x)):=by
 have h6:=h.os.1;have h3:=hm.d3;have cL:x.zA.length*D≤9*3:=K6 h6 h3;have cd:=zKd h hm (zPm h hm (k:=0));have dH:(uU x).length*D≤100*3:=K6 cd h3;unfold zUq;rw[hm.d,←L6,zC (by omega) (by omega),bs];rw[vJ (body:=zMM x m ((x.zA.length*D:Nat):Int)) (x.zA.length*D) (fun k=>((uU x).map (dfc m D (uv x.zA.length D k))).flatten) (fun k acc hk ha=>by
  unfold zMM;simp only
  rw[xD hk,zN,zG1 hk (by omega),bs,hm.d,zS5 h hm,bs,zKe h hm (zPm h hm (k:=k)),bs,zAQ (by simp;omega) (by rw[zIa h hm];omega),bs,yN (by simp;omega),bs,zC (by omega) (by omega),bs,cs]) (fun acc=>by
  unfold zMM;simp only
  rw[xP,zI]),bs]
 rfl
theorem zQr{k N:Nat}:(J1 N (0:Int)).set k 1=kS N k:=by have _:=h;have _:=hm;rw[uS,jF,kS]
theorem zLY:zVY x m=ja (zLX (x.zA.length*D) (fun k=>dfc m D (uv x.zA.length D k)) (uU x)):=by
 have h6:=h.os.1;have h3:=hm.d3;have cL:x.zA.length*D≤9*3:=K6 h6 h3;have cd:=zKd h hm (zPm h hm (k:=0));have dH:(uU x).length*D≤100*3:=K6 cd h3;unfold zVY;rw[hm.d,←L6,zC (by omega) (by omega),bs];rw[vJ (body:=zML x m ((x.zA.length*D:Nat):Int)) (x.zA.length*D) (fun k=>((uU x).map (dfc m D (uv x.zA.length D k))).flatten) (fun k acc hk ha=>by
  unfold zML;simp only
  rw[xD hk,zN,xM (by omega),bs,uC,Kw,if_pos hk,bs,Je,zQr h hm,hm.d,zXY h hm,bs,zNF h hm (zPm h hm (k:=k)),bs,zQj (by simp;omega) (by rw[zIa h hm];omega),bs,yN (by simp;omega),bs,zC (by omega) (by omega),bs,cs]) (fun acc=>by
  unfold zML;simp only
  rw[xP,zI]),bs]
 rfl
end
end Go.Pl

namespace Go.Pl
open Go Go.Ab Go.Wk Go.Pc
end Go.Pl

namespace Go.Pl
open Go Go.Ab Go.Wk Go.Pc
end Go.Pl

namespace Go.Pl
open Go Go.Ab Go.Wk Go.Pc
theorem zIb{N c:Nat}{f:Nat→Int}:(mkv N f).drop c=mkv (N-c) fun i=>f (c+i):=by
 have hl:((mkv N f).drop c).length=N-c:=by rw[Jz,yB]
 rw[vX hl];exact zX fun j hj=>by rw[zB6,yE (by omega)]
theorem kT{n j:Nat}:xN n j=mkv n fun i=>if i=j then 1 else 0:=by rw[xN,show zeros n=J1 n (0:Int)from rfl,uS,jF]
theorem sA{n i:Nat}:at0 (zeros n) i=0:=by
 rcases Jk i n with g|g
 ·simp[zeros,at0,J2,g]
 ·simp[zeros,at0,J2,g]
structure ExB (n D:Nat) (x:SPr) (m:zG) (T:Mx):Prop where
 hn:n≤6
 o:x.zA.length=n
 p:x.zT.length=n
 c:x.zE.length=n
 cl:∀i,i<n→(x.zE.getD i []).length=n-1-i
 t:T.length=base n n
 m:zSp n m D
section
variable {D:Nat}{x:SPr}{m:zG}{T:Mx} (h:Pres x) (hE:ExB x.zA.length D x m T) (hT:∀i,i<T.length→Row m.Prime D (T.getD i []))
 include h hE hT
abbrev exx(D:Nat)(x:SPr)(m:zG)(T:Mx):SPr:=ext x.zA.length D x m T
theorem wJ:(exx D x m T).zA.length=x.zA.length+D:=by have _:=h;have _:=hE;have _:=hT;simp[exx,ext]
theorem tC{i:Nat}(hi:i<x.zA.length):at0 (exx D x m T).zA i=at0 x.zA i:=by have _:=h;have _:=hE;have _:=hT;show at0 (x.zA++J1 D m.Prime) i=_;rw[zDn,if_pos hi]
theorem zBW{i:Nat}(hi:x.zA.length≤i)(h2:i<x.zA.length+D):at0 (exx D x m T).zA i=m.Prime:=by have _:=h;have _:=hE;have _:=hT;show at0 (x.zA++J1 D m.Prime) i=_;rw[zDn,if_neg (by omega)];simp[at0,J2,show i-x.zA.length<D by omega]
theorem zNG{v t:List Int}{i:Nat}(hv:v.length=x.zA.length)(hr:∀j,j<x.zA.length→0≤at0 v j∧at0 v j≤at0 x.zA j-1)(hz:∀j,j≤i→j<x.zA.length→at0 v j=0)(ht:Row m.Prime D t)(hi:i<x.zA.length):Exp (exx D x m T).zA (v++t) i:=by
 have hl:=wJ h hE hT;refine⟨⟨by rw[J5,hv,ht.1,hl],fun j hj=>?_⟩,fun j hj=>?_⟩
 ·rw[J5,hv,ht.1]at hj
  rw[zDn,hv];split
  ·next g=>rw[tC h hE hT g];exact hr j g
  ·next g=>rw[zBW h hE hT (by omega) hj];exact ht.2 _ (by omega)
 ·rw[zDn,if_pos (by omega)];exact hz j hj (by omega)
theorem zLZ(i:Nat)(hi:i<base x.zA.length x.zA.length):Row m.Prime D (T.getD i []):=by have _:=h;exact hT i (by rw[hE.t];exact hi)
theorem zGF:zGr (exx D x m T):=by
 have hn:=hE.hn;have h3:=hE.m.d3;have h7:=hE.m.p.pos;have hl:=wJ h hE hT;have hb:=vK x.zA.length (by omega);refine⟨⟨trivial,fun i hi=>?_⟩,by rw[hl];exact wC,by rw[hl];exact wC,fun i hi=>?_⟩
 ·rw[hl]at hi
  rcases Jk i x.zA.length with g|g
  ·rw[tC h hE hT g];exact h.os.2 i g
  ·rw[zBW h hE hT g hi];exact hE.m.p
 ·rw[hl]at hi
  have hP:(exx D x m T).zT.getD i []=exP x.zA.length D x T i:=xU hi;have hC:(exx D x m T).zE.getD i []=exC x.zA.length D x m T i:=by show(gl (x.zA.length+D) (exC x.zA.length D x m T)).getD i []=_;simp[gl,J2,hi]
  refine⟨?_,?_,?_⟩
  ·rw[hP,exP]
   rcases Jk i x.zA.length with g|g
   ·rw[if_pos g]
    obtain⟨t1,_,_⟩:=h.tl i g;exact zNG h hE hT t1.1.1 (fun j hj=>t1.1.2 j (by rw[t1.1.1];exact hj)) (fun j hj _=>t1.2 j hj) (zLZ h hE hT i (by omega)) g
   ·rw[if_neg (by omega)]
    have hz:∀j,at0 (J1 (x.zA.length+D) (0:Int)) j=0:=fun j=>sA
    refine⟨⟨by rw[hl,Jh],fun j hj=>?_⟩,fun j _=>hz j⟩;rw[Jh]at hj;rw[hz];rcases Jk j x.zA.length with g2|g2
    ·rw[tC h hE hT g2];have:=(h.os.2 j g2).pos;omega
    ·rw[zBW h hE hT g2 hj];omega
  ·rw[hC,exC,hl]
   split
   ·rw[wC];omega
   ·rw[unC,wC];omega
  ·rw[hC,exC]
   split
   ·next g=>
    intro j hj;rw[wC]at hj;rw[xU hj,exF];split
    ·next g2=>
     have gG:=hE.cl i g;have fL:=zBU x.zA.length (by omega) i g;obtain⟨_,_,t3⟩:=h.tl i g;have t:=t3 j (by omega);exact zNG h hE hT t.1.1 (fun q hq=>t.1.2 q (by rw[t.1.1];exact hq)) (fun q hq _=>t.2 q hq) (zLZ h hE hT _ (by omega)) g
    ·next g2=>
     have hz:∀j,at0 (J1 x.zA.length (0:Int)) j=0:=fun j=>sA
     refine zNG h hE hT (by simp) (fun q hq=>?_) (fun q _ _=>hz q) ((hE.m.mat i g).2 _ (by omega)) g;rw[hz];have:=(h.os.2 q hq).pos;omega
   ·next g=>
    intro j hj;rw[unC,wC]at hj;rw[unC,xU hj];refine⟨⟨by rw[hl];exact yB _ _,fun q hq=>?_⟩,fun q hq=>?_⟩
    ·rw[kS,yB]at hq
     rw[kS,yE hq];rcases Jk q x.zA.length with g2|g2
     ·rw[tC h hE hT g2];have:=(h.os.2 q g2).pos;split<;>omega
     ·rw[zBW h hE hT g2 hq];split<;>omega
    ·rw[kS,yE (by omega),if_neg (by omega)]
theorem zB8{k:Nat}(hk:k<x.zA.length):(lvl (exx D x m T) k).o=at0 x.zA k:=tC h hE hT hk
theorem zIc{k:Nat}(hk:k<x.zA.length):(lvl (exx D x m T) k).w=(lvl x k).w++T.getD k []:=by have t1:=(h.tl k hk).1.1.1;have _:=hE;have _:=hT;show((exx D x m T).zT.getD k []).drop (k+1)=_;have hP:(exx D x m T).zT.getD k []=exP x.zA.length D x T k:=xU (by omega);rw[hP,exP,if_pos hk,Kt (by omega)];rfl
def eC1(x:SPr)(T:Mx)(k:Nat):List Vec:=gl (x.zA.length-1-k) fun j=>(lvl x k).cs.getD j []++T.getD (base x.zA.length k+j) []
def eC2(x:SPr)(m:zG)(D k:Nat):List Vec:=((gl D fun j=>(m.zR.getD k []).getD j []).map fun r=>zeros (x.zA.length-1-k)++r)
theorem zBX{k:Nat}(hk:k<x.zA.length):(lvl (exx D x m T) k).cs=eC1 x T k++eC2 x m D k:=by
 have gG:=hE.cl k hk;have _:=hT;show((exx D x m T).zE.getD k []).map (·.drop (k+1))=_;have hC:(exx D x m T).zE.getD k []=exC x.zA.length D x m T k:=by show(gl (x.zA.length+D) (exC x.zA.length D x m T)).getD k []=_;simp[gl,J2,show k<x.zA.length+D by omega]
 rw[hC,exC,if_pos hk];apply Ld;intro j
 by_cases hj:j<x.zA.length+D-1-k
 ·have e1:((gl (x.zA.length+D-1-k) (exF x.zA.length x m T k)).map (·.drop (k+1)))[j]? =ja ((exF x.zA.length x m T k j).drop (k+1)):=by simp[gl,hj]
  rw[e1,exF]
  by_cases g:j<x.zA.length-1-k
  ·rw[if_pos g,Jm (by rw[eC1,wC];exact g)]
   have t:=(h.tl k hk).2.2 j (by omega);rw[Kt (by have:=t.1.1;omega)];have e2:(eC1 x T k)[j]? =ja ((lvl x k).cs.getD j []++T.getD (base x.zA.length k+j) []):=by simp[eC1,gl,g]
   rw[e2]
   congr 2
   simp only[lvl,J2,K1];rw[J3 (l:=x.zE[k]?.getD []) (by rw[J2]at gG;omega)];rfl
  ·rw[if_neg g,J8 (by rw[eC1,wC];omega),eC1,wC]
   have e2:(eC2 x m D k)[j-(x.zA.length-1-k)]? =ja (zeros (x.zA.length-1-k)++(m.zR.getD k []).getD (j-(x.zA.length-1-k)) []):=by simp[eC2,gl,show j-(x.zA.length-1-k)<D by omega]
   rw[e2,Kt (by simp;omega),H8,show x.zA.length-(k+1)=x.zA.length-1-k from by omega];rfl
 ·rw[K0 (by simp[gl];omega),K0 (by simp[eC1,eC2,gl];omega)]
end
def tlv(p:Int):Nat→Pcp
 |0=>[]
 |d+1=>⟨p,zeros d,wL d⟩::tlv p d
theorem zGG{p:Int}:∀d,(tlv p d).length=d
 |0=>rfl
 |d+1=>by simp[tlv,zGG d]
theorem zDF{p:Int}:∀(d:Nat)(v:Vec),V (tlv p d) v↔Row p d v
 |0,v=>by
  constructor
  ·intro h
   obtain rfl:v=[]:=h;exact⟨rfl,fun i hi=>by omega⟩
  ·intro h
   have:=Kd h.1;subst this;exact rfl
 |d+1,v=>by
  cases v with
  |nil=>exact⟨fun h=>h.elim,fun h=>by have:=h.1;simp at this⟩
  |cons a v=>
   show((0≤a∧a<p)∧V (tlv p d) v)↔_;rw[zDF d v];constructor
   ·rintro⟨⟨h0,h1⟩,h2⟩
    refine⟨by simp[h2.1],fun i hi=>?_⟩;cases i with
    |zero=>simp only[at0,Lv];omega
    |succ i=>have:=h2.2 i (by omega);simpa[at0]using this
   ·intro h
    have h0:=h.2 0 (by omega);simp only[at0,Lv]at h0;refine⟨⟨h0.1,by omega⟩,by have:=h.1;simpa using this,fun i hi=>?_⟩;have:=h.2 (i+1) (by omega);simpa[at0]using this
abbrev adv(p:Int)(D:Nat)(u v:List Int):List Int:=mkv D fun j=>(at0 u j+at0 v j)%p
theorem sZ{p:Int}{D:Nat}{u v:List Int}(hp:0<p):Row p D (adv p D u v):=by refine⟨yB _ _,fun j hj=>?_⟩;rw[yE hj];have e1:=L7 (at0 u j+at0 v j) (show p≠0 by omega);have e2:=Kr (at0 u j+at0 v j) hp;omega
theorem zId{p:Int}{D:Nat}{c:List Int}(hp:0<p):∀(k:Nat)(acc:List Int),Row p D acc→iter k (fun w=>adv p D w c) acc=mkv D fun j=>(at0 acc j+(k:Int)*at0 c j)%p
 |0,acc,ha=>by
  show acc=_
  conv=>lhs;rw[vX ha.1]
  refine zX fun j hj=>?_
  have:=ha.2 j hj;rw[Int.natCast_zero,Ue,Hd,Kj this.1 (by omega)]
 |k+1,acc,ha=>by
  show iter k (fun w=>adv p D w c) (adv p D acc c)=_;rw[zId hp k _ (sZ hp)];refine zX fun j hj=>?_
  rw[yE hj,Ke,Kc,←Ke,←cs,Qj]
  congr 1;omega
theorem zXZ{f:Nat→Int}{n:Nat}:S (n+1) f=f 0+S n fun i=>f (i+1):=by
 rw[Jcr,zGE 1 n];simp only[S];rw[Lp]
 congr 1
 exact xI fun i _=>by rw[Jcr]
theorem zGH{p:Int}{D:Nat}(hp:0<p):∀(cs:List Vec)(v acc:Vec),v.length=cs.length→(∀i,i<v.length→0≤at0 v i)→Row p D acc→img (adv p D) cs v acc=mkv D fun j=>(at0 acc j+S cs.length fun k=>at0 v k*ent cs k j)%p
 | [],v,acc,hl,_,ha=>by
  show acc=_
  conv=>lhs;rw[vX ha.1]
  refine zX fun j hj=>?_
  have:=ha.2 j hj;simp only[Ju,S];rw[Hd,Kj this.1 (by omega)]
 |c::cs,[],acc,hl,_,_=>by simp at hl
 |c::cs,a::v,acc,hl,hv,ha=>by
  have h0:=hv 0 (by simp);simp only[at0,Lv]at h0;have fQ:Row p D (iter a.toNat (fun w=>adv p D w c) acc):=vO (S:=Row p D) (fun _ _=>sZ hp) _ ha;show img (adv p D) cs v (iter a.toNat (fun w=>adv p D w c) acc)=_;rw[zGH hp cs v _ (by simpa using hl) (fun i hi=>by have:=hv (i+1) (by simpa using hi);simpa[at0]using this) fQ,zId hp _ _ ha];refine zX fun j hj=>?_
  rw[yE hj,J6,zXZ,Ke,Kc,←Ke,Jde h0,Jc9];rfl
theorem zDo{α:Type}{S:α→Prop}{m m':α→α→α}(hm:∀a b,S a→S b→m a b=m' a b)(hc:∀a b,S a→S b→S (m' a b)):∀(cs:List α)(v:Vec)(acc:α),(∀c∈cs,S c)→S acc→img m cs v acc=img m' cs v acc
 | [],_,_,_,_=>by simp[img]
 |c::cs,[],_,_,_=>by simp[img]
 |c::cs,a::v,acc,h1,h2=>by
  have mw:=h1 c (by simp);have e:∀k acc,S acc→iter k (fun w=>m w c) acc=iter k (fun w=>m' w c) acc∧S (iter k (fun w=>m' w c) acc):=by
   intro k
   induction k with
   |zero=>intro acc ha;exact⟨rfl,ha⟩
   |succ k ih=>
    intro acc ha;show iter k (fun w=>m w c) (m acc c)=iter k (fun w=>m' w c) (m' acc c)∧_;rw[hm acc c ha mw];exact ih _ (hc _ _ ha mw)
  show img m cs v (iter a.toNat (fun w=>m w c) acc)=img m' cs v (iter a.toNat (fun w=>m' w c) acc);rw[(e _ _ h2).1];exact zDo hm hc cs v _ (fun c hc=>h1 c (by simp[hc])) (e _ _ h2).2
theorem zDp{d k j:Nat}(hk:k<d)(hj:j<d):ent (wL d) k j=if j=k then 1 else 0:=by
 have e:(wL d).getD k []=xN d k:=by simp[wL,J2,hk]
 rw[ent,e,kT,yE hj]
theorem xQ{p:Int}{D:Nat}(hp:0<p):Row p D (zeros D):=zHS hp
theorem qS{p:Int}(hp:2≤p):∀(d:Nat)(u v:Vec),Row p d u→Row p d v→mul (tlv p d) u v=adv p d u v
 |0,u,v,hu,_=>by have:=Kd hu.1;subst this;rfl
 |d+1,u,v,hu,hv=>by
  have ih:=qS hp d;have b8:=(zDF (d+1) u).2 hu;have mC:=(zDF (d+1) v).2 hv;cases u with
  |nil=>exact b8.elim
  |cons a u=>
   cases v with
   |nil=>exact mC.elim
   |cons b v=>
    obtain⟨⟨a0,a1⟩,eY⟩:=b8;obtain⟨⟨b0,b1⟩,eW⟩:=mC;have dE:=(zDF d u).1 eY;have eR:=(zDF d v).1 eW;change a<p at a1;change b<p at b1;have ep:∀w,Row p d w→sig (tlv p d) ⟨p,zeros d,wL d⟩ w=w:=fun w hw=>by
     have u7:∀c∈wL d,Row p d c:=fun c hc=>by obtain⟨k,hk,rfl⟩:=Js.1 hc;rw[kT];exact⟨yB _ _,fun j hj=>by rw[yE hj];split<;>omega⟩
     unfold sig;rw[zGG,zDo (S:=Row p d) (m':=adv p d) (fun a b ha hb=>ih a b ha hb) (fun _ _ _ _=>sZ (by omega)) (wL d) w _ u7 (xQ (by omega)),zGH (by omega) (wL d) w _ (by rw[hw.1];simp[wL]) (fun i hi=>(hw.2 i (by rw[←hw.1];exact hi)).1) (xQ (by omega))]
     conv=>rhs;rw[vX hw.1]
     refine zX fun j hj=>?_
     have f8:(wL d).length=d:=by simp[wL]
     have:=hw.2 j hj;rw[f8,sA,Lp,zAe (k:=j) hj (fun k hk gf=>by rw[zDp hk hj,if_neg (Ne.symm gf),Le]),zDp hj hj,if_pos rfl,Hq,Kj this.1 (by omega)]
    have e6:∀k,iter k (sig (tlv p d) ⟨p,zeros d,wL d⟩) u=u:=fun k=>zHY (ep u dE) k
    show mul (⟨p,zeros d,wL d⟩::tlv p d) (a::u) (b::v)=_;rw[yZ,e6,ih u v dE eR];have hz:adv p d (zeros d) (adv p d u v)=adv p d u v:=by
     refine zX fun j hj=>?_
     rw[yE hj,sA,Lp,Kc]
    rw[ih _ _ (xQ (by omega)) (sZ (by omega)),hz];have di:adv p (d+1) (a::u) (b::v)=(a+b)%p::adv p d u v:=by
     simp only[adv,mkv,Jb6,Jv,Jbs]
     congr 1
    rw[di];split
    ·next g=>
     have g:a+b≥p:=g;have e:(a+b)%p=a+b-p:=by rw[show a+b=(a+b-p)+p from by omega,Us,Kj (by omega) (by omega)];omega
     exact congrArg (· ::_) e.symm
    ·next g=>
     have g:¬a+b≥p:=g
     congr 1
     exact(Kj (by omega) (by omega)).symm
end Go.Pl

namespace Go.Pl
open Go Go.Ab Go.Wk Go.Pc
theorem zPn{α:Type}{m:α→α→α}:∀(c1:List α)(y:Vec)(c2:List α)(u:Vec)(acc:α),c1.length=y.length→img m (c1++c2) (y++u) acc=img m c2 u (img m c1 y acc)
 | [],[],_,_,_,_=>by cases ‹List α›<;>rfl
 | [],_::_,_,_,_,h=>by simp at h
 |_::_,[],_,_,_,h=>by simp at h
 |c::c1,a::y,c2,u,acc,h=>zPn c1 y c2 u _ (by simpa using h)
theorem zEW{α β:Type}{S:α→Prop}{m:α→α→α}{n:β→β→β}(φ:α→β)(hS:∀a b,S a→S b→S (m a b))(hm:∀a b,S a→S b→φ (m a b)=n (φ a) (φ b)):∀(cs:List α)(v:Vec)(a:α),(∀c∈cs,S c)→S a→φ (img m cs v a)=img n (cs.map φ) v (φ a)
 | [],v,a,_,_=>by cases v<;>rfl
 |_::_,[],_,_,_=>rfl
 |c::cs,t::v,a,hc,ha=>by
  have mw:=hc c (by simp);have e:∀k a,S a→φ (iter k (fun w=>m w c) a)=iter k (fun w=>n w (φ c)) (φ a)∧S (iter k (fun w=>m w c) a):=by
   intro k
   induction k with
   |zero=>intro a ha;exact⟨rfl,ha⟩
   |succ k ih=>
    intro a ha;have:=ih (m a c) (hS _ _ ha mw);rw[hm a c ha mw]at this;exact this
  show φ (img m cs v (iter t.toNat (fun w=>m w c) a))=img n (cs.map φ) v (iter t.toNat (fun w=>n w (φ c)) (φ a));rw[←(e _ a ha).1];exact zEW φ hS hm cs v _ (fun c h=>hc c (by simp[h])) (e _ a ha).2
theorem jH{p:Int}{D:Nat}{r:List Int}(hr:Row p D r):wG p D r (idM D)=r:=by
 conv=>rhs;rw[vX hr.1]
 refine zX fun j hj=>?_
 have:=hr.2 j hj;have e:∀l,l<D→ent (idM D) l j=if j=l then 1 else 0:=fun l hl=>by rw[ent,zDj hl,yE hj]
 rw[zAe (k:=j) hj (fun k hk gf=>by rw[e k hk,if_neg (Ne.symm gf),Le]),e j hj,if_pos rfl,Hq,sX this]
theorem zEX{p:Int}{D:Nat}{r:List Int}{A B:Mx}(hA:A.length=D):wG p D (wG p D r A) B=wG p D r (PM p D A B):=by
 refine zX fun j hj=>?_
 have e1:S D (fun l=>at0 (wG p D r A) l*ent B l j)%p=S D (fun l=>S D (fun i=>at0 r i*ent A i l)*ent B l j)%p:=kP fun l hl=>by rw[wG,yE hl,Jx,Kc,←Jx]
 have e2:S D (fun l=>at0 r l*ent (PM p D A B) l j)%p=S D (fun i=>at0 r i*S D (fun l=>ent A i l*ent B l j))%p:=kP fun l hl=>by rw[zN0 hA hl hj,Jx,Kc,←Jx]
 rw[e1,e2]
 congr 1
 have e3:S D (fun l=>S D (fun i=>at0 r i*ent A i l)*ent B l j)=S D (fun l=>S D (fun i=>at0 r i*ent A i l*ent B l j)):=xI fun l _=>(zLD _ _).symm
 rw[e3,zHL];refine xI fun i _=>?_
 rw[←zCK];exact xI fun l _=>by rw[Hi]
theorem vY{p:Int}{D:Nat}{v:List Int}(hv:Row p D v):adv p D (zeros D) v=v:=by
 conv=>rhs;rw[vX hv.1]
 refine zX fun j hj=>?_
 rw[sA,Lp,sX (hv.2 j hj)]
theorem zAA{p:Int}{D:Nat}{v:List Int}(hv:Row p D v):adv p D v (zeros D)=v:=by
 conv=>rhs;rw[vX hv.1]
 refine zX fun j hj=>?_
 rw[sA,Hd,sX (hv.2 j hj)]
theorem zS6{p:Int}{D:Nat}{acc v:List Int}{A:Mx}(hl:A.length=D):(mkv D fun j=>(at0 acc j+S A.length fun k=>at0 v k*ent A k j)%p)=adv p D acc (wG p D v A):=by
 refine zX fun j hj=>?_
 rw[wG,yE hj,hl,Jby]
theorem tI{p:Int}{D:Nat}{u v:List Int}:adv p D u v=adv p D v u:=zX fun j _=>by rw[Int.add_comm]
theorem zVi{p:Int}{D:Nat}{u v w:List Int}(hv:Row p D v)(hw:Row p D w):adv p D u v=adv p D u w↔v=w:=by
 constructor
 ·intro h
  rw[vX hv.1,vX hw.1];refine zX fun j hj=>?_
  have e:at0 (adv p D u v) j=at0 (adv p D u w) j:=by rw[h]
  rw[adv,adv,yE hj,yE hj]at e;have h1:=hv.2 j hj;have h2:=hw.2 j hj;have h3:=Int.emod_emod_of_dvd (at0 u j+at0 v j) (Int.dvd_refl p);have e4:(at0 u j+at0 v j-at0 u j)%p=(at0 u j+at0 w j-at0 u j)%p:=by rw[Int.sub_emod,e,←Int.sub_emod]
  rw[show at0 u j+at0 v j-at0 u j=at0 v j from by omega,show at0 u j+at0 w j-at0 u j=at0 w j from by omega,sX h1,sX h2]at e4;exact e4
 ·intro h;rw[h]
section
variable {D:Nat}{x:SPr}{m:zG}{T:Mx} (h:Pres x) (hE:ExB x.zA.length D x m T) (hT:∀i,i<T.length→Row m.Prime D (T.getD i []))
 include h hE hT
theorem zAp:∀(d k:Nat),x.zA.length≤k→k+d=x.zA.length+D→suf (exx D x m T) k=tlv m.Prime d
 |0,k,hk,hd=>by rw[vV (by rw[wJ h hE hT];omega)];rfl
 |d+1,k,hk,hd=>by
  have hl:=wJ h hE hT;rw[yG (by omega),zAp d (k+1) (by omega) (by omega),tlv]
  congr 1
  have hP:(exx D x m T).zT.getD k []=exP x.zA.length D x T k:=xU (by omega);have hC:(exx D x m T).zE.getD k []=exC x.zA.length D x m T k:=by show(gl (x.zA.length+D) (exC x.zA.length D x m T)).getD k []=_;simp[gl,J2,show k<x.zA.length+D by omega]
  unfold lvl;rw[hP,hC,exP,exC,if_neg (by omega),if_neg (by omega),zBW h hE hT hk (by omega),H8,show x.zA.length+D-(k+1)=d from by omega]
  congr 1
  rw[unC,wL,gl,Jbs,show x.zA.length+D-1-k=d from by omega];refine Qp fun j hj=>?_
  have hj:=Kv.1 hj;show(kS (x.zA.length+D) (k+1+j)).drop (k+1)=xN d j;rw[kS,zIb,kT,show x.zA.length+D-(k+1)=d from by omega];refine zX fun i _=>?_
  by_cases g:i=j
  ·rw[if_pos g,if_pos (by omega)]
  ·rw[if_neg g,if_neg (by omega)]
theorem sK:∀(d k:Nat),k+d=x.zA.length→ ∀v,V (suf (exx D x m T) k) v↔ ∃y u,v=y++u∧V (suf x k) y∧Row m.Prime D u
 |0,k,hk,v=>by
  rw[zAp h hE hT D k (by omega) (by omega),zDF,vV (x:=x) (k:=k) (by omega)];constructor
  ·intro g;exact⟨[],v,rfl,rfl,g⟩
  ·rintro⟨y,u,rfl,hy,hu⟩
   obtain rfl:y=[]:=hy;exact hu
 |d+1,k,hk,v=>by
  have hl:=wJ h hE hT;have ih:=sK d (k+1) (by omega);rw[yG (x:=exx D x m T) (by omega),yG (x:=x) (by omega)];cases v with
  |nil=>
   refine⟨fun g=>g.elim,?_⟩
   rintro⟨y,u,e,hy,hu⟩
   cases y with
   |nil=>exact hy.elim
   |cons a y=>simp at e
  |cons a v=>
   show((0≤a∧a<(lvl (exx D x m T) k).o)∧V (suf (exx D x m T) (k+1)) v)↔_;rw[zB8 h hE hT (by omega),ih v];constructor
   ·rintro⟨g,y,u,rfl,hy,hu⟩
    exact⟨a::y,u,rfl,⟨g,hy⟩,hu⟩
   ·rintro⟨y,u,e,hy,hu⟩
    cases y with
    |nil=>exact hy.elim
    |cons b y=>
     simp only[Jp,Qs.injEq]at e;obtain⟨rfl,rfl⟩:=e;exact⟨hy.1,y,u,rfl,hy.2,hu⟩
theorem zEY:∀(d k:Nat),k+d=x.zA.length→ ∀y u r,V (suf x k) y→Row m.Prime D u→Row m.Prime D r→mul (suf (exx D x m T) k) (y++u) (zeros d++r)=y++adv m.Prime D u r
 |0,k,hk,y,u,r,hy,hu,hr=>by have hp:=hE.m.p.pos;rw[vV (x:=x) (k:=k) (by omega)]at hy;obtain rfl:y=[]:=hy;rw[zAp h hE hT D k (by omega) (by omega)];exact qS (by omega) D u r hu hr
 |d+1,k,hk,y,u,r,hy,hu,hr=>by
  have hl:=wJ h hE hT;rw[yG (x:=x) (by omega)]at hy;cases y with
  |nil=>exact hy.elim
  |cons a y=>
   obtain⟨⟨a0,a1⟩,hy⟩:=hy;change a<at0 x.zA k at a1;rw[yG (x:=exx D x m T) (by omega)];show mul _ (a::(y++u)) (0::(zeros d++r))=_;rw[yZ,zB8 h hE hT (by omega),if_neg (by omega)];show(a+0)::mul _ (y++u) (zeros d++r)=_;rw[zEY d (k+1) (by omega) y u r hy hu hr,Hd];rfl
theorem uG{k:Nat}(hk:k≤x.zA.length+D):Pc.Ok (suf (exx D x m T) k):=(zGF h hE hT).okAt (by rw[wJ h hE hT];exact hk)
theorem zNH{d k:Nat}(hk:k+d=x.zA.length):∀(rs:List Vec)(v:Vec)(y u:Vec),(∀r∈rs,Row m.Prime D r)→V (suf x k) y→Row m.Prime D u→img (mul (suf (exx D x m T) k)) (rs.map fun r=>zeros d++r) v (y++u)=y++img (adv m.Prime D) rs v u
 | [],v,y,u,_,_,_=>by cases v<;>rfl
 |_::_,[],_,_,_,_,_=>rfl
 |c::rs,t::v,y,u,hr,hy,hu=>by
  have hp:=hE.m.p.pos;have hc:=hr c (by simp);have e:∀q u,Row m.Prime D u→iter q (fun w=>mul (suf (exx D x m T) k) w (zeros d++c)) (y++u)=y++iter q (fun w=>adv m.Prime D w c) u:=by
   intro q
   induction q with
   |zero=>intro u _;rfl
   |succ q ih=>
    intro u hu;show iter q _ (mul _ (y++u) (zeros d++c))=_;rw[zEY h hE hT d k hk y u c hy hu hc,ih _ (sZ (by omega))];rfl
  show img _ (rs.map fun r=>zeros d++r) v (iter t.toNat (fun w=>mul (suf (exx D x m T) k) w (zeros d++c)) (y++u))=_;rw[e _ _ hu,zNH hk rs v y _ (fun r h=>hr r (by simp[h])) hy (vO (S:=Row m.Prime D) (fun _ _=>sZ (by omega)) _ hu)];rfl
theorem zYa{k:Nat}(hk:k<x.zA.length):(gl D fun j=>(m.zR.getD k []).getD j [])=m.zR.getD k []:=by
 have _:=h;have _:=hT;have hl:=(hE.m.mat k hk).1;apply Ld;intro j;simp only[gl,K1]
 by_cases g:j<D
 ·rw[Ux g,Hk,J2 (i:=j),J3 (by omega)];rfl
 ·rw[K0 (by simp;omega),K0 (by omega)];rfl
def sgG(D:Nat)(x:SPr)(m:zG)(T:Mx)(k:Nat)(y:Vec):Vec:=img (mul (suf (exx D x m T) (k+1))) (eC1 x T k) y (zeros (suf (exx D x m T) (k+1)).length)
theorem uV{k:Nat}:(eC1 x T k).length=x.zA.length-1-k:=by have _:=h;have _:=hE;have _:=hT;rw[eC1,wC]
theorem zPo{k:Nat}(hk:k<x.zA.length):∀c∈eC1 x T k,V (suf (exx D x m T) (k+1)) c:=by intro c hc;have ok:=uG h hE hT (k:=k) (by omega);rw[yG (by rw[wJ h hE hT];omega)]at ok;exact ok.2.2.2.1 c (by rw[zBX h hE hT hk];exact Gv _ hc)
theorem zBd{k:Nat}(hk:k≤x.zA.length):zeros (suf (exx D x m T) k).length=zeros (x.zA.length-k)++zeros D:=by rw[yQ,wJ h hE hT];simp only[zeros,Jw];congr 1;omega
theorem zIe{k:Nat}(hk:k<x.zA.length){y:Vec}:V (suf (exx D x m T) (k+1)) (sgG D x m T k y):=by have ok:=uG h hE hT (k:=k+1) (by omega);exact jD (xH ok) _ _ (zPo h hE hT hk) (wP ok)
theorem zBY{k:Nat}(hk:k<x.zA.length){y u:Vec}(hy:V (suf x (k+1)) y)(hu:Row m.Prime D u):
  sig (suf (exx D x m T) (k+1)) (lvl (exx D x m T) k) (y++u)=(sgG D x m T k y).take (x.zA.length-(k+1))++adv m.Prime D ((sgG D x m T k y).drop (x.zA.length-(k+1))) (wG m.Prime D u (m.zR.getD k [])):=by
 have hp:=hE.m.p.pos;have hA:=hE.m.mat k hk;have ej:=wZ h (by omega) hy;unfold sig;rw[zBX h hE hT hk,zPn _ _ _ _ _ (by rw[uV h hE hT];omega)];show img _ (eC2 x m D k) u (sgG D x m T k y)=_;obtain⟨y1,u1,e,fy,fO⟩:=(sK h hE hT (x.zA.length-(k+1)) (k+1) (by omega) _).1 (zIe h hE hT hk (y:=y));have gL:=wZ h (by omega) fy;rw[e,eC2,zYa h hE hT hk,show x.zA.length-1-k=x.zA.length-(k+1)from by omega,zNH h hE hT (by omega) _ _ _ _ (fun r hr=>?_) fy fO,zGH (by omega) _ _ _ (by rw[hA.1,hu.1]) (fun i hi=>(hu.2 i (by rw[←hu.1];exact hi)).1) fO,zS6 hA.1,Jn gL,K5 gL];obtain⟨j,hj,rfl⟩:=Ga.1 hr;have cB:=hA.1;have:=hA.2 j (by omega)
 rwa [J2,J3 hj]at this
theorem zGI{k:Nat}(hk:k<x.zA.length){u:Vec}(hu:Row m.Prime D u):
  sig (suf (exx D x m T) (k+1)) (lvl (exx D x m T) k) (zeros (x.zA.length-(k+1))++u)=zeros (x.zA.length-(k+1))++wG m.Prime D u (m.zR.getD k []):=by
 have hp:=hE.m.p.pos;have ok:=h.okAt (k:=k+1) (by omega);have hz:=wP ok;rw[yQ]at hz;have e:sgG D x m T k (zeros (x.zA.length-(k+1)))=zeros (x.zA.length-(k+1))++zeros D:=by unfold sgG;rw[sW,zBd h hE hT (by omega)]
 rw[zBY h hE hT hk hz hu,e,Jn (yC _),K5 (yC _),vY (wY (by omega))]
theorem zIf{k:Nat}(hk:k<x.zA.length):∀(q:Nat){u:Vec},Row m.Prime D u→
  iter q (sig (suf (exx D x m T) (k+1)) (lvl (exx D x m T) k)) (zeros (x.zA.length-(k+1))++u)=zeros (x.zA.length-(k+1))++iter q (fun u=>wG m.Prime D u (m.zR.getD k [])) u
 |0,u,_=>rfl
 |q+1,u,hu=>by have hp:=hE.m.p.pos;show iter q _ (sig _ _ _)=_;rw[zGI h hE hT hk hu,zIf hk q (wY (by omega))];rfl
end
end Go.Pl

namespace Go.Pl
open Go Go.Ab Go.Wk Go.Pc
theorem zFS{p:Int}{D:Nat}{A:Mx}(hA:Mat p D A)(hp:2≤p){r:List Int}(hr:Row p D r):∀q,iter q (fun u=>wG p D u A) r=wG p D r (pw (PM p D) (idM D) A q)
 |0=>(jH hr).symm
 |q+1=>by
  have hm:Mat p D (pw (PM p D) (idM D) A q):=vO (S:=Mat p D) (fun _ hB=>zHM (by omega) hB.1) q (qR hp);unfold pw at*
  rw[wX,wX,zFS hA hp hr q];exact zEX hm.1
theorem zS7{p:Int}{D:Nat}(hp:0<p){r:List Int}:iter p.toNat (fun w=>adv p D w r) (zeros D)=zeros D:=by
 rw[zId hp _ _ (xQ hp)];rw[show zeros D=mkv D fun _=>0 from uS D];refine zX fun j hj=>?_
 rw[yE hj,Jde (by omega),Lp,Int.mul_emod_right]
theorem zAB{p:Int}{D:Nat}{A:Mx}:wG p D (zeros D) A=zeros D:=by
 rw[show zeros D=mkv D fun _=>0 from uS D];refine zX fun j hj=>?_
 rw[xI (g:=fun _=>0) fun l hl=>by rw[yE hl,Ue],qH,Int.zero_emod]
theorem zQs{p:Int}{D q:Nat}{A:Mx}(hq:q<D)(hA:Mat p D A):wG p D (xN D q) A=A.getD q []:=by
 have hr:=hA.2 q hq
 conv=>rhs;rw[vX hr.1]
 refine zX fun j hj=>?_
 rw[kT,zAe (k:=q) hq (fun i hi gf=>by rw[yE hi,if_neg gf,Ue]),yE hq,if_pos rfl,Jaa,sX (hr.2 j hj)]
theorem sB{p:Int}{D q:Nat}(hp:2≤p):Row p D (xN D q):=by rw[kT];exact⟨yB _ _,fun j hj=>by rw[yE hj];split<;>omega⟩
theorem zMa{N D q:Nat}(hq:q<D):xN (N+D) (N+q)=zeros N++xN D q:=by rw[zAn (by omega),zAn hq,←Ja];simp only[zeros,Jw];rw[show N+D-(N+q+1)=D-(q+1)from by omega]
def aM(m:zG)(D k:Nat)(v:Vec):Mx:=img (PM m.Prime D) (m.zR.drop k) v (idM D)
theorem zS8{p:Int}{D:Nat}(hp:2≤p):Mon (Mat p D) (PM p D) (idM D):=
 ⟨fun ha _=>zHM (by omega) ha.1,qR (by omega),fun ha hb _=>zLE ha.1 hb.1,fun ha=>zEK ha,fun ha=>zCL ha⟩
section
variable {D:Nat}{x:SPr}{m:zG}{T:Mx} (h:Pres x) (hE:ExB x.zA.length D x m T) (hT:∀i,i<T.length→Row m.Prime D (T.getD i []))
 include h hE hT
theorem zS9{k:Nat}(hk:k<x.zA.length):(eC1 x T k).map (·.take (x.zA.length-(k+1)))=(lvl x k).cs:=by
 have _:=hE;have _:=hT;have gG:=zAt h.w hk;apply Ld;intro j
 by_cases g:j<x.zA.length-(k+1)
 ·obtain⟨c,_,_,c3,c4⟩:=zEH h hk g
  have hl:=wZ h (by omega) c3;have e1:((eC1 x T k).map (·.take (x.zA.length-(k+1))))[j]? =ja (((lvl x k).cs.getD j []++T.getD (base x.zA.length k+j) []).take (x.zA.length-(k+1))):=by simp[eC1,gl,show j<x.zA.length-1-k by omega]
  rw[e1,c4,Jn hl,J3 (by omega)];rw[J2,J3 (by omega)]at c4;exact congrArg ja c4.symm
 ·rw[K0 (by simp[eC1,gl];omega),K0 (by omega)]
theorem zMb{k:Nat}(hk:k<x.zA.length):m.zR.drop k=m.zR.getD k []::m.zR.drop (k+1):=by have _:=h;have _:=hT;have hl:=hE.m.len;rw[Hc (by omega),J2,J3 (by omega)];rfl
theorem zVj{k:Nat}(hk:k<x.zA.length){b:Int}{y:Vec}:aM m D k (b::y)=PM m.Prime D (pw (PM m.Prime D) (idM D) (m.zR.getD k []) b.toNat) (aM m D (k+1) y):=by
 have M:=zS8 hE.m.p.pos.1 (D:=D);unfold aM;rw[zMb h hE hT hk];refine qN M (hE.m.mat k hk) fun c hc=>?_
 obtain⟨i,hi,rfl⟩:=Ga.1 (Jbr hc);have:=hE.m.mat i (by rw[←hE.m.len];exact hi)
 rwa [J2,J3 hi]at this
theorem pwM{k q:Nat}(hk:k<x.zA.length):Mat m.Prime D (pw (PM m.Prime D) (idM D) (m.zR.getD k []) q):=by have _:=h;have _:=hT;have _:=hk;have hp:=hE.m.p.pos;exact vO (S:=Mat m.Prime D) (fun _ hB=>zHM (by omega) hB.1) q (qR (by omega))
theorem zPp:∀(d k:Nat),k+d=x.zA.length→ ∀r y v,Row m.Prime D r→V (suf x k) y→Row m.Prime D v→mul (suf (exx D x m T) k) (zeros d++r) (y++v)=y++adv m.Prime D (wG m.Prime D r (aM m D k y)) v
 |0,k,hk,r,y,v,hr,hy,hv=>by
  have hp:=hE.m.p.pos;rw[vV (x:=x) (k:=k) (by omega)]at hy;obtain rfl:y=[]:=hy;rw[zAp h hE hT D k (by omega) (by omega)];have e:aM m D k []=idM D:=by unfold aM;cases m.zR.drop k<;>rfl
  rw[e,jH hr];exact qS (by omega) D r v hr hv
 |d+1,k,hk,r,y,v,hr,hy,hv=>by
  have hl:=wJ h hE hT;have hp:=hE.m.p.pos;have hA:=hE.m.mat k (by omega);rw[yG (x:=x) (by omega)]at hy;cases y with
  |nil=>exact hy.elim
  |cons b y=>
   obtain⟨⟨b0,b1⟩,hy⟩:=hy;change b<at0 x.zA k at b1;rw[yG (x:=exx D x m T) (by omega)];show mul _ (0::(zeros d++r)) (b::(y++v))=_;have e:=zIf h hE hT (k:=k) (by omega) b.toNat hr;rw[show x.zA.length-(k+1)=d from by omega]at e;rw[yZ,zB8 h hE hT (by omega),if_neg (by omega),e,zFS hA (by omega) hr,zPp d (k+1) (by omega) _ y v (wY (by omega)) hy hv,Lp,zVj h hE hT (by omega),←zEX (pwM h hE hT (by omega)).1];rfl
theorem zMc{k:Nat}(hk:k<x.zA.length)(ih:∀a b,V (suf (exx D x m T) (k+1)) a→V (suf (exx D x m T) (k+1)) b→(mul (suf (exx D x m T) (k+1)) a b).take (x.zA.length-(k+1))=mul (suf x (k+1)) (a.take (x.zA.length-(k+1))) (b.take (x.zA.length-(k+1)))){v:Vec}(hv:V (suf (exx D x m T) (k+1)) v):
  (sig (suf (exx D x m T) (k+1)) (lvl (exx D x m T) k) v).take (x.zA.length-(k+1))=sig (suf x (k+1)) (lvl x k) (v.take (x.zA.length-(k+1))):=by
 have ok:=uG h hE hT (k:=k+1) (by omega);obtain⟨y,u,rfl,hy,hu⟩:=(sK h hE hT (x.zA.length-(k+1)) (k+1) (by omega) _).1 hv;have ej:=wZ h (by omega) hy;obtain⟨y1,u1,e,fy,fO⟩:=(sK h hE hT (x.zA.length-(k+1)) (k+1) (by omega) _).1 (zIe h hE hT hk (y:=y));have gL:=wZ h (by omega) fy;rw[zBY h hE hT hk hy hu,Jn (by rw[e,Jn gL,gL]),Jn ej];unfold sgG sig;rw[zEW (S:=V (suf (exx D x m T) (k+1))) (n:=mul (suf x (k+1))) (·.take (x.zA.length-(k+1))) (fun a b=>xH ok) ih _ _ _ (zPo h hE hT hk) (wP ok),zS9 h hE hT hk,zBd h hE hT (by omega),Jn (yC _),yQ]
theorem zKl:∀(d k:Nat),k+d=x.zA.length→ ∀a b,V (suf (exx D x m T) k) a→V (suf (exx D x m T) k) b→(mul (suf (exx D x m T) k) a b).take d=mul (suf x k) (a.take d) (b.take d)
 |0,k,hk,a,b,_,_=>by rw[vV (x:=x) (by omega),K7];rfl
 |d+1,k,hk,a,b,ha,hb=>by
  have hl:=wJ h hE hT;have ih:=zKl d (k+1) (by omega);have hd:d=x.zA.length-(k+1):=by omega
  have ok:=uG h hE hT (k:=k+1) (by omega);have ok0:=uG h hE hT (k:=k) (by omega);rw[hd]at ih;have hs:=fun v hv=>zMc h hE hT (k:=k) (by omega) ih (v:=v) hv
  rw[yG (x:=exx D x m T) (by omega)]at ha hb ok0 ⊢
  rw[yG (x:=x) (by omega)];cases a with
  |nil=>exact ha.elim
  |cons a u=>
  cases b with
  |nil=>exact hb.elim
  |cons b v=>
   have e6:∀q u,V (suf (exx D x m T) (k+1)) u→(iter q (sig (suf (exx D x m T) (k+1)) (lvl (exx D x m T) k)) u).take d=iter q (sig (suf x (k+1)) (lvl x k)) (u.take d)∧V (suf (exx D x m T) (k+1)) (iter q (sig (suf (exx D x m T) (k+1)) (lvl (exx D x m T) k)) u):=by
    intro q
    induction q with
    |zero=>intro u hu;exact⟨rfl,hu⟩
    |succ q ihq=>
     intro u hu;have:=ihq _ (zC9 ok0 hu);rw[hd,hs u hu]at this;rw[hd];exact this
   obtain⟨db,fa⟩:=e6 b.toNat u ha.2;have hm:=xH ok fa hb.2;rw[yZ,Kb,Kb,yZ,zB8 h hE hT (by omega),show(lvl x k).o=at0 x.zA k from rfl];have e1:=ih _ _ fa hb.2;rw[←hd,db]at e1;split
   ·rw[Kb]
    have e2:=ih _ _ ok0.2.1 hm;rw[←hd,e1]at e2;rw[e2]
    congr 2
    have ht:=(h.tl k (by omega)).1;have hw:=jL ht (by omega);have hwl:(lvl x k).w.length=x.zA.length-(k+1):=wZ h (by omega) hw;rw[zIc h hE hT (by omega),Jn (by omega)]
   ·rw[Kb,e1]
end
end Go.Pl

namespace Go.Pl
open Go Go.Ab Go.Wk Go.Pc
theorem zQt{p:Int}{d:Nat}(hp:2≤p):∀c∈wL d,Row p d c:=fun c hc=>by obtain⟨k,_,rfl⟩:=Js.1 hc;exact sB hp
theorem zVk{p:Int}(hp:2≤p){d:Nat}{w:Vec}(hw:Row p d w):sig (tlv p d) ⟨p,zeros d,wL d⟩ w=w:=by
 unfold sig;rw[zGG,zDo (S:=Row p d) (m':=adv p d) (fun a b ha hb=>qS hp d a b ha hb) (fun _ _ _ _=>sZ (by omega)) (wL d) w _ (zQt hp) (xQ (by omega)),zGH (by omega) (wL d) w _ (by rw[hw.1];simp[wL]) (fun i hi=>(hw.2 i (by rw[←hw.1];exact hi)).1) (xQ (by omega))]
 conv=>rhs;rw[vX hw.1]
 refine zX fun j hj=>?_
 have f8:(wL d).length=d:=by simp[wL]
 rw[f8,sA,Lp,zAe (k:=j) hj (fun k hk gf=>by rw[zDp hk hj,if_neg (Ne.symm gf),Le]),zDp hj hj,if_pos rfl,Hq,sX (hw.2 j hj)]
structure LCn (x e:SPr) (k:Nat):Prop where
 c1:∀j,k+1≤j→j<x.zA.length→pw (mul (suf e (k+1))) (zeros (suf e (k+1)).length) ((lvl e k).cs.getD (j-(k+1)) []) (at0 e.zA j).toNat=sig (suf e (k+1)) (lvl e k) ((e.zT.getD j []).drop (k+1))
 c2:∀i,k+1≤i→i<x.zA.length→ ∀j,i+1≤j→j<x.zA.length→
  mul (suf e (k+1)) ((lvl e k).cs.getD (j-(k+1)) []) ((lvl e k).cs.getD (i-(k+1)) [])=mul (suf e (k+1)) ((lvl e k).cs.getD (i-(k+1)) []) (sig (suf e (k+1)) (lvl e k) (((e.zE.getD i []).getD (j-(i+1)) []).drop (k+1)))
 c3:sig (suf e (k+1)) (lvl e k) (lvl e k).w=(lvl e k).w
 c4:∀j,k+1≤j→j<x.zA.length→mul (suf e (k+1)) (lvl e k).w (iter (lvl e k).o.toNat (sig (suf e (k+1)) (lvl e k)) (xN (e.zA.length-(k+1)) (j-(k+1))))=mul (suf e (k+1)) (xN (e.zA.length-(k+1)) (j-(k+1))) (lvl e k).w
section
variable {D:Nat}{x:SPr}{m:zG}{T:Mx} (h:Pres x) (hE:ExB x.zA.length D x m T) (hT:∀i,i<T.length→Row m.Prime D (T.getD i []))
 include h hE hT
theorem zSA{k j:Nat}(hk:k<x.zA.length)(hj:x.zA.length≤j)(h2:j<x.zA.length+D):(lvl (exx D x m T) k).cs.getD (j-(k+1)) []=zeros (x.zA.length-(k+1))++(m.zR.getD k []).getD (j-x.zA.length) []:=by rw[zBX h hE hT hk,J2,J8 (by rw[uV h hE hT];omega),uV h hE hT,eC2];simp only[gl,K1];rw[Ux (by omega),show j-(k+1)-(x.zA.length-1-k)=j-x.zA.length from by omega,show x.zA.length-1-k=x.zA.length-(k+1)from by omega];rfl
theorem zIg{k j:Nat}(hk:k<x.zA.length)(hj:k+1≤j)(h2:j<x.zA.length):(lvl (exx D x m T) k).cs.getD (j-(k+1)) []=(lvl x k).cs.getD (j-(k+1)) []++T.getD (base x.zA.length k+(j-(k+1))) []:=by rw[zBX h hE hT hk,J2,Jm (by rw[uV h hE hT];omega),eC1];simp only[gl,K1];rw[Ux (by omega)];rfl
theorem zDG{i j:Nat}(hi:i<j)(hj:j<x.zA.length):Row m.Prime D (T.getD (base x.zA.length i+(j-(i+1))) []):=by have _:=h;have hn:=hE.hn;have hb:=zBU x.zA.length (by omega) i (by omega);exact hT _ (by rw[hE.t];omega)
theorem zBZ{i:Nat}(hi:i<x.zA.length):Row m.Prime D (T.getD i []):=by have _:=h;have hn:=hE.hn;have hb:=vK x.zA.length (by omega);exact hT _ (by rw[hE.t];omega)
theorem zEj{k j:Nat}(hj:k≤j)(h2:j<x.zA.length):((exx D x m T).zT.getD j []).drop (k+1)=(x.zT.getD j []).drop (k+1)++T.getD j []:=by have t1:=(h.tl j h2).1.1.1;have _:=hE;have _:=hT;have hP:(exx D x m T).zT.getD j []=exP x.zA.length D x T j:=xU (by omega);rw[hP,exP,if_pos h2,Kt (by omega)]
theorem zYb{k j:Nat}(hk:k<x.zA.length)(hj:x.zA.length≤j)(h2:j<x.zA.length+D):((exx D x m T).zT.getD j []).drop (k+1)=zeros (x.zA.length-(k+1))++zeros D:=by have _:=h;have _:=hE;have _:=hT;have hP:(exx D x m T).zT.getD j []=exP x.zA.length D x T j:=xU (by omega);rw[hP,exP,if_neg (by omega),H8];simp only[zeros,Jw];congr 1;omega
theorem zIh{i:Nat}(hi:i<x.zA.length+D):(exx D x m T).zE.getD i []=exC x.zA.length D x m T i:=by have _:=h;have _:=hE;have _:=hT;show(gl (x.zA.length+D) (exC x.zA.length D x m T)).getD i []=_;simp[gl,J2,hi]
theorem zFT{k i j:Nat}(hk:k≤i)(hi:i<j)(hj:j<x.zA.length):(((exx D x m T).zE.getD i []).getD (j-(i+1)) []).drop (k+1)=((x.zE.getD i []).getD (j-(i+1)) []).drop (k+1)++T.getD (base x.zA.length i+(j-(i+1))) []:=by obtain⟨_,t2,t3⟩:=h.tl i (by omega);have t:=(t3 (j-(i+1)) (by omega)).1.1;rw[zIh h hE hT (by omega),exC,if_pos (by omega),xU (by omega),exF,if_pos (by omega),Kt (by omega)]
theorem zYc{k i j:Nat}(hk:k<x.zA.length)(hi:i<x.zA.length)(hj:x.zA.length≤j)(h2:j<x.zA.length+D):(((exx D x m T).zE.getD i []).getD (j-(i+1)) []).drop (k+1)=zeros (x.zA.length-(k+1))++(m.zR.getD i []).getD (j-x.zA.length) []:=by rw[zIh h hE hT (by omega),exC,if_pos (by omega),xU (by omega),exF,if_neg (by omega),Kt (by simp;omega),H8,show j-(i+1)-(x.zA.length-1-i)=j-x.zA.length from by omega];rfl
theorem zYd{k i j:Nat}(hk:k<x.zA.length)(hi:x.zA.length≤i)(hj:i<j)(h2:j<x.zA.length+D):(((exx D x m T).zE.getD i []).getD (j-(i+1)) []).drop (k+1)=zeros (x.zA.length-(k+1))++xN D (j-x.zA.length):=by
 rw[zIh h hE hT (by omega),exC,if_neg (by omega),unC,xU (by omega),kS,zIb,←zMa (by omega),kT];rw[show x.zA.length+D-(k+1)=x.zA.length-(k+1)+D from by omega];refine zX fun q _=>?_
 by_cases g:q=x.zA.length-(k+1)+(j-x.zA.length)
 ·rw[if_pos g,if_pos (by omega)]
 ·rw[if_neg g,if_neg (by omega)]
theorem zVl(hr:zFK x m D){k:Nat}(hk:k<x.zA.length):pw (PM m.Prime D) (idM D) (m.zR.getD k []) (at0 x.zA k).toNat=aM m D (k+1) (lvl x k).w∧
  ∀i,k<i→i<x.zA.length→PM m.Prime D (m.zR.getD i []) (m.zR.getD k [])=PM m.Prime D (m.zR.getD k []) (aM m D (k+1) ((lvl x k).cs.getD (i-(k+1)) [])):=by
 have R:=zPk h hE.m hr (x.zA.length-k) k (by omega);rw[yG hk,zMb h hE hT hk]at R;obtain⟨r1,r2,_⟩:=R;refine⟨r1,fun i h1 h2=>?_⟩;have gG:=zAt h.w hk;have hl:=hE.m.len;refine r2 (i-(k+1)) _ _ ?_ ?_
 ·rw[Ko,show k+1+(i-(k+1))=i from by omega,J2,J3 (by omega)];rfl
 ·rw[J2,J3 (by omega)];rfl
theorem zv{k:Nat}(hk:k≤x.zA.length):V (suf x k) (zeros (x.zA.length-k)):=by
 have _:=hE;have _:=hT;have:=wP (h.okAt hk)
 rwa [yQ]at this
theorem zSB(hr:zFK x m D){k:Nat}(hk:k<x.zA.length)(hc:LCn x (exx D x m T) k):LC (exx D x m T) k:=by
 have hp:=hE.m.p.pos;have hl:=wJ h hE hT;have hA:=hE.m.mat k hk;obtain⟨r1,r2⟩:=zVl h hE hT hr hk;have hz:=zv h hE hT (k:=k+1) (by omega);have dx:Row m.Prime D (zeros D):=xQ (by omega);have hw:=(zXN h hk).2;refine⟨fun j h1 h2=>?_,fun i h1 h2 j h3 h4=>?_,hc.c3,fun j h1 h2=>?_⟩
 ·rw[hl]at h2
  rcases Jk j x.zA.length with g|g
  ·exact hc.c1 j h1 g
  ·have hq:=hA.2 (j-x.zA.length) (by omega)
   rw[zSA h hE hT hk g h2,zYb h hE hT hk g h2,zGI h hE hT hk dx,zAB,zBW h hE hT g h2,zBd h hE hT (by omega)];have e:=zNH h hE hT (d:=x.zA.length-(k+1)) (k:=k+1) (by omega) [(m.zR.getD k []).getD (j-x.zA.length) []] [m.Prime] _ _ (fun r hr=>by rw[List.mem_singleton.1 hr];exact hq) hz dx;have e2:iter m.Prime.toNat (fun w=>adv m.Prime D w ((m.zR.getD k []).getD (j-x.zA.length) [])) (zeros D)=zeros D:=zS7 (by omega);unfold pw;refine e.trans ?_;show zeros _++iter m.Prime.toNat (fun w=>adv m.Prime D w ((m.zR.getD k []).getD (j-x.zA.length) [])) (zeros D)=_;rw[e2]
 ·rw[hl]at h4
  rcases Jk j x.zA.length with g|g
  ·exact hc.c2 i h1 (by omega) j h3 g
  ·have hq:=hA.2 (j-x.zA.length) (by omega)
   rw[zSA h hE hT hk g h4];rcases Jk i x.zA.length with gi|gi
   ·have hAi:=hE.m.mat i gi
    have dI:=hAi.2 (j-x.zA.length) (by omega);have pi:=(kO h hk h1 gi).2.2;have ht:=zDG h hE hT (i:=k) (j:=i) (by omega) gi;rw[zIg h hE hT hk h1 gi,zYc h hE hT hk gi g h4,zGI h hE hT hk dI,zPp h hE hT _ (k+1) (by omega) _ _ _ hq pi ht,zEY h hE hT _ (k+1) (by omega) _ _ _ pi ht (wY (by omega)),tI]
    congr 2
    rw[←zBQ (by rw[hA.1];omega),←zBQ (by rw[hAi.1];omega),r2 i (by omega) gi]
   ·have dI:=hA.2 (i-x.zA.length) (by omega)
    rw[zSA h hE hT hk gi (by omega),zYd h hE hT hk gi (by omega) h4,zGI h hE hT hk (sB (by omega)),zQs (by omega) hA,zEY h hE hT _ (k+1) (by omega) _ _ _ hz hq dI,zEY h hE hT _ (k+1) (by omega) _ _ _ hz dI hq,tI]
 ·rw[hl]at h2 ⊢
  rcases Jk j x.zA.length with g|g
  ·have:=hc.c4 j h1 g
   rwa [hl]at this
  ·have ht:=zBZ h hE hT hk
   have hu:Row m.Prime D (xN D (j-x.zA.length)):=sB (by omega);rw[show x.zA.length+D-(k+1)=x.zA.length-(k+1)+D from by omega,show j-(k+1)=x.zA.length-(k+1)+(j-x.zA.length)from by omega,zMa (by omega),zB8 h hE hT hk,zIf h hE hT hk _ hu,zIc h hE hT hk,zFS hA (by omega) hu,r1,zPp h hE hT _ (k+1) (by omega) _ _ _ hu hw ht,zEY h hE hT _ (k+1) (by omega) _ _ _ hw ht (wY (by omega)),tI]
theorem zYe{k:Nat}(hk:x.zA.length≤k)(h2:k<x.zA.length+D):LC (exx D x m T) k:=by
 have hp:=hE.m.p.pos;have hl:=wJ h hE hT;have hs:=zAp h hE hT (x.zA.length+D-(k+1)) (k+1) (by omega) (by omega);have hL:=zAp h hE hT (x.zA.length+D-(k+1)+1) k (by omega) (by omega);rw[yG (by omega),hs,tlv]at hL;have p5:lvl (exx D x m T) k=⟨m.Prime,zeros (x.zA.length+D-(k+1)),wL (x.zA.length+D-(k+1))⟩:=(Qs.inj hL).1
 generalize hd:x.zA.length+D-(k+1)=d at*
 have ep:∀w,Row m.Prime d w→sig (tlv m.Prime d) ⟨m.Prime,zeros d,wL d⟩ w=w:=fun w hw=>zVk (by omega) hw
 have mT:Row m.Prime d (zeros d):=xQ (by omega);have u9:∀j,(wL d).getD j []=if j<d then xN d j else[]:=fun j=>by
  by_cases g:j<d
  ·rw[if_pos g,zHG g]
  ·rw[if_neg g,J2,K0 (by simp[wL];omega)];rfl
 refine⟨fun j h1 h3=>?_,fun i h1 h3 j h4 h5=>?_,?_,fun j h1 h3=>?_⟩
 ·rw[hl]at h3
  have hP:(exx D x m T).zT.getD j []=exP x.zA.length D x T j:=xU (by omega);rw[hs,p5,zBW h hE hT (by omega) h3,hP,exP,if_neg (by omega),H8,hd];show pw (mul (tlv m.Prime d)) (zeros (tlv m.Prime d).length) ((wL d).getD (j-(k+1)) []) m.Prime.toNat=sig (tlv m.Prime d) ⟨m.Prime,zeros d,wL d⟩ (zeros d);rw[ep _ mT,u9,if_pos (by omega),zGG];have e:=zDo (S:=Row m.Prime d) (m':=adv m.Prime d) (fun a b ha hb=>qS (by omega) d a b ha hb) (fun _ _ _ _=>sZ (by omega)) [xN d (j-(k+1))] [m.Prime] (zeros d) (fun c hc=>by rw[List.mem_singleton.1 hc];exact sB (by omega)) mT;exact e.trans (zS7 (by omega))
 ·rw[hl]at h3 h5
  rw[hs,p5,zIh h hE hT h3,exC,if_neg (by omega),unC,xU (by omega),kS,zIb,hd];have e:(mkv d fun q=>if k+1+q=i+1+(j-(i+1))then(1:Int)else 0)=xN d (j-(k+1)):=by
   rw[kT];refine zX fun q _=>?_
   by_cases g:q=j-(k+1)
   ·rw[if_pos g,if_pos (by omega)]
   ·rw[if_neg g,if_neg (by omega)]
  rw[e,ep _ (sB (by omega))];show mul (tlv m.Prime d) ((wL d).getD (j-(k+1)) []) ((wL d).getD (i-(k+1)) [])=mul (tlv m.Prime d) ((wL d).getD (i-(k+1)) []) (xN d (j-(k+1)));rw[u9,u9,if_pos (by omega),if_pos (by omega),qS (by omega) d _ _ (sB (by omega)) (sB (by omega)),qS (by omega) d _ _ (sB (by omega)) (sB (by omega)),tI]
 ·rw[hs,p5,ep _ mT]
 ·rw[hl]at h3 ⊢
  have hu:Row m.Prime d (xN d (j-(k+1))):=sB (by omega);rw[hs,p5,hd,zHY (ep _ hu),qS (by omega) d _ _ mT hu,qS (by omega) d _ _ hu mT,tI]
theorem zIi:∀(d k:Nat),x.zA.length≤k→k+d=x.zA.length+D→wR (suf (exx D x m T) k)
 |0,k,hk,hd=>by rw[vV (by rw[wJ h hE hT];omega)];simp only[wR]
 |d+1,k,hk,hd=>(zA6 (zGF h hE hT) (by rw[wJ h hE hT];omega)).2 ⟨zIi d (k+1) (by omega) (by omega),zYe h hE hT hk (by omega)⟩
theorem zPq(hr:zFK x m D):wR (suf (exx D x m T) 0)↔ ∀k,k<x.zA.length→LCn x (exx D x m T) k:=by
 have hl:=wJ h hE hT;have key:∀(d k:Nat),k+d=x.zA.length→(wR (suf (exx D x m T) k)↔ ∀i,k≤i→i<x.zA.length→LCn x (exx D x m T) i):=by
  intro d
  induction d with
  |zero=>intro k hk;exact⟨fun _ i h1 h2=>by omega,fun _=>zIi h hE hT D k (by omega) (by omega)⟩
  |succ d ih=>
   intro k hk;rw[zA6 (zGF h hE hT) (by omega),ih (k+1) (by omega)];constructor
   ·rintro⟨g1,g2⟩ i h1 h2
    rcases Jk k i with g|g
    ·exact g1 i (by omega) h2
    ·obtain rfl:i=k:=by omega
     exact⟨fun j a b=>g2.c1 j a (by omega),fun i a b j c d=>g2.c2 i a (by omega) j c (by omega),g2.c3,fun j a b=>g2.c4 j a (by omega)⟩
   ·exact fun g=>⟨fun i h1 h2=>g i (by omega) h2,zSB h hE hT hr (by omega) (g k (by omega) (by omega))⟩
 have:=key x.zA.length 0 (by omega);rw[this];exact⟨fun g k hk=>g k (by omega) hk,fun g k _ hk=>g k hk⟩
end
end Go.Pl

namespace Go.Pl
open Go Go.Ab Go.Wk Go.Pc
def prE(x:SPr)(k:Nat)(w:Vec):zJ:=⟨fv k (w.take (x.zA.length-k)),w.drop (x.zA.length-k)⟩
theorem qA{x:SPr}{k:Nat}{y u:Vec}(hy:y.length=x.zA.length-k):prE x k (y++u)=⟨fv k y,u⟩:=by rw[prE,Jn hy,K5 hy]
theorem zCa{α α' β:Type}{body:α×α'×Int→Option ((α×α'×Int)⊕(α×α'))}{S:β→Prop}(e1:β→α)(e2:β→α')(g:β→β)(n:Int)(hn:0≤n)(hS:∀a,S a→S (g a))
  (h:∀a(i:Nat),S a→(i:Int)<n→body (e1 a,e2 a,(i:Int))=ja (.inl (e1 (g a),e2 (g a),((i+1:Nat):Int))))(he:∀a,S a→body (e1 a,e2 a,n)=ja (.inr (e1 a,e2 a))){a:β}(ha:S a):
  zH body (e1 a,e2 a,0)=ja (e1 (iter n.toNat g a),e2 (iter n.toNat g a)):=by
 have e6:∀k,S (iter k g a):=fun k=>vO (S:=S) hS k ha
 exact zW (body:=body) (r:=(e1 (iter n.toNat g a),e2 (iter n.toNat g a))) (fun i=>(e1 (iter i g a),e2 (iter i g a),(i:Int))) n.toNat (fun i hi=>by
  rw[h _ i (e6 i) (by omega),wX]) (by
  rw[show((n.toNat:Nat):Int)=n from by omega];exact he _ (e6 _))
structure Mv (D n:Nat) (m0 m:zG):Prop where
 pr:m0.Prime=m.Prime
 mv:∀k,k<n→ ∀u,Row m.Prime D u→zVN m0 u (k:Int)=ja (wG m.Prime D u (m.zR.getD k []))
section
variable {D:Nat}{x:SPr}{m0 m:zG}{T:Mx} (h:Pres x) (hE:ExB x.zA.length D x m T) (hT:∀i,i<T.length→Row m.Prime D (T.getD i []))
def zSC(D:Nat)(x:SPr)(m0 m:zG)(T:Mx)(k:Nat)(g:zZ→Int→zJ→zJ→Option zJ):Prop:=
 ∀a b,V (suf (exx D x m T) k) a→V (suf (exx D x m T) k) b→g ⟨x,m0,T⟩ k (prE x k a) (prE x k b)=ja (prE x k (mul (suf (exx D x m T) k) a b))
def zSD(D:Nat)(x:SPr)(m0 m:zG)(T:Mx)(k:Nat)(g:zZ→Int→zJ→Option zJ):Prop:=
 ∀v,V (suf (exx D x m T) (k+1)) v→g ⟨x,m0,T⟩ k (prE x (k+1) v)=ja (prE x (k+1) (sig (suf (exx D x m T) (k+1)) (lvl (exx D x m T) k) v))
 include h hE hT
theorem zPr{k i j:Nat}(hk:k≤i)(hi:i<j)(hj:j<x.zA.length):f_T ⟨x,m0,T⟩ (i:Int) (j:Int)=ja (prE x (k+1) ((((exx D x m T).zE.getD i []).getD (j-(i+1)) []).drop (k+1)))∧V (suf (exx D x m T) (k+1)) ((((exx D x m T).zE.getD i []).getD (j-(i+1)) []).drop (k+1)):=by
 have hn:=hE.hn;have hb:=zBU x.zA.length (by omega) i (by omega);have ht:=hE.t;obtain⟨_,t2,t3⟩:=h.tl i (by omega);have tt:=t3 (j-(i+1)) (by omega);obtain⟨e1,e2⟩:=zCH (k:=k+1) tt (by omega) (by omega);have hl:=wZ h (by omega) e2;have gG:=h.cl;have hr:=zDG h hE hT hi hj;refine⟨?_,?_⟩
 ·rw[zFT h hE hT hk hi hj,qA hl,←e1]
  unfold f_T;dsimp only
  rw[yX [] (by omega),bs,zC (by omega) (by omega),bs,zC (by omega) (by omega),bs,show(j:Int)-(i:Int)-1=((j-(i+1):Nat):Int)from by omega,yX [] (by omega),bs,zNB x.zA.length (by omega) j hj i hi,bs,yX [] (by omega),bs,show j-i-1=j-(i+1)from by omega]
 ·rw[zFT h hE hT hk hi hj]
  exact(sK h hE hT (x.zA.length-(k+1)) (k+1) (by omega) _).2 ⟨_,_,rfl,e2,hr⟩
theorem zEZ{k j:Nat}(hk:k<j)(hj:j<x.zA.length):f_T ⟨x,m0,T⟩ (k:Int) (j:Int)=ja (prE x (k+1) ((lvl (exx D x m T) k).cs.getD (j-(k+1)) []))∧V (suf (exx D x m T) (k+1)) ((lvl (exx D x m T) k).cs.getD (j-(k+1)) []):=by
 have e:(lvl (exx D x m T) k).cs.getD (j-(k+1)) []=(((exx D x m T).zE.getD k []).getD (j-(k+1)) []).drop (k+1):=by
  have hC:((exx D x m T).zE.getD k []).length=x.zA.length+D-1-k:=by rw[zIh h hE hT (by omega),exC,if_pos (by omega),wC]
  simp only[lvl];rw[J2,K1,J3 (by omega),J2 (l:=(exx D x m T).zE.getD k []),J3 (by omega)];rfl
 rw[e];exact zPr h hE hT (Jo k) hk hj
theorem zKm{k j:Nat}(hk:k≤j)(hj:j<x.zA.length):zOe ⟨x,m0,T⟩ (j:Int)=ja (prE x (k+1) (((exx D x m T).zT.getD j []).drop (k+1)))∧V (suf (exx D x m T) (k+1)) (((exx D x m T).zT.getD j []).drop (k+1)):=by
 have hn:=hE.hn;have hb:=vK x.zA.length (by omega);have ht:=hE.t;have pI:=h.pl;have t1:=(h.tl j hj).1;obtain⟨e1,e2⟩:=zCH (k:=k+1) t1 (by omega) (by omega);have hl:=wZ h (by omega) e2;have hr:=zBZ h hE hT hj;refine⟨?_,?_⟩
 ·rw[zEj h hE hT hk hj,qA hl,←e1]
  unfold zOe;dsimp only
  rw[yX [] (by omega),bs,yX [] (by omega),bs]
 ·rw[zEj h hE hT hk hj]
  exact(sK h hE hT (x.zA.length-(k+1)) (k+1) (by omega) _).2 ⟨_,_,rfl,e2,hr⟩
theorem zKn{k:Nat}(hk:k≤x.zA.length)(h0:0<x.zA.length):zMF ⟨x,m0,T⟩=ja (prE x k (zeros (suf (exx D x m T) k).length)):=by
 have hn:=hE.hn;have h3:=hE.m.d3;have hb:=vK x.zA.length (by omega);have ht:=hE.t;have hr:=zBZ h hE hT h0;have cd:=hr.1;unfold zMF;dsimp only
 have e0:ixO T 0=ja (T.getD 0 []):=yX (i:=0) [] (by omega);rw[jf (by omega),zN,e0,bs,xM (by omega),bs,xM (by omega),bs,zBd h hE hT hk,qA (yC _),cd,fv]
 congr 2
 simp only[zeros,Jw];congr 1;omega
theorem zSE{u v:Vec}(hu:Row m.Prime D u)(hv:Row m.Prime D v):f_x m.Prime u 1 v=ja (adv m.Prime D u v):=by
 have _:=h;have _:=hT;have h3:=hE.m.d3;rw[tO hE.m.p hu hv (by omega) (by omega)]
 congr 1
 exact zX fun j _=>by rw[Jaa]
theorem prV{k:Nat}(hk:k≤x.zA.length){w:Vec}(hw:V (suf (exx D x m T) k) w):∃y u,w=y++u∧V (suf x k) y∧Row m.Prime D u∧prE x k w=⟨fv k y,u⟩∧y.length=x.zA.length-k:=by obtain⟨y,u,rfl,hy,hu⟩:=(sK h hE hT (x.zA.length-k) k (by omega) _).1 hw;have ej:=wZ h hk hy;exact⟨y,u,rfl,hy,hu,qA ej,ej⟩
variable (hM:Mv D x.zA.length m0 m)
 include hM
theorem zMd{k:Nat}(hk:k<x.zA.length){g:zZ→Int→zJ→zJ→Option zJ}(hg:zSC D x m0 m T (k+1) g):zSD D x m0 m T k (b_h g):=by
 intro v hv;have hn:=hE.hn;have hp:=hE.m.p.pos;have ok:=uG h hE hT (k:=k+1) (by omega);have hA:=hE.m.mat k hk;obtain⟨y,u,rfl,hy,hu,cv,ej⟩:=prV h hE hT (k:=k+1) (by omega) hv;obtain⟨_,hyr⟩:=zEe h.os (x.zA.length-(k+1)) (k+1) y (by omega) hy;have gG:=uV h hE hT (k:=k);have gN:=zPo h hE hT hk;have hcg:∀i,i<x.zA.length-(k+1)→(eC1 x T k).getD i []=(lvl (exx D x m T) k).cs.getD i []:=fun i hi=>by rw[zBX h hE hT hk,J2,J2,Jm (by omega)]
 obtain⟨A,dy⟩:∃A:Nat→Vec,∀i,A i=img (mul (suf (exx D x m T) (k+1))) ((eC1 x T k).take i) (y.take i) (zeros (suf (exx D x m T) (k+1)).length):=⟨_,fun _=>rfl⟩;have hI:∀i,V (suf (exx D x m T) (k+1)) (A i):=fun i=>by rw[dy];exact jD (xH ok) _ _ (fun c hc=>gN c (U5 hc)) (wP ok)
 have hA0:A 0=zeros (suf (exx D x m T) (k+1)).length:=by rw[dy];simp only[K7,img]
 have hAn:A (x.zA.length-(k+1))=sgG D x m T k y:=by rw[dy,Jr (by omega),Jr (by omega)];rfl
 rw[cv];unfold b_h;dsimp only
 rw[zKn h hE hT (k:=k+1) (by omega) (by omega),bs,zC (by omega) (by omega),bs,cs];have:=zW (body:=zUj g ⟨x,m0,T⟩ k ⟨fv (k+1) y,u⟩) (r:=((prE x (k+1) (sgG D x m T k y)).x,(prE x (k+1) (sgG D x m T k y)).v))
  (fun i=>((prE x (k+1) (A i)).x,(prE x (k+1) (A i)).v,((k+1+i:Nat):Int))) (x.zA.length-(k+1)) (fun i hi=>by
  have hr:=hyr i hi;obtain⟨c1,c2⟩:=zEZ h hE hT (k:=k) (j:=k+1+i) (by omega) (by omega);rw[show k+1+i-(k+1)=i from by omega]at c1 c2;unfold zUj;dsimp only
  rw[jf (by rw[zCF h (by omega) hy];omega),zN];rw[zCa (S:=V (suf (exx D x m T) (k+1))) (fun w=>(prE x (k+1) w).x) (fun w=>(prE x (k+1) w).v) (fun w=>mul (suf (exx D x m T) (k+1)) w ((lvl (exx D x m T) k).cs.getD i [])) (at0 y i) hr.1 (fun w hw=>xH ok hw c2) (fun w q hw hq=>by
   unfold zVO;dsimp only
   rw[fv,zL6 (by omega),bs,jf hq,zN,zC (by omega) (by omega),bs,c1,bs,cs,show(zJ.mk (prE x (k+1) w).x (prE x (k+1) w).v)=prE x (k+1) w from rfl,hg w _ hw c2,bs,zC (by omega) (by omega),bs,cs]) (fun w hw=>by
   unfold zVO;dsimp only
   rw[fv,zL6 (by omega),bs,je (by omega),zI]) (hI i),bs,zC (by omega) (by omega),bs,cs]
  rw[dy (i+1),zBz _ _ _ _ (by omega) (by omega),hcg i hi,←dy];rfl) (by
  unfold zUj;dsimp only
  rw[je (by rw[zCF h (by omega) hy];omega),zI,hAn])
 rw[hA0,Hy]at this;rw[this,bs,hM.mv k hk _ hu,bs];obtain⟨y1,u1,e,fy,fO,ii,mW⟩:=prV h hE hT (k:=k+1) (by omega) (zIe h hE hT hk (y:=y));rw[zBY h hE hT hk hy hu,ii,e,Jn mW,K5 mW,qA mW];dsimp only
 rw[hM.pr,zSE h hE hT fO (wY (by omega)),bs]
theorem zSF{k:Nat}(hk:k<x.zA.length){g:zZ→Int→zJ→zJ→Option zJ}{gi:zZ→Int→zJ→Option zJ}(hg:zSC D x m0 m T (k+1) g)(hi:zSD D x m0 m T k gi):zSC D x m0 m T k (b_d gi g):=by
 have _:=hM;intro a b ha hb;have hn:=hE.hn;have hl:=wJ h hE hT;have hp:=(h.os.2 k hk).pos;have ok:=uG h hE hT (k:=k+1) (by omega);have ok0:=uG h hE hT (k:=k) (by omega);obtain⟨al,au,rfl,mf,hau,fT,pY⟩:=prV h hE hT (k:=k) (by omega) ha;obtain⟨bl,bu,rfl,fL,hbu,tp,hbll⟩:=prV h hE hT (k:=k) (by omega) hb;rw[fT,tp];rw[yG (x:=x) hk]at mf fL;rw[yG (x:=exx D x m T) (by omega)]at ok0 ⊢
 obtain⟨a0,a,rfl⟩:∃a0 a',al=a0::a':=by cases al with|nil=>exact mf.elim|cons p q=>exact⟨p,q,rfl⟩
 obtain⟨b0,b,rfl⟩:∃a0 a',bl=a0::a':=by cases bl with|nil=>exact fL.elim|cons p q=>exact⟨p,q,rfl⟩
 obtain⟨⟨a1,a2⟩,mf⟩:=mf;obtain⟨⟨b1,b2⟩,fL⟩:=fL;change a0<at0 x.zA k at a2;change b0<at0 x.zA k at b2;have iZ:=wZ h (by omega) mf;have iV:=wZ h (by omega) fL;have hA:=(sK h hE hT (x.zA.length-(k+1)) (k+1) (by omega) (a++au)).2 ⟨_,_,rfl,mf,hau⟩;have hB:=(sK h hE hT (x.zA.length-(k+1)) (k+1) (by omega) (b++bu)).2 ⟨_,_,rfl,fL,hbu⟩;have own:∀u,V (suf x (k+1)) u→f_z (fv (k+1) u)=ja (fv (k+1) u):=fun u hu=>qO (by rw[zCF h (by omega) hu];omega)
 have own':∀(c:Int) u,V (suf x (k+1)) u→f_z (fv k (c::u))=ja (fv k (c::u)):=fun c u hu=>qO (by have:=wZ h (by omega) hu;rw[fv,J5,yC,J6];omega)
 have ep:∀u,V (suf (exx D x m T) (k+1)) u→V (suf (exx D x m T) (k+1)) (sig (suf (exx D x m T) (k+1)) (lvl (exx D x m T) k) u):=fun u hu=>zC9 ok0 hu
 have e6:V (suf (exx D x m T) (k+1)) (iter b0.toNat (sig (suf (exx D x m T) (k+1)) (lvl (exx D x m T) k)) (a++au)):=vO ep _ hA;have ea:(⟨fv (k+1) a,au⟩:zJ)=prE x (k+1) (a++au):=(qA iZ).symm;have eb:(⟨fv (k+1) b,bu⟩:zJ)=prE x (k+1) (b++bu):=(qA iV).symm;unfold b_d;dsimp only
 rw[je (by omega),zI,own' _ _ mf,bs,own' _ _ fL,bs,zCD,bs,zCD,bs,Je,zDC,zDC,zBP,zBP];have e1:zH (zQI gi ⟨x,m0,T⟩ k ⟨fv k (b0::b),bu⟩) (zeros (k+1)++a,au,0)=ja ((prE x (k+1) (iter b0.toNat (sig (suf (exx D x m T) (k+1)) (lvl (exx D x m T) k)) (a++au))).x,(prE x (k+1) (iter b0.toNat (sig (suf (exx D x m T) (k+1)) (lvl (exx D x m T) k)) (a++au))).v):=by
  have:=zCa (body:=zQI gi ⟨x,m0,T⟩ k ⟨fv k (b0::b),bu⟩) (S:=V (suf (exx D x m T) (k+1))) (fun w=>(prE x (k+1) w).x) (fun w=>(prE x (k+1) w).v) (sig (suf (exx D x m T) (k+1)) (lvl (exx D x m T) k)) b0 b1 ep (fun w q hw hq=>by
   unfold zQI;dsimp only
   rw[zCD,bs,jf hq,zN,show(zJ.mk (prE x (k+1) w).x (prE x (k+1) w).v)=prE x (k+1) w from rfl,hi w hw,bs,zC (by omega) (by omega),bs,cs]) (fun w hw=>by
   unfold zQI;dsimp only
   rw[zCD,bs,je (by omega),zI]) hA
  rw[←ea]at this;exact this
 rw[e1,bs,zC (by omega) (by omega),bs,cs];dsimp only
 rw[show zeros (k+1)++b=fv (k+1) b from rfl,eb,show(zJ.mk (prE x (k+1) (iter b0.toNat (sig (suf (exx D x m T) (k+1)) (lvl (exx D x m T) k)) (a++au))).x (prE x (k+1) (iter b0.toNat (sig (suf (exx D x m T) (k+1)) (lvl (exx D x m T) k)) (a++au))).v)=prE x (k+1) (iter b0.toNat (sig (suf (exx D x m T) (k+1)) (lvl (exx D x m T) k)) (a++au))from rfl,hg _ _ e6 hB,bs,bs,bs,zC (by omega) (by omega),bs,yP hk,bs];have hm:=xH ok e6 hB;show _=ja (prE x k (mul _ (a0::(a++au)) (b0::(b++bu))));rw[yZ,zB8 h hE hT hk]
 generalize mul (suf (exx D x m T) (k+1)) (iter b0.toNat (sig (suf (exx D x m T) (k+1)) (lvl (exx D x m T) k)) (a++au)) (b++bu)=r at hm ⊢
 have fin:∀(c:Int) w,V (suf (exx D x m T) (k+1)) w→((f_z (prE x (k+1) w).x).bind fun r22=>(ixO r22 (k:Int)).bind fun _=>ja (zJ.mk (r22.set k c) (prE x (k+1) w).v))=ja (prE x k (c::w)):=fun c w hw=>by
  obtain⟨w1,w2,rfl,h1,h2,h3,h4⟩:=prV h hE hT (k:=k+1) (by omega) hw;have e3:prE x k (c::(w1++w2))=⟨fv k (c::w1),w2⟩:=qA (y:=c::w1) (by rw[J6];omega);rw[h3,e3];dsimp only
  rw[own _ h1,bs,fv,←zBP,zCD,bs,zDC]
 by_cases hge:a0+b0≥at0 x.zA k
 ·obtain⟨p1,p2⟩:=zKm h hE hT (k:=k) (j:=k) (Jo k) hk
  change V (suf (exx D x m T) (k+1)) (lvl (exx D x m T) k).w at p2;rw[jf hge,zN,if_pos hge,bs,zC (by omega) (by omega),bs,bs,p1,bs];have e4:=hg _ _ p2 hm;rw[show(((exx D x m T).zT.getD k []).drop (k+1))=(lvl (exx D x m T) k).w from rfl,e4,bs];exact fin _ _ (xH ok p2 hm)
 ·rw[je hge,zI,if_neg hge]
  exact fin _ _ hm
theorem zEk:∀(d k:Nat),k+d=x.zA.length→(∀q,2*d+1≤q→zSC D x m0 m T k (zOg q))∧(1≤d→ ∀q,2*d≤q→zSD D x m0 m T k (zOf q))
 |0,k,hk=>by
  refine⟨fun q hq a b ha hb=>?_,fun h=>by omega⟩;have hn:=hE.hn;have hp:=hE.m.p.pos;obtain⟨q,rfl⟩:∃m',q=m'+1:=⟨q-1,by omega⟩;rw[zAp h hE hT D k (by omega) (by omega)]at ha hb ⊢
  have my:=(zDF _ _).1 ha;have eI:=(zDF _ _).1 hb;show b_d _ _ ⟨x,m0,T⟩ k _ _=_;unfold b_d;have e:∀w:Vec,prE x k w=⟨zeros k,w⟩:=fun w=>by rw[prE,show x.zA.length-k=0 from by omega,K7,Gb,fv,J9]
  rw[e,e,e];dsimp only
  rw[jf (by omega),zN,xM (by omega),bs,hM.pr,zSE h hE hT my eI,bs,qS (by omega) D _ _ my eI,show x.zA.length=k from by omega];rfl
 |d+1,k,hk=>by
  obtain⟨h1,h2⟩:=zEk d (k+1) (by omega);have hI:∀q,2*(d+1)≤q→zSD D x m0 m T k (zOf q):=fun q hq=>by obtain⟨q,rfl⟩:∃m',q=m'+1:=⟨q-1,by omega⟩;exact zMd h hE hT hM (by omega) (h1 q (by omega))
  refine⟨fun q hq=>?_,fun _=>hI⟩;obtain⟨q,rfl⟩:∃m',q=m'+1:=⟨q-1,by omega⟩;exact zSF h hE hT hM (by omega) (h1 q (by omega)) (hI q (by omega))
theorem zIj{k:Nat}(hk:k≤x.zA.length):zSC D x m0 m T k f_d:=fun a b ha hb=>
 zBv (2*(x.zA.length-k)+1) fun q hq=>(zEk h hE hT hM (x.zA.length-k) k (by omega)).1 q hq a b ha hb
theorem zAR{k:Nat}(hk:k<x.zA.length):zSD D x m0 m T k f_h:=fun v hv=>
 zBv (2*(x.zA.length-k)) fun q hq=>(zEk h hE hT hM (x.zA.length-k) k (by omega)).2 (by omega) q hq v hv
end
end Go.Pl

namespace Go.Pl
open Go Go.Ab Go.Wk Go.Pc
structure GR (p:Int) (D:Nat) (Z:Vec→Prop) (L:Mx) (N:Nat) (C:Prop):Prop where
 len:L.length≤N
 row:∀r∈L,Row p D r
 iff:(∀r∈L,Z r)↔C
theorem GR.nil{p:Int}{D N:Nat}{Z:Vec→Prop}:GR p D Z [] N True:=⟨by simp,by simp,by simp⟩
theorem GR.app{p:Int}{D N M:Nat}{Z:Vec→Prop}{L L':Mx}{C C':Prop}(h:GR p D Z L N C)(h':GR p D Z L' M C'):GR p D Z (L++L') (N+M) (C∧C'):=by
 refine⟨by have:=h.len;have:=h'.len;rw[J5];omega,fun r hr=>?_,?_⟩
 ·rcases Jj.1 hr with g|g
  ·exact h.row r g
  ·exact h'.row r g
 ·rw[←h.iff,←h'.iff]
  exact⟨fun g=>⟨fun r hr=>g r (Gv _ hr),fun r hr=>g r (Lx _ hr)⟩,fun g r hr=>(Jj.1 hr).elim (g.1 r) (g.2 r)⟩
theorem GR.one{p:Int}{D:Nat}{Z:Vec→Prop}{r:List Int}{C:Prop}(hr:Row p D r)(h:Z r↔C):GR p D Z [r] 1 C:=
 ⟨by simp,fun q hq=>by rw[List.mem_singleton.1 hq];exact hr,by rw[←h];exact⟨fun g=>g r (by simp),fun g q hq=>by rw[List.mem_singleton.1 hq];exact g⟩⟩
theorem GR.to{p:Int}{D N M:Nat}{Z:Vec→Prop}{L:Mx}{C C':Prop}(h:GR p D Z L N C)(hN:N≤M)(hc:C↔C'):GR p D Z L M C':=⟨by have:=h.len;omega,h.row,h.iff.trans hc⟩
def c1E(e:SPr)(k j:Nat):Prop:=pw (mul (suf e (k+1))) (zeros (suf e (k+1)).length) ((lvl e k).cs.getD (j-(k+1)) []) (at0 e.zA j).toNat=sig (suf e (k+1)) (lvl e k) ((e.zT.getD j []).drop (k+1))
def c2E(e:SPr)(k i j:Nat):Prop:=mul (suf e (k+1)) ((lvl e k).cs.getD (j-(k+1)) []) ((lvl e k).cs.getD (i-(k+1)) [])=mul (suf e (k+1)) ((lvl e k).cs.getD (i-(k+1)) []) (sig (suf e (k+1)) (lvl e k) (((e.zE.getD i []).getD (j-(i+1)) []).drop (k+1)))
def c4E(e:SPr)(k j:Nat):Prop:=mul (suf e (k+1)) (lvl e k).w (iter (lvl e k).o.toNat (sig (suf e (k+1)) (lvl e k)) (xN (e.zA.length-(k+1)) (j-(k+1))))=mul (suf e (k+1)) (xN (e.zA.length-(k+1)) (j-(k+1))) (lvl e k).w
def c1Q(Q:Nat→Vec→Vec→Prop)(e:SPr)(k j:Nat):Prop:=Q (k+1) (pw (mul (suf e (k+1))) (zeros (suf e (k+1)).length) ((lvl e k).cs.getD (j-(k+1)) []) (at0 e.zA j).toNat) (sig (suf e (k+1)) (lvl e k) ((e.zT.getD j []).drop (k+1)))
def c2Q(Q:Nat→Vec→Vec→Prop)(e:SPr)(k i j:Nat):Prop:=Q (k+1) (mul (suf e (k+1)) ((lvl e k).cs.getD (j-(k+1)) []) ((lvl e k).cs.getD (i-(k+1)) [])) (mul (suf e (k+1)) ((lvl e k).cs.getD (i-(k+1)) []) (sig (suf e (k+1)) (lvl e k) (((e.zE.getD i []).getD (j-(i+1)) []).drop (k+1))))
def c4Q(Q:Nat→Vec→Vec→Prop)(e:SPr)(k j:Nat):Prop:=Q (k+1) (mul (suf e (k+1)) (lvl e k).w (iter (lvl e k).o.toNat (sig (suf e (k+1)) (lvl e k)) (xN (e.zA.length-(k+1)) (j-(k+1))))) (mul (suf e (k+1)) (xN (e.zA.length-(k+1)) (j-(k+1))) (lvl e k).w)
structure LCQ (Q:Nat→Vec→Vec→Prop) (x e:SPr) (k:Nat):Prop where
 c1:∀j,k+1≤j→j<x.zA.length→c1Q Q e k j
 c2:∀i,k+1≤i→i<x.zA.length→ ∀j,i+1≤j→j<x.zA.length→c2Q Q e k i j
 c3:Q (k+1) (sig (suf e (k+1)) (lvl e k) (lvl e k).w) (lvl e k).w
 c4:∀j,k+1≤j→j<x.zA.length→c4Q Q e k j
section
variable {D:Nat}{x:SPr}{m0 m:zG}{T:Mx} (h:Pres x) (hE:ExB x.zA.length D x m T) (hT:∀i,i<T.length→Row m.Prime D (T.getD i []))
 include h hE hT
theorem zCb{k:Nat}(hk:k≤x.zA.length){a b:Vec}(ha:V (suf (exx D x m T) k) a)(hb:V (suf (exx D x m T) k) b):(mul (suf (exx D x m T) k) a b).take (x.zA.length-k)=mul (suf x k) (a.take (x.zA.length-k)) (b.take (x.zA.length-k)):=zKl h hE hT _ k (by omega) a b ha hb
theorem zEl{k:Nat}(hk:k<x.zA.length){v:Vec}(hv:V (suf (exx D x m T) (k+1)) v):(sig (suf (exx D x m T) (k+1)) (lvl (exx D x m T) k) v).take (x.zA.length-(k+1))=sig (suf x (k+1)) (lvl x k) (v.take (x.zA.length-(k+1))):=
 zMc h hE hT hk (zKl h hE hT _ (k+1) (by omega)) hv
theorem zFU{k:Nat}(hk:k<x.zA.length){v:Vec}(hv:V (suf (exx D x m T) (k+1)) v):V (suf (exx D x m T) (k+1)) (sig (suf (exx D x m T) (k+1)) (lvl (exx D x m T) k) v):=by have gE:=uG h hE hT (k:=k) (by omega);rw[yG (x:=exx D x m T) (by rw[wJ h hE hT];omega)]at gE;exact zC9 gE hv
theorem zKo{k:Nat}(hk:k<x.zA.length):∀(q:Nat){v:Vec},V (suf (exx D x m T) (k+1)) v→(iter q (sig (suf (exx D x m T) (k+1)) (lvl (exx D x m T) k)) v).take (x.zA.length-(k+1))=iter q (sig (suf x (k+1)) (lvl x k)) (v.take (x.zA.length-(k+1)))
 |0,_,_=>rfl
 |q+1,v,hv=>by have:=zKo hk q (zFU h hE hT hk hv);rw[zEl h hE hT hk hv]at this;exact this
theorem zVm{k:Nat}(hk:k≤x.zA.length):(zeros (suf (exx D x m T) k).length).take (x.zA.length-k)=zeros (suf x k).length:=by rw[zBd h hE hT hk,Jn (yC _),yQ]
theorem zW9{k:Nat}(hk:k≤x.zA.length){c:Vec}(hc:V (suf (exx D x m T) k) c)(q:Nat):(pw (mul (suf (exx D x m T) k)) (zeros (suf (exx D x m T) k).length) c q).take (x.zA.length-k)=pw (mul (suf x k)) (zeros (suf x k).length) (c.take (x.zA.length-k)) q:=by have ok:=uG h hE hT (k:=k) (by omega);have:=zEW (S:=V (suf (exx D x m T) k)) (n:=mul (suf x k)) (·.take (x.zA.length-k)) (fun a b=>xH ok) (fun a b=>zCb h hE hT hk) [c] [(q:Int)] (zeros (suf (exx D x m T) k).length) (fun a ha=>by rw[List.mem_singleton.1 ha];exact hc) (wP ok);simp only[Jv,Ly,img,Je]at this;rw[zVm h hE hT hk]at this;exact this
section
variable {k:Nat} (hk:k<x.zA.length)
 include hk
theorem zJr{j:Nat}(h1:k+1≤j)(h2:j<x.zA.length):((lvl (exx D x m T) k).cs.getD (j-(k+1)) []).take (x.zA.length-(k+1))=(lvl x k).cs.getD (j-(k+1)) []:=by rw[zIg h hE hT hk h1 h2,Jn (wZ h (by omega) (kO h hk h1 h2).2.2)]
theorem zIk{j:Nat}(h1:k≤j)(h2:j<x.zA.length):(((exx D x m T).zT.getD j []).drop (k+1)).take (x.zA.length-(k+1))=(x.zT.getD j []).drop (k+1):=by have t1:=(h.tl j h2).1.1.1;rw[zEj h hE hT h1 h2,Jn (by rw[Jz];omega)]
theorem zSG{i j:Nat}(h1:k+1≤i)(h2:i<j)(h3:j<x.zA.length):((((exx D x m T).zE.getD i []).getD (j-(i+1)) []).drop (k+1)).take (x.zA.length-(k+1))=((x.zE.getD i []).getD (j-(i+1)) []).drop (k+1):=by rw[zFT h hE hT (by omega) h2 h3,Jn (wZ h (by omega) (zSn h hk h1 h2 h3).2.2)]
theorem zSH{j:Nat}(h1:k+1≤j)(h2:j<x.zA.length):xN ((exx D x m T).zA.length-(k+1)) (j-(k+1))=xN (x.zA.length-(k+1)) (j-(k+1))++zeros D:=by rw[wJ h hE hT,zAn (by omega),zAn (by omega),Ja,Jp];simp only[zeros,Jw];rw[show x.zA.length+D-(k+1)-(j-(k+1)+1)=x.zA.length-(k+1)-(j-(k+1)+1)+D from by omega]
end
variable (hM:Mv D x.zA.length m0 m) {Z:Vec→Prop}{Q:Nat→Vec→Vec→Prop} (hZ:∀k,k≤x.zA.length→ ∀a b,V (suf (exx D x m T) k) a→V (suf (exx D x m T) k) b→a.take (x.zA.length-k)=b.take (x.zA.length-k)→(Z (tG m.Prime D (a.drop (x.zA.length-k)) (-1) (b.drop (x.zA.length-k)))↔Q k a b))
 include hM hZ
theorem zKp{k:Nat}(hk:k≤x.zA.length){a b:Vec}(ha:V (suf (exx D x m T) k) a)(hb:V (suf (exx D x m T) k) b)(e:a.take (x.zA.length-k)=b.take (x.zA.length-k)):∃r,zMH ⟨x,m0,T⟩ (prE x k a) (prE x k b)=ja r∧Row m.Prime D r∧(Z r↔Q k a b):=by
 have h7:=hE.m.p.pos;have h3:=hE.m.d3;obtain⟨y,u,rfl,hy,hu,cv,ej⟩:=prV h hE hT hk ha;obtain⟨z,v,rfl,hz,hv,ig,m7⟩:=prV h hE hT hk hb;have mz:=hZ k hk _ _ ha hb e;rw[K5 ej,K5 m7]at mz;unfold zMH;rw[cv,ig];dsimp only
 rw[hM.pr,zC (by omega) (by omega),bs,tO hE.m.p hu hv (by omega) (by omega),bs,zEg];exact⟨_,rfl,zA8 hE.m.p,mz⟩
section
variable {k:Nat} (hk:k<x.zA.length) (hc:LC x k)
 include hk
 include hc
theorem yBd{j:Nat}(h1:k+1≤j)(h2:j<x.zA.length){L0 L:Mx}{N:Nat}{C:Prop}(hL:GR m.Prime D Z L N C)(hN:N≤1000){f:Mx→Option (Mx×Int⊕Mx)}:∃L',((zMF ⟨x,m0,T⟩).bind fun r2=>
  (zH (zQJ ⟨x,m0,T⟩ (k:Int) (L0,(j:Int))) (r2.x,r2.v,0)).bind fun r8=>
  (zOe ⟨x,m0,T⟩ (j:Int)).bind fun r9=>
  (f_h ⟨x,m0,T⟩ (k:Int) r9).bind fun r10=>
  (zMH ⟨x,m0,T⟩ (zJ.mk r8.1 r8.2) r10).bind fun r11=>
  (xK L [r11]).bind f)=f L'∧GR m.Prime D Z L' (N+1) (C∧c1Q Q (exx D x m T) k j):=by
 have ok:=uG h hE hT (k:=k+1) (by omega);have hn:=hE.hn;have hp:=(h.os.2 j h2).pos;have hz:=wP ok;obtain⟨c1,c2⟩:=zEZ h hE hT (k:=k) (j:=j) (by omega) h2;obtain⟨p1,p2⟩:=zKm h hE hT (k:=k) (j:=j) (by omega) h2;have hA:=zIj h hE hT hM (k:=k+1) (by omega);have hI:=zAR h hE hT hM hk;have iC:zH (zQJ ⟨x,m0,T⟩ (k:Int) (L0,(j:Int))) ((prE x (k+1) (zeros (suf (exx D x m T) (k+1)).length)).x,(prE x (k+1) (zeros (suf (exx D x m T) (k+1)).length)).v,0)=ja ((prE x (k+1) (pw (mul (suf (exx D x m T) (k+1))) (zeros (suf (exx D x m T) (k+1)).length) ((lvl (exx D x m T) k).cs.getD (j-(k+1)) []) (at0 x.zA j).toNat)).x,(prE x (k+1) (pw (mul (suf (exx D x m T) (k+1))) (zeros (suf (exx D x m T) (k+1)).length) ((lvl (exx D x m T) k).cs.getD (j-(k+1)) []) (at0 x.zA j).toNat)).v):=
  zCa (S:=V (suf (exx D x m T) (k+1))) (fun w=>(prE x (k+1) w).x) (fun w=>(prE x (k+1) w).v) (fun w=>mul (suf (exx D x m T) (k+1)) w ((lvl (exx D x m T) k).cs.getD (j-(k+1)) [])) (at0 x.zA j) (by omega) (fun w hw=>xH ok hw c2) (fun w q hw hq=>by
   unfold zQJ;dsimp only
   rw[yP h2,bs,jf hq,zN,zC (by omega) (by omega),bs,c1,bs,cs,show(zJ.mk (prE x (k+1) w).x (prE x (k+1) w).v)=prE x (k+1) w from rfl,hA w _ hw c2,bs,zC (by omega) (by omega),bs,cs]) (fun w hw=>by
   unfold zQJ;dsimp only
   rw[yP h2,bs,je (by omega),zI]) hz
 have ic:V (suf (exx D x m T) (k+1)) (pw (mul (suf (exx D x m T) (k+1))) (zeros (suf (exx D x m T) (k+1)).length) ((lvl (exx D x m T) k).cs.getD (j-(k+1)) []) (at0 x.zA j).toNat):=vO (fun w hw=>xH ok hw c2) _ hz;obtain⟨r,r1,r2,r3⟩:=zKp h hE hT hM hZ (k:=k+1) (by omega) ic (zFU h hE hT hk p2) (by rw[zW9 h hE hT (by omega) c2,zEl h hE hT hk p2,zJr h hE hT hk h1 h2,zIk h hE hT hk (by omega) h2];exact hc.c1 j h1 h2)
 have iD:=hL.len;refine⟨L++[r],?_,hL.app (GR.one r2 (r3.trans ?_))⟩
 ·rw[zKn h hE hT (k:=k+1) (by omega) (by omega),bs,iC,bs,p1,bs,hI _ p2,bs]
  dsimp only
  rw[r1,bs,yN (by simp;omega),bs]
 ·unfold c1Q;rw[tC h hE hT h2]
theorem yBe{j:Nat}(h1:k+1≤j)(h2:j<x.zA.length){L0 L:Mx}{N:Nat}{C:Prop}(hL:GR m.Prime D Z L N C)(hN:N≤1000):∃L',zH (zQK ⟨x,m0,T⟩ (k:Int) (L0,(j:Int))) (L,((j+1:Nat):Int))=ja L'∧GR m.Prime D Z L' (N+(x.zA.length-(j+1))) (C∧ ∀j2,j+1≤j2→j2<x.zA.length→c2Q Q (exx D x m T) k j j2):=by
 have ok:=uG h hE hT (k:=k+1) (by omega);have hn:=hE.hn;have hA:=zIj h hE hT hM (k:=k+1) (by omega);have hI:=zAR h hE hT hM hk;refine tE (fun i(s:Mx×Int)=>s.2=((j+1+i:Nat):Int)∧GR m.Prime D Z s.1 (N+i) (C∧ ∀j2,j+1≤j2→j2<j+1+i→c2Q Q (exx D x m T) k j j2)) (x.zA.length-(j+1)) (fun i s hi ⟨hs,hg⟩=>?_) (fun s ⟨hs,hg⟩=>?_) ⟨rfl,hL.to (by omega) ⟨fun g=>⟨g,fun j2 a b=>by omega⟩,fun g=>g.1⟩⟩
 ·left
  obtain⟨L1,s2⟩:=s;dsimp only at hs hg;subst hs;have g2:j+1+i<x.zA.length:=by omega
  obtain⟨a1,a2⟩:=zEZ h hE hT (k:=k) (j:=j) (by omega) h2;obtain⟨b1,b2⟩:=zEZ h hE hT (k:=k) (j:=j+1+i) (by omega) g2;obtain⟨d1,d2⟩:=zPr h hE hT (k:=k) (i:=j) (j:=j+1+i) (by omega) (by omega) g2;have hs:=zFU h hE hT hk d2;obtain⟨r,r1,r2,r3⟩:=zKp h hE hT hM hZ (k:=k+1) (by omega) (xH ok b2 a2) (xH ok a2 hs) (by rw[zCb h hE hT (by omega) b2 a2,zCb h hE hT (by omega) a2 hs,zEl h hE hT hk d2,zJr h hE hT hk h1 h2,zJr h hE hT hk (by omega) g2,zSG h hE hT hk h1 (by omega) g2];exact hc.c2 j h1 h2 (j+1+i) (by omega) g2)
  have iD:=hg.len;refine⟨(L1++[r],((j+1+i+1:Nat):Int)),?_,rfl,(hg.app (GR.one r2 r3)).to (by omega) ?_⟩
  ·unfold zQK
   dsimp only
   rw[jf (by omega),zN,a1,bs,b1,bs,d1,bs,hI _ d2,bs,zC (by omega) (by omega),bs,cs,hA _ _ b2 a2,bs,bs,hA _ _ a2 hs,bs,r1,bs,yN (by simp;omega),bs,zC (by omega) (by omega),bs,cs]
  ·constructor
   ·rintro⟨⟨g1,g3⟩,g4⟩
    refine⟨g1,fun j2 e1 e2=>?_⟩;rcases Jk j2 (j+1+i)with e|e
    ·exact g3 j2 e1 e
    ·obtain rfl:j2=j+1+i:=by omega
     exact g4
   ·rintro⟨g1,g3⟩
    exact⟨⟨g1,fun j2 e1 e2=>g3 j2 e1 (by omega)⟩,g3 (j+1+i) (by omega) (by omega)⟩
 ·obtain⟨L1,s2⟩:=s
  dsimp only at hs hg;subst hs;refine⟨L1,?_,hg.to (Jo _) ?_⟩
  ·unfold zQK
   dsimp only
   rw[je (by omega),zI]
  ·rw[show j+1+(x.zA.length-(j+1))=x.zA.length from by omega]
theorem yBf:∃L',zH (zUk ⟨x,m0,T⟩ (k:Int)) ([],((k+1:Nat):Int))=ja L'∧GR m.Prime D Z L' 100 (∀j,k+1≤j→j<x.zA.length→c1Q Q (exx D x m T) k j∧ ∀j2,j+1≤j2→j2<x.zA.length→c2Q Q (exx D x m T) k j j2):=by
 have hn:=hE.hn;refine tE (fun i(s:Mx×Int)=>s.2=((k+1+i:Nat):Int)∧GR m.Prime D Z s.1 (7*i) (∀j,k+1≤j→j<k+1+i→c1Q Q (exx D x m T) k j∧ ∀j2,j+1≤j2→j2<x.zA.length→c2Q Q (exx D x m T) k j j2)) (x.zA.length-(k+1)) (fun i s hi ⟨hs,hg⟩=>?_) (fun s ⟨hs,hg⟩=>?_) ⟨rfl,(GR.nil (N:=0)).to (by omega) ⟨fun _ j a b=>by omega,fun _=>trivial⟩⟩
 ·left
  obtain⟨L1,s2⟩:=s;dsimp only at hs hg;subst hs;have g2:k+1+i<x.zA.length:=by omega
  obtain⟨L2,e2,hg2⟩:=yBd h hE hT hM hZ hk hc (j:=k+1+i) (by omega) g2 (L0:=L1) hg (by omega) (f:=fun v12=>(rng (((k+1+i:Nat):Int)+1)).bind fun v13=>
   (zH (zQK ⟨x,m0,T⟩ (k:Int) (L1,((k+1+i:Nat):Int))) (v12,v13)).bind fun r25=>
   (rng (((k+1+i:Nat):Int)+1)).bind fun v26=>ja (.inl (r25,v26)))
  obtain⟨L3,e3,hg3⟩:=yBe h hE hT hM hZ hk hc (j:=k+1+i) (by omega) g2 (L0:=L1) hg2 (by omega);refine⟨(L3,((k+1+i+1:Nat):Int)),?_,rfl,hg3.to (by omega) ?_⟩
  ·unfold zUk
   dsimp only
   rw[jf (by omega),zN,e2,zC (by omega) (by omega),bs,cs,e3,bs,bs]
  ·constructor
   ·rintro⟨⟨g1,g3⟩,g4⟩ j e1 e2
    rcases Jk j (k+1+i)with e|e
    ·exact g1 j e1 e
    ·obtain rfl:j=k+1+i:=by omega
     exact⟨g3,g4⟩
   ·intro g
    have:=g (k+1+i) (by omega) (by omega);exact⟨⟨fun j e1 e2=>g j e1 (by omega),this.1⟩,this.2⟩
 ·obtain⟨L1,s2⟩:=s
  dsimp only at hs hg;subst hs;refine⟨L1,?_,hg.to (by omega) ?_⟩
  ·unfold zUk
   dsimp only
   rw[je (by omega),zI]
  ·rw[show k+1+(x.zA.length-(k+1))=x.zA.length from by omega]
theorem zSI{j:Nat}(h1:k+1≤j)(h2:j<x.zA.length):∃r,zMF ⟨x,m0,T⟩=ja r∧ixO r.x (j:Int)=ja 0∧r.x.set j 1=(prE x (k+1) (xN (x.zA.length-(k+1)) (j-(k+1))++zeros D)).x∧r.v=(prE x (k+1) (xN (x.zA.length-(k+1)) (j-(k+1))++zeros D)).v:=by
 have _:=hM;have _:=hZ;have _:=hc;have hn:=hE.hn;have f8:(xN (x.zA.length-(k+1)) (j-(k+1))).length=x.zA.length-(k+1):=by rw[kT,yB]
 refine⟨_,zKn h hE hT (k:=k+1) (by omega) (by omega),?_,?_,?_⟩
 ·rw[zBd h hE hT (by omega),qA (yC _)]
  dsimp only
  simp only[fv,zeros,Jw];rw[uC,Kw,if_pos (by omega)]
 ·rw[zBd h hE hT (by omega),qA (yC _),qA f8]
  dsimp only
  have e1:fv (k+1) (zeros (x.zA.length-(k+1)))=zeros j++0::zeros (x.zA.length-(k+1)-(j-(k+1)+1)):=by
   simp only[fv,zeros];rw[←Jq,Jw,Jw]
   congr 1;omega
  rw[e1,zDC,fv,zAn (by omega),←Ja];simp only[zeros,Jw];rw[show k+1+(j-(k+1))=j from by omega]
 ·rw[zBd h hE hT (by omega),qA (yC _),qA f8]
theorem yBg{L:Mx}{N:Nat}{C:Prop}(hL:GR m.Prime D Z L N C)(hN:N≤1000):∃L',zH (zQL ⟨x,m0,T⟩ (k:Int) (prE x (k+1) (((exx D x m T).zT.getD k []).drop (k+1)))) (L,((k+1:Nat):Int))=ja L'∧GR m.Prime D Z L' (N+(x.zA.length-(k+1))) (C∧ ∀j,k+1≤j→j<x.zA.length→c4Q Q (exx D x m T) k j):=by
 have hn:=hE.hn;have hpk:=(h.os.2 k hk).pos;have h7:=hE.m.p.pos;have ok:=uG h hE hT (k:=k+1) (by omega);have hA:=zIj h hE hT hM (k:=k+1) (by omega);have hI:=zAR h hE hT hM hk;obtain⟨p1,p2⟩:=zKm (m0:=m0) h hE hT (k:=k) (j:=k) (Jo k) hk;change V (suf (exx D x m T) (k+1)) (lvl (exx D x m T) k).w at p2;change∃L',zH (zQL ⟨x,m0,T⟩ (k:Int) (prE x (k+1) (lvl (exx D x m T) k).w)) (L,((k+1:Nat):Int))=ja L'∧_;have ud:(lvl (exx D x m T) k).w.take (x.zA.length-(k+1))=(lvl x k).w:=zIk h hE hT hk (Jo k) hk;have ho:(lvl (exx D x m T) k).o=at0 x.zA k:=zB8 h hE hT hk;refine tE (fun i(s:Mx×Int)=>s.2=((k+1+i:Nat):Int)∧GR m.Prime D Z s.1 (N+i) (C∧ ∀j,k+1≤j→j<k+1+i→c4Q Q (exx D x m T) k j)) (x.zA.length-(k+1)) (fun i s hi ⟨hs,hg⟩=>?_) (fun s ⟨hs,hg⟩=>?_) ⟨rfl,hL.to (by omega) ⟨fun g=>⟨g,fun j2 a b=>by omega⟩,fun g=>g.1⟩⟩
 ·left
  obtain⟨L1,s2⟩:=s;dsimp only at hs hg;subst hs;have g2:k+1+i<x.zA.length:=by omega
  obtain⟨r33,z1,z2,z3,z4⟩:=zSI h hE hT hM hZ hk hc (j:=k+1+i) (by omega) g2;have hue:=zSH h hE hT hk (j:=k+1+i) (by omega) g2;have hux:V (suf x (k+1)) (xN (x.zA.length-(k+1)) (k+1+i-(k+1))):=by
   have:=zC8 (h.okAt (k:=k+1) (by omega)) (j:=k+1+i-(k+1)) (by rw[yQ];omega)
   rwa [yQ]at this
  have f8:=wZ h (by omega) hux;have tg:V (suf (exx D x m T) (k+1)) (xN (x.zA.length-(k+1)) (k+1+i-(k+1))++zeros D):=(sK h hE hT (x.zA.length-(k+1)) (k+1) (by omega) _).2 ⟨_,_,rfl,hux,xQ (by omega)⟩;have e6:V (suf (exx D x m T) (k+1)) (iter (at0 x.zA k).toNat (sig (suf (exx D x m T) (k+1)) (lvl (exx D x m T) k)) (xN (x.zA.length-(k+1)) (k+1+i-(k+1))++zeros D)):=vO (fun w hw=>zFU h hE hT hk hw) _ tg;have iC:zH (zUl ⟨x,m0,T⟩ (k:Int)) ((prE x (k+1) (xN (x.zA.length-(k+1)) (k+1+i-(k+1))++zeros D)).x,(prE x (k+1) (xN (x.zA.length-(k+1)) (k+1+i-(k+1))++zeros D)).v,0)=ja ((prE x (k+1) (iter (at0 x.zA k).toNat (sig (suf (exx D x m T) (k+1)) (lvl (exx D x m T) k)) (xN (x.zA.length-(k+1)) (k+1+i-(k+1))++zeros D))).x,(prE x (k+1) (iter (at0 x.zA k).toNat (sig (suf (exx D x m T) (k+1)) (lvl (exx D x m T) k)) (xN (x.zA.length-(k+1)) (k+1+i-(k+1))++zeros D))).v):=
   zCa (S:=V (suf (exx D x m T) (k+1))) (fun w=>(prE x (k+1) w).x) (fun w=>(prE x (k+1) w).v) (sig (suf (exx D x m T) (k+1)) (lvl (exx D x m T) k)) (at0 x.zA k) (by omega) (fun w hw=>zFU h hE hT hk hw) (fun w q hw hq=>by
    unfold zUl;dsimp only
    rw[yP hk,bs,jf hq,zN,show(zJ.mk (prE x (k+1) w).x (prE x (k+1) w).v)=prE x (k+1) w from rfl,hI w hw,bs,zC (by omega) (by omega),bs,cs]) (fun w hw=>by
    unfold zUl;dsimp only
    rw[yP hk,bs,je (by omega),zI]) tg
  obtain⟨r,r1,r2,r3⟩:=zKp h hE hT hM hZ (k:=k+1) (by omega) (xH ok p2 e6) (xH ok tg p2) (by rw[zCb h hE hT (by omega) p2 e6,zCb h hE hT (by omega) tg p2,zKo h hE hT hk _ tg,ud,Jn f8];exact hc.c4 (k+1+i) (by omega) g2)
  have iD:=hg.len;refine⟨(L1++[r],((k+1+i+1:Nat):Int)),?_,rfl,(hg.app (GR.one r2 r3)).to (by omega) ?_⟩
  ·unfold zQL
   dsimp only
   rw[jf (by omega),zN,z1,bs,z2,bs,Je,z3,z4,iC,bs,zC (by omega) (by omega),bs,cs];dsimp only
   have e1:=hA _ _ p2 e6;have e2:=hA _ _ tg p2;rw[show∀w,(zJ.mk (prE x (k+1) w).x (prE x (k+1) w).v)=prE x (k+1) w from fun _=>rfl,show∀w,(zJ.mk (prE x (k+1) w).x (prE x (k+1) w).v)=prE x (k+1) w from fun _=>rfl,e1,bs,bs,e2,bs,r1,bs,yN (by simp;omega),bs,zC (by omega) (by omega),bs,cs]
  ·have e4:c4Q Q (exx D x m T) k (k+1+i)↔Q (k+1) (mul (suf (exx D x m T) (k+1)) (lvl (exx D x m T) k).w (iter (at0 x.zA k).toNat (sig (suf (exx D x m T) (k+1)) (lvl (exx D x m T) k)) (xN (x.zA.length-(k+1)) (k+1+i-(k+1))++zeros D))) (mul (suf (exx D x m T) (k+1)) (xN (x.zA.length-(k+1)) (k+1+i-(k+1))++zeros D) (lvl (exx D x m T) k).w):=by
    unfold c4Q;rw[hue,ho]
   rw[←e4];constructor
   ·rintro⟨⟨g1,g3⟩,g4⟩
    refine⟨g1,fun j2 e1 e2=>?_⟩;rcases Jk j2 (k+1+i)with e|e
    ·exact g3 j2 e1 e
    ·obtain rfl:j2=k+1+i:=by omega
     exact g4
   ·rintro⟨g1,g3⟩
    exact⟨⟨g1,fun j2 e1 e2=>g3 j2 e1 (by omega)⟩,g3 (k+1+i) (by omega) (by omega)⟩
 ·obtain⟨L1,s2⟩:=s
  dsimp only at hs hg;subst hs;refine⟨L1,?_,hg.to (Jo _) ?_⟩
  ·unfold zQL
   dsimp only
   rw[je (by omega),zI]
  ·rw[show k+1+(x.zA.length-(k+1))=x.zA.length from by omega]
theorem zYf:∃L,f_l ⟨x,m0,T⟩ (k:Int)=ja L∧GR m.Prime D Z L 120 (LCQ Q x (exx D x m T) k):=by
 have hn:=hE.hn;have hI:=zAR h hE hT hM hk;obtain⟨p1,p2⟩:=zKm h hE hT (k:=k) (j:=k) (Jo k) hk;obtain⟨L1,e1,g1⟩:=yBf h hE hT hM hZ hk hc;have hs:=zFU h hE hT hk p2;obtain⟨r,r1,r2,r3⟩:=zKp h hE hT hM hZ (k:=k+1) (by omega) hs p2 (by rw[zEl h hE hT hk p2,zIk h hE hT hk (Jo k) hk];exact hc.c3)
 obtain⟨L2,e2,g2⟩:=yBg h hE hT hM hZ hk hc (g1.app (GR.one r2 r3)) (by omega);have iD:=g1.len;refine⟨L2,?_,g2.to (by omega) ?_⟩
 ·unfold f_l
  rw[zC (by omega) (by omega),bs,cs,e1,bs,p1,bs,hI _ p2,bs,r1,bs,yN (by simp;omega),bs,bs,e2,bs]
 ·constructor
  ·rintro⟨⟨a1,a2⟩,a3⟩
   exact⟨fun j b1 b2=>(a1 j b1 b2).1,fun i b1 b2 j b3 b4=>(a1 i b1 b2).2 j b3 b4,a2,a3⟩
  ·intro a
   exact⟨⟨fun j b1 b2=>⟨a.c1 j b1 b2,fun j2 b3 b4=>a.c2 j b1 b2 j2 b3 b4⟩,a.c3⟩,a.c4⟩
end
theorem zYg(hx:wR (suf x 0)):∃L,f_L ⟨x,m0,T⟩=ja L∧GR m.Prime D Z L 1000 (∀k,k<x.zA.length→LCQ Q x (exx D x m T) k):=by
 have hn:=hE.hn;have h3:=hE.m.d3;have bL:∀k,k<x.zA.length→LC x k:=fun k hk=>((zA6 h.w hk).1 (zB1 hx k)).2
 obtain⟨L,e,g⟩:=tE (body:=zQM ⟨x,m0,T⟩) (Q:=fun L=>GR m.Prime D Z L 1000 (∀k,k<x.zA.length→LCQ Q x (exx D x m T) k)) (fun i(s:Mx×Int)=>s.2=(i:Int)∧GR m.Prime D Z s.1 (120*i) (∀k,k<i→LCQ Q x (exx D x m T) k)) x.zA.length (fun i s hi ⟨hs,hg⟩=>by
  left;obtain⟨L1,s2⟩:=s;dsimp only at hs hg;subst hs;obtain⟨L2,e2,g2⟩:=zYf h hE hT hM hZ hi (bL i hi);have l1:=hg.len;have l2:=g2.len;refine⟨(L1++L2,((i+1:Nat):Int)),?_,rfl,(hg.app g2).to (by omega) ?_⟩
  ·unfold zQM
   dsimp only
   rw[xD hi,zN,e2,bs,yN (by omega),bs,zC (by omega) (by omega),bs,cs]
  ·constructor
   ·rintro⟨a1,a2⟩ k hk
    rcases Jk k i with e|e
    ·exact a1 k e
    ·obtain rfl:k=i:=by omega
     exact a2
   ·exact fun a=>⟨fun k hk=>a k (by omega),a i (by omega)⟩) (fun s ⟨hs,hg⟩=>by
  obtain⟨L1,s2⟩:=s;dsimp only at hs hg;subst hs;refine⟨L1,?_,hg.to (by omega) Iff.rfl⟩;unfold zQM;dsimp only
  rw[xP,zI]) (s:=([],0)) ⟨rfl,(GR.nil (N:=0)).to (by omega) ⟨fun _ k hk=>by omega,fun _=>trivial⟩⟩
 exact⟨L,by unfold f_L;rw[e,bs],g⟩
end
end Go.Pl

namespace Go.Pl
open Go Go.Ab Go.Wk Go.Pc
end Go.Pl

namespace Go.Pl
open Go Go.Ab Go.Wk Go.Pc
end Go.Pl

namespace Go.Pl
open Go Go.Ab Go.Wk Go.Pc
theorem zSJ{x:SPr}(h:Pres x)(h6:x.zA.length≤6):(uU x).length=base x.zA.length x.zA.length:=by
 have h1:=zQp h;have key:∀n:Nat,n<7→2*base n n=n*(n+1):=by decide
 have h2:=key x.zA.length (by omega);omega
abbrev zPs(x:SPr)(m:zG)(D:Nat):Mx:=zLX (x.zA.length*D) (fun k=>dfc m D (uv x.zA.length D k)) (uU x)
section
variable {x:SPr}{m:zG}{D:Nat} (hx:zCC x) (hD:MOk x.zA.length m D)
 include hx hD
theorem zNI:∃R pv,zUp x m=ja R∧zUq x m=ja (zPs x m D)∧f_j m.Prime (zPs x m D)=ja R∧Red m.Prime (base x.zA.length x.zA.length*D) R pv∧R.length≤63∧base x.zA.length x.zA.length*D≤63:=by have h6:=hx.n6;have h3:=hD.d3;have hb:=vK x.zA.length (by omega);have hl:=zSJ hx.toPres h6;have cL:x.zA.length*D≤6*3:=K6 h6 h3;have dH:base x.zA.length x.zA.length*D≤21*3:=K6 hb.2.1 h3;have pI:(zPs x m D).length=x.zA.length*D:=wC;obtain⟨R,pv,r1,r2,r3,_⟩:=kR hD.p (n:=(uU x).length*D) (by rw[hl];omega) (rows:=zPs x m D) (by omega) (by rw[pI];exact zQq (zXX hx.toPres hD) (uU x));rw[hl]at r3;have hR:=r3.len_le;refine⟨R,pv,?_,zG2 hx.toPres hD,r2,r3,by omega,dH⟩;unfold zUp;rw[zLY hx.toPres hD,bs,r1,bs]
end
end Go.Pl

namespace Go.Pl
open Go Go.Ab Go.Wk Go.Pc
end Go.Pl

namespace Go.Pl
open Go Go.Ab Go.Wk Go.Pc
end Go.Pl

namespace Go.Pl
open Go Go.Ab Go.Wk Go.Pc
section
variable {p:Int} (hp:Prime p)
 include hp
theorem zMe{D E:Nat}(hD:D≤1000)(hE:E≤1000){r:List Int}{B:Mx}(hr:Row p D r)(hl:B.length=D)(hB:∀i,i<D→Row p E (B.getD i [])):f_u p r B (E:Int)=ja (zA9 p D E r B):=by
 have h7:=hp.pos;have cd:=hr.1;unfold f_u;rw[xM (by omega),bs];have e:J1 E (0:Int)=zA9 p 0 E r B:=by rw[uS];exact zX fun j _=>by simp[S]
 rw[e];have:=zW (body:=zMx p r B) (r:=zA9 p D E r B) (fun i=>(zA9 p i E r B,(i:Int))) D (fun i hi=>by
  have aP:=hr.2 i hi;have hBi:=hB i hi;have eP:=zLU hp (D:=i) (E:=E) (r:=r) (B:=B);unfold zMx;dsimp only
  rw[cd,hl,xD hi,zN,zN];have inner:=zW (body:=zMw p r B (zA9 p i E r B,(i:Int))) (r:=tG p E (zA9 p i E r B) (at0 r i) (B.getD i [])) (fun k=>(zFM p E k (zA9 p i E r B) (at0 r i) (B.getD i []),(k:Int))) E (fun k hk=>by
   have ha:=eP.2 k hk;have hb:=hBi.2 k hk;have hm:=zFG (by omega) aP hb;have iG:(zFM p E k (zA9 p i E r B) (at0 r i) (B.getD i [])).length=E:=zB3;have fL:=hBi.1;unfold zMw;dsimp only
   rw[iG,xD hk,zN,yX [] (by omega),bs,fL,xD hk,zN,yP (by omega),bs,yP (by omega),bs,bs,yP (by omega),bs,zKc hk,zC (by omega) (by omega),bs,zC (by omega) (by omega),bs];have bg:vS (at0 (zA9 p i E r B) k+at0 r i*at0 (B.getD i []) k) p=ja ((at0 (zA9 p i E r B) k+at0 r i*at0 (B.getD i []) k)%p):=by unfold vS;rw[if_neg (by omega),L4 (by omega)]
   rw[bg,bs,bs,zC (by omega) (by omega),bs,cs,Je,zHR rfl]) (by
   have iG:(zFM p E E (zA9 p i E r B) (at0 r i) (B.getD i [])).length=E:=zB3;unfold zMw;dsimp only
   rw[iG,xP,zI,zFO])
  rw[zFN eP.1,show((0:Nat):Int)=0 from rfl]at inner;rw[inner,bs,zC (by omega) (by omega),bs,cs]
  congr 3
  refine zX fun j hj=>?_
  rw[zA9,yE hj];simp only[S];rw[Ke,Kc,←Ke]) (by
  unfold zMx;dsimp only
  rw[cd,xP,zI])
 rw[show((0:Nat):Int)=0 from rfl]at this;rw[this,bs]
theorem zIl{D E:Nat}(hD:D≤1000)(hE:E≤1000){A B:Mx}(hA:∀i,i<A.length→Row p D (A.getD i []))(cB:A.length≤1000)(hl:B.length=D)(hB:∀i,i<D→Row p E (B.getD i [])):
  zV6 p A B (E:Int)=ja (gl A.length fun k=>zA9 p D E (A.getD k []) B):=by
 unfold zV6;have:=vJ (body:=zMy p A B (E:Int)) A.length (fun k=>zA9 p D E (A.getD k []) B) (fun i acc hi ha=>by
  unfold zMy;dsimp only
  rw[xD hi,zN,yX [] hi,bs,zMe hp hD hE (hA i hi) hl hB,bs,yN (by simp;omega),bs,zC (by omega) (by omega),bs,cs]) (fun acc=>by
  unfold zMy;dsimp only
  rw[xP,zI])
 rw[this,bs]
end
end Go.Pl

namespace Go.Pl
open Go Go.Ab Go.Wk Go.Pc
abbrev zEm:=Nat×List Nat×List Nat
section
variable (x:SPr)
abbrev yH(a:Nat):Nat:=(at0 x.zA a).toNat
abbrev lcj(i j:Nat):List Int:=(x.zE.getD i []).getD (j-(i+1)) []
def swp:List Nat→Option zEm
 |a::b::s=>if b<a then ja (base x.zA.length b+(a-(b+1)),s,b::(nw 0 (lcj x b a)++s))else jb
 |_=>jb
def pws:List Nat→Option zEm
 |a::w=>if(a::w).take (yH x a)=J1 (yH x a) a then ja (a,(a::w).drop (yH x a),nw 0 (x.zT.getD a [])++(a::w).drop (yH x a))else jb
 | []=>jb
def hdS(w:List Nat):Option zEm:=match swp x w with
 |some r=>ja r
 |none=>pws x w
def stS:List Nat→Option zEm
 | []=>jb
 |a::w=>match hdS x (a::w)with
  |some r=>ja r
  |none=>(stS w).map fun r=>(r.1,r.2.1,a::r.2.2)
end
section
variable {x:SPr}
theorem zVn{w s:List Nat}{r:zEm}(h:swp x w=ja r):swp x (w++s)=ja (r.1,r.2.1++s,r.2.2++s):=by
 match w,h with
 | [],h=>cases h
 | [_],h=>cases h
 |a::b::w,h=>
  simp only[swp]at h
  by_cases g:b<a
  ·rw[if_pos g]at h
   cases h;simp only[Jp,swp,if_pos g,Ja]
  ·rw[if_neg g]at h;cases h
theorem zB9{w:List Nat}{o a:Nat}(h:w.take o=J1 o a):o≤w.length:=by have:=congrArg Jbt h;rw[K3,Jh]at this;omega
theorem zVo{w s:List Nat}{r:zEm}(h:pws x w=ja r):pws x (w++s)=ja (r.1,r.2.1++s,r.2.2++s):=by
 match w,h with
 | [],h=>cases h
 |a::w,h=>
  simp only[pws]at h
  by_cases g:(a::w).take (yH x a)=J1 (yH x a) a
  ·rw[if_pos g]at h
   cases h;have hl:=zB9 g;have e1:(a::(w++s)).take (yH x a)=(a::w).take (yH x a):=by rw[←Jp,Hg hl]
   have e2:(a::(w++s)).drop (yH x a)=(a::w).drop (yH x a)++s:=by rw[←Jp,Kt hl]
   simp only[Jp,pws];rw[if_pos (by rw[e1,g]),e2,Ja]
  ·rw[if_neg g]at h;cases h
theorem zFa{a b:Nat}{s s2:List Nat}(h:swp x (a::b::s)=jb):swp x (a::b::s2)=jb:=by
 simp only[swp]at h ⊢
 by_cases g:b<a
 ·rw[if_pos g]at h;cases h
 ·rw[if_neg g]
theorem zPt{w:List Nat}(h:hdS x w=jb):swp x w=jb∧pws x w=jb:=by
 unfold hdS at h;cases e:swp x w with
 |some r=>rw[e]at h;cases h
 |none=>rw[e]at h;exact⟨rfl,h⟩
theorem zSK{w:List Nat}(h1:swp x w=jb)(h2:pws x w=jb):hdS x w=jb:=by unfold hdS;rw[h1];exact h2
theorem zYh{w s:List Nat}(hw:∀a∈w,2≤yH x a){r:zEm}(h:hdS x w=ja r):hdS x (w++s)=ja (r.1,r.2.1++s,r.2.2++s):=by
 unfold hdS at h ⊢
 cases e:swp x w with
 |some q=>
  rw[e]at h;cases h;rw[zVn e]
 |none=>
  rw[e]at h;have e2:swp x (w++s)=jb:=by
   match w,h with
   | [],h=>cases h
   | [a],h=>
    have h2:=hw a (by simp);simp only[pws]at h
    by_cases g:[a].take (yH x a)=J1 (yH x a) a
    ·have h4:=zB9 g;simp only[J6,Ju]at h4;omega
    ·rw[if_neg g]at h;cases h
   |a::b::w,h=>exact zFa e
  rw[e2];exact zVo h
theorem zEn{k a:Nat}(hk:k<yH x a):∀j,j≤k→ ∀{w:List Nat},(∀b,w.head? =ja b→a<b)→stS x (J1 j a++w)=(stS x w).map fun r=>(r.1,r.2.1,J1 j a++r.2.2)
 |0,_,w,_=>by
  simp only[Hh,Ji];cases stS x w with
  |none=>rfl
  |some r=>rfl
 |j+1,hj,w,hw=>by
  have ih:=zEn hk j (by omega) hw;rw[Jq,Jp];have h1:swp x (a::(J1 j a++w))=jb:=by
   cases j with
   |succ j=>simp only[Jq,Jp,swp,if_neg (Jc5 a)]
   |zero=>
    simp only[Hh,Ji];cases w with
    |nil=>rfl
    |cons b w=>
     have:=hw b rfl;simp only[swp,if_neg (show¬b<a by omega)]
  have h2:pws x (a::(J1 j a++w))=jb:=by
   simp only[pws];refine if_neg fun g=>?_
   have hl:=zB9 g;have:=congrArg (fun l=>l[j+1]?) g;rw[Uo (by omega),←Jp,←Jq,J8 (by simp),Jh,Kq,Qz (by omega)]at this;have:=hw a (by rw[List.head?_eq_getElem?];exact this);omega
  simp only[stS];rw[zSK h1 h2,ih];cases stS x w with
  |none=>rfl
  |some r=>rfl
theorem zYi{k a:Nat}(hk:k<yH x a):stS x (J1 k a)=jb:=by have:=zEn hk k (Jo _) (w:=[]) (fun b h=>by cases h);simpa[stS]using this
theorem zKq:∀{u s:List Nat},(∀a∈u,2≤yH x a)→ ∀{r:zEm},stS x u=ja r→stS x (u++s)=ja (r.1,r.2.1++s,r.2.2++s)
 | [],_,_,_,h=>by cases h
 |a::w,s,hu,r,h=>by
  simp only[stS]at h;rw[Jp];simp only[stS];cases e:hdS x (a::w)with
  |some q=>
   rw[e]at h;cases h;have:=zYh (s:=s) hu e;rw[Jp]at this;rw[this]
  |none=>
   rw[e]at h;cases e2:stS x w with
   |none=>rw[e2]at h;cases h
   |some q=>
    rw[e2]at h;cases h;obtain⟨n1,n2⟩:=zPt e;have m1:swp x (a::(w++s))=jb:=by
     cases w with
     |nil=>cases e2
     |cons b w=>exact zFa n1
    have m2:pws x (a::(w++s))=jb:=by
     simp only[pws]at n2 ⊢
     refine if_neg fun g=>?_
     by_cases hl:yH x a≤(a::w).length
     ·rw[←Jp,Hg hl]at g
      rw[if_pos g]at n2;cases n2
     ·have:a::w=J1 (a::w).length a:=by
       have g':=congrArg (Jbq (a::w).length) g;rw[List.take_take,Gl (by omega),←Jp,Jn rfl,List.take_replicate,Gl (by omega)]at g';exact g'
      have hw:w=J1 w.length a:=by rw[J6,Jq]at this;exact(Qs.inj this).2
      rw[hw,zYi (by simp only[J6]at hl;omega)]at e2;cases e2
    rw[zSK m1 m2,zKq (s:=s) (fun b hb=>hu b (by simp[hb])) e2];rfl
theorem zGu{u s:List Nat}(hu:∀a∈u,2≤yH x a)(h:stS x (u++s)=jb):stS x u=jb:=by
 cases e:stS x u with
 |none=>rfl
 |some r=>rw[zKq hu e]at h;cases h
theorem zSL:∀{u:List Nat}{l i:Nat}{z:List Nat},(∀a∈u,i<a)→i<l→stS x (u++[l])=jb→stS x (u++l::i::z)=ja (base x.zA.length i+(l-(i+1)),z,u++i::(nw 0 (lcj x i l)++z))
 | [],l,i,z,_,hl,_=>by simp only[Ji,stS,hdS,swp,if_pos hl]
 |a::u,l,i,z,hu,hl,hn=>by
  rw[Jp]at hn ⊢
  simp only[stS]at hn ⊢
  cases e:hdS x (a::(u++[l]))with
  |some q=>rw[e]at hn;cases hn
  |none=>
   rw[e]at hn;have bG:stS x (u++[l])=jb:=by
    cases e2:stS x (u++[l])with
    |none=>rfl
    |some q=>rw[e2]at hn;cases hn
   obtain⟨n1,n2⟩:=zPt e;have m1:swp x (a::(u++l::i::z))=jb:=by
    cases u with
    |nil=>exact zFa n1
    |cons b u=>exact zFa n1
   have m2:pws x (a::(u++l::i::z))=jb:=by
    simp only[pws]at n2 ⊢
    refine if_neg fun g=>?_
    have ea:a::(u++l::i::z)=(a::(u++[l]))++i::z:=by simp
    by_cases ho:yH x a≤(a::(u++[l])).length
    ·rw[ea,Hg ho]at g
     rw[if_pos g]at n2;cases n2
    ·have g':=congrArg (fun w=>w[(a::(u++[l])).length]?) g
     rw[Uo (by omega),ea,J8 (Jo _),Kq,Qz (by omega)]at g';have:i=a:=by simpa using g'
     have:=hu a (by simp);omega
   rw[zSK m1 m2,zSL (fun b hb=>hu b (by simp[hb])) hl bG];rfl
theorem zWA{a:Nat}(ha:2≤yH x a)(w:List Nat):stS x (J1 (yH x a) a++w)=ja (a,w,nw 0 (x.zT.getD a [])++w):=by
 obtain⟨k,hk⟩:∃k,yH x a=k+2:=⟨yH x a-2,by omega⟩;have e:J1 (yH x a) a++w=a::a::(J1 k a++w):=by rw[hk,Jq,Jq];rfl
 have h1:swp x (J1 (yH x a) a++w)=jb:=by rw[e];simp only[swp,if_neg (Jc5 a)]
 have h2:pws x (J1 (yH x a) a++w)=ja (a,w,nw 0 (x.zT.getD a [])++w):=by
  have et:(J1 (yH x a) a++w).take (yH x a)=J1 (yH x a) a:=Jn (by simp);have ed:(J1 (yH x a) a++w).drop (yH x a)=w:=K5 (by simp);rw[e]at et ed ⊢
  simp only[pws];rw[if_pos et,ed]
 have h3:hdS x (J1 (yH x a) a++w)=ja (a,w,nw 0 (x.zT.getD a [])++w):=by unfold hdS;rw[h1];exact h2
 rw[e]at h3 ⊢
 simp only[stS];rw[h3]
end
end Go.Pl

namespace Go.Pl
open Go Go.Ab Go.Wk Go.Pc
theorem zDq{p:Int}{D:Nat}{u v w:List Int}:adv p D (adv p D u v) w=adv p D u (adv p D v w):=by
 refine zX fun j hj=>?_
 rw[yE hj,yE hj,Int.emod_add_emod,Jby,Jc9]
theorem zFb{p:Int}{D:Nat}{u v:List Int}{A:Mx}:wG p D (adv p D u v) A=adv p D (wG p D u A) (wG p D v A):=by
 refine zX fun j hj=>?_
 rw[wG,wG,yE hj,yE hj,←Ke,←zCJ];refine kP fun l hl=>?_
 rw[yE hl,←Qj,Jx,Kc,←Jx]
theorem zMf{α:Type}(m:α→α→α)(z:α):∀(cs:List α)(j n:Nat)(acc:α),j<cs.length→j<n→img m cs (xN n j) acc=m acc (cs.getD j z)
 | [],_,_,_,h,_=>by simp at h
 |c::cs,0,n+1,acc,_,_=>by rw[zDg];show img m cs (zeros n) (iter (1:Int).toNat (fun v=>m v c) acc)=_;rw[sW];rfl
 |c::cs,j+1,n+1,acc,h,h2=>by rw[zF7];show img m cs (xN n j) (iter (0:Int).toNat (fun v=>m v c) acc)=_;rw[show iter (0:Int).toNat (fun v=>m v c) acc=acc from rfl,zMf m z cs j n acc (by simpa using h) (by omega),Ug]
 |_::_,0,0,_,_,h=>by omega
 |_::_,_+1,0,_,_,h=>by omega
theorem zFV(n d:Nat):zeros (n+d)=zeros n++zeros d:=by simp only[zeros,Jw]
theorem zSM{n d j:Nat}(hj:j<n):xN (n+d) j=xN n j++zeros d:=by unfold xN;rw[zFV,List.set_append_left _ _ (by rw[yC];exact hj)]
def fo(e:SPr)(k:Nat)(u:Vec)(w:List Nat):Vec:=w.foldl (fun u a=>mul (suf e k) u (xN (e.zA.length-k) (a-k))) u
theorem zCP{e:SPr}{k:Nat}{u:Vec}{v w:List Nat}:fo e k u (v++w)=fo e k (fo e k u v) w:=by simp[fo,Uj]
theorem qB{e:SPr}{k:Nat}{u:Vec}{a:Nat}{w:List Nat}:fo e k u (a::w)=fo e k (mul (suf e k) u (xN (e.zA.length-k) (a-k))) w:=rfl
theorem zYj{e:SPr}{k a:Nat}(ha:k<a)(hn:a<e.zA.length){b:Int}{y:Vec}(hb:b<at0 e.zA k):mul (suf e k) (b::y) (xN (e.zA.length-k) (a-k))=b::mul (suf e (k+1)) y (xN (e.zA.length-(k+1)) (a-(k+1))):=by obtain⟨t,ht⟩:∃t,a-k=t+1:=⟨a-(k+1),by omega⟩;obtain⟨s,hs⟩:∃s,e.zA.length-k=s+1:=⟨e.zA.length-(k+1),by omega⟩;rw[yG (x:=e) (by omega),ht,hs,zF7,yZ,if_neg (by show¬(b+0≥at0 e.zA k);omega),show a-(k+1)=t from by omega,show e.zA.length-(k+1)=s from by omega,Hd];rfl
theorem zYk{e:SPr}{k:Nat}(hn:k<e.zA.length){b:Int}{y:Vec}:mul (suf e k) (b::y) (xN (e.zA.length-k) (k-k))=if b+1≥at0 e.zA k then(b+1-at0 e.zA k)::mul (suf e (k+1)) (lvl e k).w (mul (suf e (k+1)) (sig (suf e (k+1)) (lvl e k) y) (zeros (e.zA.length-(k+1))))else(b+1)::mul (suf e (k+1)) (sig (suf e (k+1)) (lvl e k) y) (zeros (e.zA.length-(k+1))):=by obtain⟨s,hs⟩:∃s,e.zA.length-k=s+1:=⟨e.zA.length-(k+1),by omega⟩;rw[yG (x:=e) hn,hs,Kq,zDg,yZ,show e.zA.length-(k+1)=s from by omega];rfl
section
variable {D:Nat}{x:SPr}{m:zG}{T:Mx} (h:Pres x) (hE:ExB x.zA.length D x m T) (hT:∀i,i<T.length→Row m.Prime D (T.getD i []))
 include h hE hT
theorem zYl{k:Nat}(hk:k≤x.zA.length){e:Vec}(he:V (suf (exx D x m T) k) e):mul (suf (exx D x m T) k) e (zeros ((exx D x m T).zA.length-k))=e:=by have hp:=hE.m.p.pos;obtain⟨y,u,rfl,hy,hu⟩:=(sK h hE hT (x.zA.length-k) k (by omega) _).1 he;have:=zEY h hE hT (x.zA.length-k) k (by omega) y u (zeros D) hy hu (xQ (by omega));rw[zAA hu]at this;rw[wJ h hE hT,show x.zA.length+D-k=(x.zA.length-k)+D from by omega,zFV];exact this
def adK(p:Int)(D N:Nat)(e d:Vec):Vec:=e.take N++adv p D (e.drop N) d
theorem zKr{k:Nat}(hk:k≤x.zA.length){e d:Vec}(he:V (suf (exx D x m T) k) e)(hd:Row m.Prime D d):adK m.Prime D (x.zA.length-k) e d=mul (suf (exx D x m T) k) e (zeros (x.zA.length-k)++d):=by obtain⟨y,u,rfl,hy,hu⟩:=(sK h hE hT (x.zA.length-k) k (by omega) _).1 he;have ej:=wZ h (by omega) hy;rw[zEY h hE hT (x.zA.length-k) k (by omega) y u d hy hu hd,adK,Jn ej,K5 ej]
theorem zYm{k:Nat}(hk:k≤x.zA.length){e d:Vec}(he:V (suf (exx D x m T) k) e):V (suf (exx D x m T) k) (adK m.Prime D (x.zA.length-k) e d):=by have hp:=hE.m.p.pos;obtain⟨y,u,rfl,hy,hu⟩:=(sK h hE hT (x.zA.length-k) k (by omega) _).1 he;have ej:=wZ h (by omega) hy;rw[adK,Jn ej,K5 ej];exact(sK h hE hT (x.zA.length-k) k (by omega) _).2 ⟨y,_,rfl,hy,sZ (by omega)⟩
theorem zWB{k:Nat}(hk:k≤x.zA.length){e d d':Vec}(he:V (suf (exx D x m T) k) e):adK m.Prime D (x.zA.length-k) (adK m.Prime D (x.zA.length-k) e d) d'=adK m.Prime D (x.zA.length-k) e (adv m.Prime D d d'):=by obtain⟨y,u,rfl,hy,hu⟩:=(sK h hE hT (x.zA.length-k) k (by omega) _).1 he;have ej:=wZ h (by omega) hy;simp only[adK,Jn ej,K5 ej,zDq]
theorem zAS{k:Nat}(hk:k<x.zA.length){b:Int}{e d:Vec}:adK m.Prime D (x.zA.length-k) (b::e) d=b::adK m.Prime D (x.zA.length-(k+1)) e d:=by have _:=h;have _:=hE;have _:=hT;rw[show x.zA.length-k=x.zA.length-(k+1)+1 from by omega];simp only[adK,Kb,List.drop_succ_cons,Jp]
theorem zD{k:Nat}(hk:k≤x.zA.length){d:Vec}(hd:Row m.Prime D d):V (suf (exx D x m T) k) (zeros (x.zA.length-k)++d):=
 (sK h hE hT (x.zA.length-k) k (by omega) _).2 ⟨_,d,rfl,zv h hE hT hk,hd⟩
theorem zWC{k a:Nat}(hk:k≤a)(ha:a<x.zA.length):V (suf x k) (xN (x.zA.length-k) (a-k)):=by
 have _:=hE;have _:=hT;have:=zC8 (h.okAt (k:=k) (by omega)) (j:=a-k) (by rw[yQ];omega)
 rwa [yQ]at this
theorem zQu{k a:Nat}(hk:k≤a)(ha:a<x.zA.length):xN ((exx D x m T).zA.length-k) (a-k)=xN (x.zA.length-k) (a-k)++zeros D:=by rw[wJ h hE hT,show x.zA.length+D-k=x.zA.length-k+D from by omega,zSM (by omega)]
theorem zCQ{k a:Nat}(hk:k≤a)(ha:a<x.zA.length):V (suf (exx D x m T) k) (xN ((exx D x m T).zA.length-k) (a-k)):=by have hp:=hE.m.p.pos;rw[zQu h hE hT hk ha];exact(sK h hE hT (x.zA.length-k) k (by omega) _).2 ⟨_,_,rfl,zWC h hE hT hk ha,xQ (by omega)⟩
theorem zVp{k a:Nat}(hk:k≤a)(ha:a<x.zA.length):aM m D k (xN (x.zA.length-k) (a-k))=m.zR.getD a []:=by have _:=h;have _:=hT;have hA:=hE.m.mat a ha;have hl:=hE.m.len;unfold aM;rw[zMf (PM m.Prime D) [] _ _ _ _ (by rw[Jz];omega) (by omega),J2,Ko,show k+(a-k)=a from by omega,←J2,zEK hA]
variable {k:Nat} (hk:k<x.zA.length) (hc:wR (suf (exx D x m T) (k+1)))
 include hk hc
theorem zWD{a:Nat}(h1:k+1≤a)(ha:a<x.zA.length){e d:Vec}(he:V (suf (exx D x m T) (k+1)) e)(hd:Row m.Prime D d):
  mul (suf (exx D x m T) (k+1)) (adK m.Prime D (x.zA.length-(k+1)) e d) (xN ((exx D x m T).zA.length-(k+1)) (a-(k+1)))=adK m.Prime D (x.zA.length-(k+1)) (mul (suf (exx D x m T) (k+1)) e (xN ((exx D x m T).zA.length-(k+1)) (a-(k+1)))) (wG m.Prime D d (m.zR.getD a [])):=by
 have hp:=hE.m.p.pos;have gE:=uG h hE hT (k:=k+1) (by omega);have G:=(zCA _ gE hc).toMon;have hg:=zCQ h hE hT h1 ha;have hgv:=zWC h hE hT h1 ha;have hz:=zD h hE hT (k:=k+1) (by omega) hd;have eS:=zD h hE hT (k:=k+1) (by omega) (wY (p:=m.Prime) (D:=D) (r:=d) (B:=m.zR.getD a []) (by omega));rw[zKr h hE hT (by omega) he hd,G.assoc he hz hg,zQu h hE hT h1 ha,zPp h hE hT _ (k+1) (by omega) _ _ _ hd hgv (xQ (by omega)),zAA (wY (by omega)),zVp h hE hT h1 ha,←zQu h hE hT h1 ha,zKr h hE hT (by omega) (G.cl he hg) (wY (by omega)),G.assoc he hg eS,zQu h hE hT h1 ha,zEY h hE hT _ (k+1) (by omega) _ _ _ hgv (xQ (by omega)) (wY (by omega)),vY (wY (by omega))]
 omit hc in
theorem zIm{e d:Vec}(he:V (suf (exx D x m T) (k+1)) e)(_hd:Row m.Prime D d):
    sig (suf (exx D x m T) (k+1)) (lvl (exx D x m T) k) (adK m.Prime D (x.zA.length-(k+1)) e d)=adK m.Prime D (x.zA.length-(k+1)) (sig (suf (exx D x m T) (k+1)) (lvl (exx D x m T) k) e) (wG m.Prime D d (m.zR.getD k [])):=by
  have hp:=hE.m.p.pos;obtain⟨y,u,rfl,hy,hu⟩:=(sK h hE hT (x.zA.length-(k+1)) (k+1) (by omega) _).1 he;have ej:=wZ h (by omega) hy;obtain⟨y1,u1,e,fy,fO⟩:=(sK h hE hT (x.zA.length-(k+1)) (k+1) (by omega) _).1 (zIe h hE hT hk (y:=y));have gL:=wZ h (by omega) fy;have e0:adK m.Prime D (x.zA.length-(k+1)) (y++u) d=y++adv m.Prime D u d:=by rw[adK,Jn ej,K5 ej]
  rw[e0,zBY h hE hT hk hy (sZ (by omega)),zBY h hE hT hk hy hu,e,Jn gL,K5 gL,adK,Jn gL,K5 gL,zFb,zDq]
theorem zMg{z d:Vec}(hz:V (suf (exx D x m T) (k+1)) z)(hd:Row m.Prime D d){w:Vec}(hw:V (suf (exx D x m T) (k+1)) w):
  mul (suf (exx D x m T) (k+1)) w (adK m.Prime D (x.zA.length-(k+1)) z d)=adK m.Prime D (x.zA.length-(k+1)) (mul (suf (exx D x m T) (k+1)) w z) d:=by
 have gE:=uG h hE hT (k:=k+1) (by omega);have G:=(zCA _ gE hc).toMon;rw[zKr h hE hT (by omega) hz hd,zKr h hE hT (by omega) (G.cl hw hz) hd,G.assoc hw hz (zD h hE hT (by omega) hd)]
 omit hc in
theorem zQv:V (suf (exx D x m T) (k+1)) (lvl (exx D x m T) k).w:=by
  have gE:=uG h hE hT (k:=k) (by omega);rw[yG (x:=exx D x m T) (by rw[wJ h hE hT];omega)]at gE;exact gE.2.1
 omit hc in
theorem zAC{e:Vec}(he:V (suf (exx D x m T) (k+1)) e):V (suf (exx D x m T) (k+1)) (sig (suf (exx D x m T) (k+1)) (lvl (exx D x m T) k) e):=by have gE:=uG h hE hT (k:=k) (by omega);rw[yG (x:=exx D x m T) (by rw[wJ h hE hT];omega)]at gE;exact zC9 gE he
theorem zGv{b:Int}{e:Vec}(he:V (suf (exx D x m T) (k+1)) e):mul (suf (exx D x m T) k) (b::e) (xN ((exx D x m T).zA.length-k) (k-k))=if b+1≥at0 x.zA k then(b+1-at0 x.zA k)::mul (suf (exx D x m T) (k+1)) (lvl (exx D x m T) k).w (sig (suf (exx D x m T) (k+1)) (lvl (exx D x m T) k) e)else(b+1)::sig (suf (exx D x m T) (k+1)) (lvl (exx D x m T) k) e:=by have _:=hc;rw[zYk (by rw[wJ h hE hT];omega),zYl h hE hT (by omega) (zAC h hE hT hk he),tC h hE hT hk]
theorem zMh{a:Nat}(h1:k<a)(ha:a<x.zA.length){b:Int}(hb:b<at0 x.zA k){e:Vec}:mul (suf (exx D x m T) k) (b::e) (xN ((exx D x m T).zA.length-k) (a-k))=b::mul (suf (exx D x m T) (k+1)) e (xN ((exx D x m T).zA.length-(k+1)) (a-(k+1))):=by have _:=hc;exact zYj h1 (by rw[wJ h hE hT];omega) (by rw[tC h hE hT hk];exact hb)
theorem yBh{a:Nat}(h1:k≤a)(ha:a<x.zA.length){b:Int}(hb:b<at0 x.zA k){e d:Vec}(he:V (suf (exx D x m T) (k+1)) e)(hd:Row m.Prime D d):
  mul (suf (exx D x m T) k) (b::adK m.Prime D (x.zA.length-(k+1)) e d) (xN ((exx D x m T).zA.length-k) (a-k))=adK m.Prime D (x.zA.length-k) (mul (suf (exx D x m T) k) (b::e) (xN ((exx D x m T).zA.length-k) (a-k))) (wG m.Prime D d (m.zR.getD a [])):=by
 have hp:=hE.m.p.pos;rcases Jk k a with g|g
 ·rw[zMh h hE hT hk hc g ha hb,zMh h hE hT hk hc g ha hb,zWD h hE hT hk hc g ha he hd,zAS h hE hT hk]
 ·obtain rfl:a=k:=by omega
  rw[zGv h hE hT hk hc (zYm h hE hT (by omega) he),zGv h hE hT hk hc he,zIm h hE hT hk he hd];split
  ·rw[zMg h hE hT hk hc (zAC h hE hT hk he) (wY (by omega)) (zQv h hE hT hk),zAS h hE hT hk]
  ·rw[zAS h hE hT hk]
theorem yBi{a:Nat}(h1:k≤a)(ha:a<x.zA.length){e:Vec}(he:V (suf (exx D x m T) k) e):V (suf (exx D x m T) k) (mul (suf (exx D x m T) k) e (xN ((exx D x m T).zA.length-k) (a-k))):=by have _:=hc;have _:=hk;exact xH (uG h hE hT (by omega)) he (zCQ h hE hT h1 ha)
theorem zPu:∀{w:List Nat},(∀a∈w,k≤a∧a<x.zA.length)→ ∀{e d:Vec},V (suf (exx D x m T) k) e→Row m.Prime D d→fo (exx D x m T) k (adK m.Prime D (x.zA.length-k) e d) w=adK m.Prime D (x.zA.length-k) (fo (exx D x m T) k e w) (wG m.Prime D d (wM m.Prime D m.zR w (idM D)))
 | [],_,e,d,_,hd=>by show adK _ _ _ e d=adK _ _ _ e (wG m.Prime D d (idM D));rw[jH hd]
 |a::w,hw,e,d,he,hd=>by
  have hp:=hE.m.p.pos;obtain⟨a1,a2⟩:=hw a (by simp);have hA:=hE.m.mat a a2;have iO:=he;rw[yG (x:=exx D x m T) (by rw[wJ h hE hT];omega)]at iO;cases e with
  |nil=>exact iO.elim
  |cons b e=>
   obtain⟨⟨b0,b1⟩,he1⟩:=iO;have b2:b<at0 x.zA k:=by rw[←tC h hE hT hk];exact b1
   rw[qB,qB,zAS h hE hT hk,yBh h hE hT hk hc a1 a2 b2 he1 hd,zPu (fun b hb=>hw b (by simp[hb])) (yBi h hE hT hk hc a1 a2 he) (wY (by omega)),zEX hA.1]
   congr 2
   show PM _ _ _ (wM m.Prime D m.zR w (idM D))=wM m.Prime D m.zR w (PM m.Prime D (idM D) (m.zR.getD a []));rw[←zJZ (by omega) hA.1 w (qR (by omega)),zCL hA,zEK hA]
end
end Go.Pl

namespace Go.Pl
open Go Go.Ab Go.Wk Go.Pc
inductive Col (x:SPr) (k:Nat):List Nat→List (Nat×List Nat)→List Nat→Prop where
 |refl (w:List Nat):Col x k w [] w
 |step {w w1 w' s:List Nat}{r:Nat}{tr:List (Nat×List Nat)} (hw:∀a∈w,k≤a∧a<x.zA.length) (hs:stS x w=ja (r,s,w1)) (h:Col x k w1 tr w'):Col x k w ((r,s)::tr) w'
theorem Col.trans{x:SPr}{k:Nat}{w w1 w2:List Nat}{t1 t2:List (Nat×List Nat)}(h:Col x k w t1 w1)(h2:Col x k w1 t2 w2):Col x k w (t1++t2) w2:=by
 induction h with
 |refl w=>exact h2
 |step hw hs _ ih=>exact .step hw hs (ih h2)
def tv(p:Int)(D:Nat)(m:zG)(T:Mx):List (Nat×List Nat)→Vec
 | []=>zeros D
 |(r,s)::t=>adv p D (wG p D (T.getD r []) (wM p D m.zR s (idM D))) (tv p D m T t)
section
variable {p:Int}{D:Nat}{m:zG}{T:Mx} (hp:2≤p)
 include hp
theorem zKs:∀t,Row p D (tv p D m T t)
 | []=>xQ (by omega)
 |(_,_)::_=>sZ (by omega)
theorem zIn:∀t u,tv p D m T (t++u)=adv p D (tv p D m T t) (tv p D m T u)
 | [],u=>(vY (zKs hp u)).symm
 |(r,s)::t,u=>by show adv p D _ (tv p D m T (t++u))=adv p D (adv p D _ _) _;rw[zIn t u,zDq]
theorem zYn{A:List Mx}{u v:List Nat}:wM p D A (u++v) (idM D)=PM p D (wM p D A u (idM D)) (wM p D A v (idM D)):=by have hu:=zHQ (D:=D) (A:=A) (show 0<p by omega) u (qR hp);rw[zFJ,←zJZ (by omega) hu.1 v (qR hp),zCL hu]
theorem zFc{A:List Mx}{u v:List Nat}{r:Vec}:wG p D r (wM p D A (u++v) (idM D))=wG p D (wG p D r (wM p D A u (idM D))) (wM p D A v (idM D)):=by have hu:=zHQ (D:=D) (A:=A) (show 0<p by omega) u (qR hp);rw[zYn hp,zEX hu.1]
theorem zSN(z:List Nat):∀t,tv p D m T (t.map fun q=>(q.1,q.2++z))=wG p D (tv p D m T t) (wM p D m.zR z (idM D))
 | []=>zAB.symm
 |(r,s)::t=>by show adv p D (wG p D (T.getD r []) (wM p D m.zR (s++z) (idM D))) (tv p D m T (t.map fun q=>(q.1,q.2++z)))=wG p D (adv p D _ (tv p D m T t)) _;rw[zSN z t,zFb,zFc hp]
end
section
variable {x:SPr} (h:Pres x)
 include h
theorem zKt{a:Nat}(ha:a<x.zA.length):2≤yH x a:=by have:=(h.os.2 a ha).pos;show 2≤(at0 x.zA a).toNat;omega
theorem tT{v:List Int}{i:Nat}(hv:Exp x.zA v i)(hi:i<x.zA.length):nw 0 v=nw (i+1) (v.drop (i+1))∧ ∀a∈nw 0 v,i+1≤a∧a<x.zA.length:=by
 have _:=h;have e:=zAs hv hi;have e1:nw 0 v=nw (i+1) (v.drop (i+1)):=by rw[e,zDk,zCO,yC,Ji,Jg,K5 (by rw[yC])]
 refine⟨e1,fun a ha=>?_⟩;rw[e1]at ha;refine⟨?_,zLJ (n:=x.zA.length) (i+1) _ (by rw[Jz,hv.1.1];omega) a ha⟩
 clear e e1 hv
 generalize v.drop (i+1)=y at ha
 generalize i+1=o at ha ⊢
 clear hi
 induction y generalizing o with
 |nil=>simp[nw]at ha
 |cons b y ih=>
  simp only[nw,Jj]at ha;rcases ha with ha|ha
  ·have:=Jt ha;omega
  ·have:=ih (o+1) ha;omega
theorem uB{i j:Nat}(hi:i<j)(hj:j<x.zA.length):Exp x.zA (lcj x i j) i:=by have g:=(h.tl i (by omega)).2.1;exact(h.tl i (by omega)).2.2 (j-(i+1)) (by omega)
theorem qT{i:Nat}(hi:i<x.zA.length):Exp x.zA (x.zT.getD i []) i:=(h.tl i hi).1
theorem zSO:∀(o:Nat)(y:Vec),∀a∈nw o y,o≤a
 |_,[],a,ha=>by simp[nw]at ha
 |o,b::y,a,ha=>by
  have _:=h;simp only[nw,Jj]at ha;rcases ha with ha|ha
  ·have:=Jt ha;omega
  ·have:=zSO (o+1) y a ha;omega
theorem zPv{k:Nat}{y:Vec}(hk:k≤x.zA.length)(hy:V (suf x k) y):∀a∈nw k y,k≤a∧a<x.zA.length:=fun a ha=>
 ⟨zSO h k y a ha,zLJ (n:=x.zA.length) k y (by rw[wZ h hk hy];omega) a ha⟩
theorem zFW:∀(d k:Nat),k+d=x.zA.length→ ∀y,V (suf x k) y→stS x (nw k y)=jb
 |0,k,hk,y,hy=>by rw[vV (x:=x) (k:=k) (by omega)]at hy;obtain rfl:y=[]:=hy;rfl
 |d+1,k,hk,y,hy=>by
  rw[yG (x:=x) (by omega)]at hy;cases y with
  |nil=>exact hy.elim
  |cons b y=>
   obtain⟨⟨b0,b1⟩,hy⟩:=hy;change b<at0 x.zA k at b1;simp only[nw];have gz:b.toNat<yH x k:=by show b.toNat<(at0 x.zA k).toNat;omega
   rw[zEn gz b.toNat (Jo _) fun a ha=>?_,zFW d (k+1) (by omega) y hy]
   ·rfl
   ·have:=zSO h (k+1) y a (Jbj (by rw[ha];rfl))
    omega
theorem Col.ctx{i a:Nat}(hi:i<x.zA.length)(ha:a<yH x i){s:List Nat}(hs:∀b∈s,i≤b∧b<x.zA.length){w w':List Nat}{tr:List (Nat×List Nat)}(hc:Col x (i+1) w tr w'):
  Col x i (J1 a i++(w++s)) (tr.map fun q=>(q.1,q.2++s)) (J1 a i++(w'++s)):=by
 induction hc with
 |refl w=>exact .refl _
 | @step w w1 w' s1 r tr hw gB _ ih=>
  refine .step (fun b hb=>?_) ?_ ih
  ·simp only[Jj]at hb
   rcases hb with hb|hb|hb
   ·have:=Jt hb;omega
   ·have:=hw b hb;omega
   ·exact hs b hb
  ·rw[zEn ha a (Jo _) fun b hb=>?_,zKq (fun b hb=>zKt h (hw b hb).2) gB]
   ·rfl
   ·cases w with
    |nil=>cases gB
    |cons c w=>
     simp only[Jp,U1,L8.injEq]at hb;have:=hw c (by simp);omega
def cwd(x:SPr)(i:Nat):List Nat→List Nat
 | []=>[]
 |l::ur=>cwd x i ur++nw 0 (lcj x i l)
def mtr(x:SPr)(i:Nat):List Nat→List Nat→List (Nat×List Nat)
 | [],_=>[]
 |l::ur,z=>(base x.zA.length i+(l-(i+1)),z)::mtr x i ur (nw 0 (lcj x i l)++z)
theorem zKu{i:Nat}:∀{ur:List Nat},(∀b∈ur,i+1≤b∧b<x.zA.length)→ ∀b∈cwd x i ur,i+1≤b∧b<x.zA.length
 | [],_,b,hb=>by simp[cwd]at hb
 |l::ur,hu,b,hb=>by
  simp only[cwd,Jj]at hb;obtain⟨l1,l2⟩:=hu l (by simp);rcases hb with hb|hb
  ·exact zKu (fun b hb=>hu b (by simp[hb])) b hb
  ·exact(tT h (uB h (by omega) l2) (by omega)).2 b hb
theorem Col.move{i a:Nat}(hi:i<x.zA.length)(ha:a<yH x i):∀{ur:List Nat},(∀b∈ur,i+1≤b∧b<x.zA.length)→stS x ur.reverse=jb→ ∀{z:List Nat},(∀b∈z,i≤b∧b<x.zA.length)→
  Col x i (J1 a i++(ur.reverse++i::z)) (mtr x i ur z) (J1 (a+1) i++(cwd x i ur++z))
 | [],_,_,z,_=>by
  have e:J1 a i++(([]:List Nat).reverse++i::z)=J1 (a+1) i++(cwd x i []++z):=by rw[H6];simp[cwd]
  rw[e];exact .refl _
 |l::ur,hu,hn,z,hz=>by
  obtain⟨l1,l2⟩:=hu l (by simp);have eY:∀b∈ur,i+1≤b∧b<x.zA.length:=fun b hb=>hu b (by simp[hb])
  have fK:=tT h (uB h (show i<l by omega) l2) hi;rw[H2]at hn ⊢
  have bG:=zGu (fun b hb=>zKt h (eY b (by simpa using hb)).2) hn;have eS:∀b∈nw 0 (lcj x i l)++z,i≤b∧b<x.zA.length:=fun b hb=>by
   simp only[Jj]at hb;rcases hb with hb|hb
   ·have:=fK.2 b hb;omega
   ·exact hz b hb
  have ih:=Col.move hi ha eY bG eS;rw[show cwd x i (l::ur)++z=cwd x i ur++(nw 0 (lcj x i l)++z)from by simp[cwd]];have e1:ur.reverse++[l]++i::z=ur.reverse++l::i::z:=by simp
  rw[e1];refine .step (fun b hb=>?_) ?_ ih
  ·simp only[Jj,Jc,Qw]at hb
   rcases hb with hb|hb|hb|hb|hb
   ·have:=Jt hb;omega
   ·have:=eY b hb;omega
   ·omega
   ·omega
   ·exact hz b hb
  ·rw[zEn ha a (Jo _) fun b hb=>?_,zSL (fun b hb=>by have:=eY b (by simpa using hb);omega) (by omega) hn]
   ·rfl
   ·have:b∈ur.reverse++l::i::z:=Jbj (by rw[hb];rfl)
    cases e:ur.reverse with
    |nil=>rw[e]at hb;simp only[Ji,U1,L8.injEq]at hb;omega
    |cons c t=>
     rw[e]at hb;simp only[Jp,U1,L8.injEq]at hb;have:=eY c (by rw[←Qw,e];simp);omega
end
end Go.Pl

namespace Go.Pl
open Go Go.Ab Go.Wk Go.Pc
theorem zIo{α:Type}(m:α→α→α)(c:Nat→α)(z:α):∀(cs:List α)(v:Vec)(o:Nat)(acc:α),(∀j,j<cs.length→cs.getD j z=c (o+j))→v.length≤cs.length→img m cs v acc=(nw o v).foldl (fun acc j=>m acc (c j)) acc
 |cs,[],o,acc,_,_=>by cases cs<;>rfl
 | [],_::_,_,_,_,h=>by simp at h
 |a::cs,b::v,o,acc,hc,hl=>by
  have h0:=hc 0 (by simp);simp only[Lv,Hy]at h0;have e:∀(k:Nat)(u:α),(J1 k o).foldl (fun acc j=>m acc (c j)) u=iter k (fun v=>m v a) u:=by
   intro k
   induction k with
   |zero=>intro u;rfl
   |succ k ih=>intro u;rw[Jq,U2,ih,h0];rfl
  show img m cs v (iter b.toNat (fun v=>m v a) acc)=_;simp only[nw,Uj];rw[e,zIo m c z cs v (o+1) _ (fun j hj=>by have:=hc (j+1) (by simpa using hj);rw[Ug]at this;rw[this];congr 1;omega) (by simpa using hl)]
theorem map_drop{l:List (List Int)}{n i:Nat}:(l.map (·.drop n)).getD i []=(l.getD i []).drop n:=by rw[J2,J2,K1];cases l[i]? <;>simp
section
variable {D:Nat}{x:SPr}{m:zG}{T:Mx} (h:Pres x) (hE:ExB x.zA.length D x m T) (hT:∀i,i<T.length→Row m.Prime D (T.getD i []))
 include h hE hT
theorem zVq{k:Nat}(hk:k<x.zA.length)(hc:wR (suf (exx D x m T) k)):wR (suf (exx D x m T) (k+1)):=by rw[yG (x:=exx D x m T) (by rw[wJ h hE hT];omega)]at hc;exact hc.1
theorem zNJ{k:Nat}(hk:k≤x.zA.length):V (suf (exx D x m T) k) (zeros ((exx D x m T).zA.length-k)):=by
 have:=wP (uG h hE hT (k:=k) (by omega))
 rwa [yQ]at this
theorem zIp{k:Nat}(hk:k≤x.zA.length):zeros ((exx D x m T).zA.length-k)=zeros (x.zA.length-k)++zeros D:=by rw[wJ h hE hT,show x.zA.length+D-k=x.zA.length-k+D from by omega,zFV]
theorem zD1{k:Nat}(hk:k≤x.zA.length){y u:Vec}(hy:V (suf x k) y)(hu:Row m.Prime D u):V (suf (exx D x m T) k) (y++u):=
 (sK h hE hT (x.zA.length-k) k (by omega) _).2 ⟨y,u,rfl,hy,hu⟩
theorem jX{k:Nat}(hk:k≤x.zA.length){y u d:Vec}(hy:V (suf x k) y):adK m.Prime D (x.zA.length-k) (y++u) d=y++adv m.Prime D u d:=by have _:=hE;have _:=hT;have ej:=wZ h hk hy;rw[adK,Jn ej,K5 ej]
theorem zIq:∀(d k:Nat),k+d=x.zA.length→wR (suf (exx D x m T) k)→ ∀y,V (suf x k) y→fo (exx D x m T) k (zeros ((exx D x m T).zA.length-k)) (nw k y)=y++zeros D
 |0,k,hk,_,y,hy=>by rw[vV (x:=x) (k:=k) (by omega)]at hy;obtain rfl:y=[]:=hy;rw[zIp h hE hT (by omega),show x.zA.length-k=0 from by omega];rfl
 |d+1,k,hk,hc,y,hy=>by
  have p8:=zVq h hE hT (by omega) hc;have ih:=zIq d (k+1) (by omega) p8;rw[yG (x:=x) (by omega)]at hy;cases y with
  |nil=>exact hy.elim
  |cons b y=>
   obtain⟨⟨b0,b1⟩,hy⟩:=hy;change b<at0 x.zA k at b1;have mb:k<x.zA.length:=by omega
   have hz:=zNJ h hE hT (k:=k+1) (by omega);simp only[nw];rw[zCP];have e1:∀c:Nat,(c:Int)<at0 x.zA k→fo (exx D x m T) k (zeros ((exx D x m T).zA.length-k)) (J1 c k)=(c:Int)::zeros ((exx D x m T).zA.length-(k+1)):=by
    intro c
    induction c with
    |zero=>
     intro _;have hl:=wJ h hE hT;rw[show(exx D x m T).zA.length-k=(exx D x m T).zA.length-(k+1)+1 from by omega];rfl
    |succ c ihc=>
     intro gG;rw[H6,zCP,ihc (by omega)];show mul _ _ _=_;rw[zGv h hE hT mb p8 hz,if_neg (by omega)];have:sig (suf (exx D x m T) (k+1)) (lvl (exx D x m T) k) (zeros ((exx D x m T).zA.length-(k+1)))=zeros ((exx D x m T).zA.length-(k+1)):=by unfold sig;rw[sW,yQ]
     rw[this];rfl
   have e2:∀(w:List Nat)(e:Vec),(∀a∈w,k+1≤a∧a<x.zA.length)→fo (exx D x m T) k (b::e) w=b::fo (exx D x m T) (k+1) e w:=by
    intro w
    induction w with
    |nil=>intro e _;rfl
    |cons a w ihw=>
     intro e hw;rw[qB,zMh h hE hT mb p8 (hw a (by simp)).1 (hw a (by simp)).2 b1,ihw _ fun a ha=>hw a (by simp[ha])];rfl
   have:=e1 b.toNat (by omega);rw[this,show((b.toNat:Nat):Int)=b from by omega,e2 _ _ fun a ha=>zPv h (by omega) hy a ha,ih y hy];rfl
variable {k:Nat} (hk:k<x.zA.length) (hc:wR (suf (exx D x m T) (k+1)))
 include hk hc
theorem zIr{b:Int}(hb:b<at0 x.zA k):∀(w:List Nat)(e:Vec),(∀a∈w,k+1≤a∧a<x.zA.length)→fo (exx D x m T) k (b::e) w=b::fo (exx D x m T) (k+1) e w
 | [],e,_=>rfl
 |a::w,e,hw=>by rw[qB,zMh h hE hT hk hc (hw a (by simp)).1 (hw a (by simp)).2 hb,zIr hb w _ fun a ha=>hw a (by simp[ha])];rfl
 omit hc in
theorem zQw:∀{w:List Nat},(∀a∈w,k+1≤a∧a<x.zA.length)→ ∀{e:Vec},V (suf (exx D x m T) (k+1)) e→V (suf (exx D x m T) (k+1)) (fo (exx D x m T) (k+1) e w)
  | [],_,_,he=>he
  |a::w,hw,e,he=>by rw[qB];exact zQw (fun b hb=>hw b (by simp[hb])) (xH (uG h hE hT (by omega)) he (zCQ h hE hT (hw a (by simp)).1 (hw a (by simp)).2))
theorem zSP:∀{w:List Nat},(∀a∈w,k+1≤a∧a<x.zA.length)→ ∀{e d:Vec},V (suf (exx D x m T) (k+1)) e→Row m.Prime D d→fo (exx D x m T) (k+1) (adK m.Prime D (x.zA.length-(k+1)) e d) w=adK m.Prime D (x.zA.length-(k+1)) (fo (exx D x m T) (k+1) e w) (wG m.Prime D d (wM m.Prime D m.zR w (idM D)))
 | [],_,e,d,_,hd=>by show adK _ _ _ e d=adK _ _ _ e (wG m.Prime D d (idM D));rw[jH hd]
 |a::w,hw,e,d,he,hd=>by
  have hp:=hE.m.p.pos;obtain⟨a1,a2⟩:=hw a (by simp);have hA:=hE.m.mat a a2;rw[qB,qB,zWD h hE hT hk hc a1 a2 he hd,zSP (fun b hb=>hw b (by simp[hb])) (xH (uG h hE hT (by omega)) he (zCQ h hE hT a1 a2)) (wY (by omega)),zEX hA.1]
  congr 2
  show PM _ _ _ (wM m.Prime D m.zR w (idM D))=wM m.Prime D m.zR w (PM m.Prime D (idM D) (m.zR.getD a []));rw[←zJZ (by omega) hA.1 w (qR (by omega)),zCL hA,zEK hA]
theorem zSQ:∀{w:List Nat},(∀a∈w,k+1≤a∧a<x.zA.length)→ ∀{e f:Vec},V (suf (exx D x m T) (k+1)) e→V (suf (exx D x m T) (k+1)) f→fo (exx D x m T) (k+1) (mul (suf (exx D x m T) (k+1)) e f) w=mul (suf (exx D x m T) (k+1)) e (fo (exx D x m T) (k+1) f w)
 | [],_,_,_,_,_=>rfl
 |a::w,hw,e,f,he,hf=>by have gE:=uG h hE hT (k:=k+1) (by omega);have G:=(zCA _ gE hc).toMon;have hg:=zCQ h hE hT (hw a (by simp)).1 (hw a (by simp)).2;rw[qB,qB,G.assoc he hf hg,zSQ (fun b hb=>hw b (by simp[hb])) he (G.cl hf hg)]
theorem zIs{w:List Nat}(hw:∀a∈w,k+1≤a∧a<x.zA.length){e:Vec}(he:V (suf (exx D x m T) (k+1)) e):fo (exx D x m T) (k+1) e w=mul (suf (exx D x m T) (k+1)) e (fo (exx D x m T) (k+1) (zeros ((exx D x m T).zA.length-(k+1))) w):=by rw[←zSQ h hE hT hk hc hw he (zNJ h hE hT (by omega)),zYl h hE hT (by omega) he]
def dm(p:Int)(D:Nat)(x:SPr)(m:zG)(T:Mx)(k:Nat):List Nat→Vec
 | []=>zeros D
 |l::ur=>adv p D (wG p D (dm p D x m T k ur) (wM p D m.zR (nw 0 (lcj x k l)) (idM D))) (T.getD (base x.zA.length k+(l-(k+1))) [])
 omit h hE hT hk hc in
theorem zNK(hp:2≤m.Prime):∀ur,Row m.Prime D (dm m.Prime D x m T k ur)
  | []=>xQ (by omega)
  |_::_=>sZ (by omega)
 omit h hE hT hk hc in
theorem zNL(hp:2≤m.Prime):∀(ur:List Nat)(z:List Nat),tv m.Prime D m T (mtr x k ur z)=wG m.Prime D (dm m.Prime D x m T k ur) (wM m.Prime D m.zR z (idM D))
  | [],z=>zAB.symm
  |l::ur,z=>by show adv m.Prime D _ (tv m.Prime D m T (mtr x k ur (nw 0 (lcj x k l)++z)))=wG m.Prime D (adv m.Prime D _ _) _;rw[zNL hp ur,zFb,zFc hp,tI]
theorem zSR:∀{ur:List Nat},(∀b∈ur,k+1≤b∧b<x.zA.length)→ur.reverse.foldl (fun acc j=>mul (suf (exx D x m T) (k+1)) acc ((lvl (exx D x m T) k).cs.getD (j-(k+1)) [])) (zeros ((exx D x m T).zA.length-(k+1)))=
  adK m.Prime D (x.zA.length-(k+1)) (fo (exx D x m T) (k+1) (zeros ((exx D x m T).zA.length-(k+1))) (cwd x k ur)) (dm m.Prime D x m T k ur)
 | [],_=>by have hp:=hE.m.p.pos;show zeros _=adK _ _ _ (zeros _) (zeros D);rw[zIp h hE hT (by omega),jX h hE hT (by omega) (zv h hE hT (by omega)),vY (xQ (by omega))]
 |l::ur,hu=>by
  have hp:=hE.m.p.pos;obtain⟨l1,l2⟩:=hu l (by simp);have eY:∀b∈ur,k+1≤b∧b<x.zA.length:=fun b hb=>hu b (by simp[hb])
  have gE:=uG h hE hT (k:=k+1) (by omega);have G:=(zCA _ gE hc).toMon;have hz:=zNJ h hE hT (k:=k+1) (by omega);have ph:=zKu h eY;have hF:=zQw h hE hT hk ph hz;have fK:=tT h (uB h (show k<l by omega) l2) hk;have gG:V (suf x (k+1)) ((lcj x k l).drop (k+1)):=jL (uB h (by omega) l2) hk;have bL:(lvl x k).cs.getD (l-(k+1)) []=(lcj x k l).drop (k+1):=map_drop;have ht:=zDG h hE hT (show k<l by omega) l2;have hd:=zNK (D:=D) (x:=x) (m:=m) (T:=T) (k:=k) (by omega) ur;have iL:=zIq h hE hT (x.zA.length-(k+1)) (k+1) (by omega) hc _ gG;have cO:=zD1 h hE hT (k:=k+1) (by omega) gG (xQ (p:=m.Prime) (D:=D) (by omega));rw[H2,Uj,zSR eY];show mul _ (adK _ _ _ _ _) ((lvl (exx D x m T) k).cs.getD (l-(k+1)) [])=_;rw[zIg h hE hT hk l1 l2,bL];have e1:(lcj x k l).drop (k+1)++T.getD (base x.zA.length k+(l-(k+1))) []=adK m.Prime D (x.zA.length-(k+1)) ((lcj x k l).drop (k+1)++zeros D) (T.getD (base x.zA.length k+(l-(k+1))) []):=by rw[jX h hE hT (by omega) gG,vY ht]
  have gJ:∀b∈nw (k+1) ((lcj x k l).drop (k+1)),k+1≤b∧b<x.zA.length:=fun b hb=>fK.2 b (by rw[fK.1];exact hb)
  have fb:=zYm h hE hT (k:=k+1) (by omega) hF (d:=dm m.Prime D x m T k ur);rw[e1,zMg h hE hT hk hc cO ht fb,←iL,←zIs h hE hT hk hc gJ fb,zSP h hE hT hk hc gJ hF hd,zWB h hE hT (by omega) (zQw h hE hT hk gJ hF),←zCP,←fK.1];rfl
theorem zPw{y:Vec}(hy:V (suf x (k+1)) y):sig (suf (exx D x m T) (k+1)) (lvl (exx D x m T) k) (y++zeros D)=adK m.Prime D (x.zA.length-(k+1)) (fo (exx D x m T) (k+1) (zeros ((exx D x m T).zA.length-(k+1))) (cwd x k (nw (k+1) y).reverse)) (dm m.Prime D x m T k (nw (k+1) y).reverse):=by have hp:=hE.m.p.pos;have ej:=wZ h (by omega) hy;have gJ:=zPv h (show k+1≤x.zA.length by omega) hy;rw[←zSR h hE hT hk hc fun b hb=>gJ b (by simpa using hb),Ks,zBY h hE hT hk hy (xQ (by omega)),zAB];obtain⟨y1,u1,e,fy,fO⟩:=(sK h hE hT (x.zA.length-(k+1)) (k+1) (by omega) _).1 (zIe h hE hT hk (y:=y));have gL:=wZ h (by omega) fy;rw[e,Jn gL,K5 gL,zAA fO,←e];unfold sgG;rw[yQ];refine zIo _ (fun j=>(lvl (exx D x m T) k).cs.getD (j-(k+1)) []) [] _ _ _ _ (fun j hj=>?_) (by rw[uV h hE hT];omega);rw[uV h hE hT]at hj;rw[show k+1+j-(k+1)=j from by omega,zBX h hE hT hk,J2,J2,Jm (by rw[uV h hE hT];exact hj)]
end
end Go.Pl

namespace Go.Pl
open Go Go.Ab Go.Wk Go.Pc
section
variable {x:SPr} (h:Pres x)
 include h
theorem zMi{D:Nat}{m:zG}{T:Mx}(hE:ExB x.zA.length D x m T)(hT:∀i,i<T.length→Row m.Prime D (T.getD i [])){k:Nat}(hk:k≤x.zA.length)(hc:wR (suf (exx D x m T) k)):wR (suf (exx D x m T) (k+1)):=by have hl:=wJ h hE hT;have:=hE.m.d1;rw[yG (x:=exx D x m T) (by omega)]at hc;exact hc.1
structure qJ (x:SPr) (k:Nat) (z:List Nat) (tr:List (Nat×List Nat)) (y:Vec):Prop where
 col:Col x k z tr (nw k y)
 v:V (suf x k) y
 val:∀(D:Nat)(m:zG)(T:Mx),ExB x.zA.length D x m T→(∀i,i<T.length→Row m.Prime D (T.getD i []))→wR (suf (exx D x m T) (k+1))→fo (exx D x m T) k (zeros ((exx D x m T).zA.length-k)) z=y++tv m.Prime D m T tr
theorem zPx{k:Nat}(hk:k<x.zA.length)(P:∀v:List Nat,(∀a∈v,k+1≤a∧a<x.zA.length)→ ∃tr y,qJ x (k+1) v tr y):∀(z:List Nat),(∀a∈z,k≤a∧a<x.zA.length)→ ∀(a:Nat),a<yH x k→ ∀(v:List Nat),(∀a∈v,k+1≤a∧a<x.zA.length)→
  ∃tr y,Col x k (J1 a k++(v++z)) tr (nw k y)∧V (suf x k) y∧ ∀(D:Nat)(m:zG)(T:Mx),ExB x.zA.length D x m T→(∀i,i<T.length→Row m.Prime D (T.getD i []))→wR (suf (exx D x m T) (k+1))→
   fo (exx D x m T) k ((a:Int)::fo (exx D x m T) (k+1) (zeros ((exx D x m T).zA.length-(k+1))) v) z=y++tv m.Prime D m T tr
 | [],_,a,ha,v,hv=>by
  obtain⟨tr,y,c1,c2,c3⟩:=P v hv;have hc:=Col.ctx h hk ha (s:=[]) (fun b hb=>by simp at hb) c1;rw[show(fun q:Nat×List Nat=>(q.1,q.2++[]))=id from by funext q;simp,List.map_id,J9,J9]at hc;refine⟨tr,(a:Int)::y,?_,?_,fun D m T hE hT hc=>?_⟩
  ·simp only[nw,Je];rw[J9];exact hc
  ·rw[yG hk]
   refine⟨⟨by omega,?_⟩,c2⟩;show(a:Int)<at0 x.zA k;have:a<(at0 x.zA k).toNat:=ha;omega
  ·rw[c3 D m T hE hT (zMi h hE hT (by omega) hc)];rfl
 |l::z,hz,a,ha,v,hv=>by
  have eS:∀b∈z,k≤b∧b<x.zA.length:=fun b hb=>hz b (by simp[hb])
  obtain⟨l1,l2⟩:=hz l (by simp);have my:(a:Int)<at0 x.zA k:=by have:a<(at0 x.zA k).toNat:=ha;omega
  rcases Jk k l with g|g
  ·obtain⟨tr,y,c1,c2,c3⟩:=zPx hk P z eS a ha (v++[l]) (fun b hb=>by
    simp only[Jj,List.mem_singleton]at hb;rcases hb with hb|rfl
    ·exact hv b hb
    ·omega)
   refine⟨tr,y,by rw[Ja]at c1;exact c1,c2,fun D m T hE hT hc=>?_⟩;rw[←c3 D m T hE hT hc,qB,zMh h hE hT hk hc g l2 my,zCP];rfl
  ·obtain rfl:l=k:=by omega
   obtain⟨tr1,y1,c1,c2,c3⟩:=P v hv;have gJ:=zPv h (show l+1≤x.zA.length by omega) c2;have p7:∀b∈(nw (l+1) y1).reverse,l+1≤b∧b<x.zA.length:=fun b hb=>gJ b (by simpa using hb)
   have k1:=Col.ctx h hk ha (s:=l::z) hz c1;have k2:=Col.move h hk ha p7 (by rw[Ks];exact zFW h _ _ (by omega:l+1+(x.zA.length-(l+1))=x.zA.length) y1 c2) eS;rw[Ks]at k2;have ph:=zKu h p7;have val:∀(D:Nat)(m:zG)(T:Mx)(hE:ExB x.zA.length D x m T)(hT:∀i,i<T.length→Row m.Prime D (T.getD i []))(hc:wR (suf (exx D x m T) (l+1))),
     fo (exx D x m T) l ((a:Int)::fo (exx D x m T) (l+1) (zeros ((exx D x m T).zA.length-(l+1))) v) (l::z)=adK m.Prime D (x.zA.length-l) (fo (exx D x m T) l (mul (suf (exx D x m T) l) ((a:Int)::(y1++zeros D)) (xN ((exx D x m T).zA.length-l) (l-l))) z) (tv m.Prime D m T (tr1.map fun q=>(q.1,q.2++l::z))):=by
    intro D m T hE hT hc;have hp:=hE.m.p.pos;have ht:=zKs (D:=D) (m:=m) (T:=T) (p:=m.Prime) (by omega) tr1;have aj:=zD1 h hE hT (k:=l+1) (by omega) c2 (xQ (p:=m.Prime) (D:=D) (by omega));have dv:V (suf (exx D x m T) l) ((a:Int)::(y1++zeros D)):=by rw[yG (x:=exx D x m T) (by rw[wJ h hE hT];omega)];refine⟨⟨by omega,?_⟩,aj⟩;show(a:Int)<at0 (exx D x m T).zA l;rw[tC h hE hT hk];exact my
    rw[c3 D m T hE hT (zMi h hE hT (by omega) hc),show y1++tv m.Prime D m T tr1=adK m.Prime D (x.zA.length-(l+1)) (y1++zeros D) (tv m.Prime D m T tr1)from by rw[jX h hE hT (by omega) c2,vY ht],←zAS h hE hT hk,zPu h hE hT hk hc hz dv ht,zSN (by omega)];rfl
   have foV:∀(D:Nat)(m:zG)(T:Mx)(hE:ExB x.zA.length D x m T)(hT:∀i,i<T.length→Row m.Prime D (T.getD i []))(_hc:wR (suf (exx D x m T) (l+1))),V (suf (exx D x m T) (l+1)) (fo (exx D x m T) (l+1) (zeros ((exx D x m T).zA.length-(l+1))) (cwd x l (nw (l+1) y1).reverse)):=fun D m T hE hT _hc=>zQw h hE hT hk ph (zNJ h hE hT (by omega))
   rcases Jk (a+1) (yH x l)with g2|g2
   ·obtain⟨tr2,y2,d1,d2,d3⟩:=zPx hk P z eS (a+1) g2 (cwd x l (nw (l+1) y1).reverse) ph
    refine⟨_,y2,k1.trans (k2.trans d1),d2,fun D m T hE hT hc=>?_⟩;have hp:=hE.m.p.pos;have aj:=zD1 h hE hT (k:=l+1) (by omega) c2 (xQ (p:=m.Prime) (D:=D) (by omega));have g3:(a:Int)+1<at0 x.zA l:=by have:a+1<(at0 x.zA l).toNat:=g2;omega
    have hF:=foV D m T hE hT hc;have dv:V (suf (exx D x m T) l) (((a:Int)+1)::fo (exx D x m T) (l+1) (zeros ((exx D x m T).zA.length-(l+1))) (cwd x l (nw (l+1) y1).reverse)):=by rw[yG (x:=exx D x m T) (by rw[wJ h hE hT];omega)];refine⟨⟨by omega,?_⟩,hF⟩;show(a:Int)+1<at0 (exx D x m T).zA l;rw[tC h hE hT hk];exact g3
    have hd:=zNK (D:=D) (x:=x) (m:=m) (T:=T) (k:=l) (by omega) (nw (l+1) y1).reverse;have d3':=d3 D m T hE hT hc;rw[show(((a+1:Nat):Int))=(a:Int)+1 from by omega]at d3';rw[val D m T hE hT hc,zGv h hE hT hk hc aj,if_neg (by omega),zPw h hE hT hk hc c2,←zAS h hE hT hk,zPu h hE hT hk hc eS dv hd,d3',jX h hE hT (by omega) d2,jX h hE hT (by omega) d2,←zNL (by omega),zIn (by omega),zIn (by omega),tI,tI (u:=tv m.Prime D m T tr2)]
   ·have g4:a+1=yH x l:=by omega
    have pg:=qT h hk;have pO:=tT h pg hk;have dB:∀b∈nw 0 (x.zT.getD l [])++cwd x l (nw (l+1) y1).reverse,l+1≤b∧b<x.zA.length:=fun b hb=>by
     simp only[Jj]at hb;rcases hb with hb|hb
     ·exact pO.2 b hb
     ·exact ph b hb
    obtain⟨tr2,y2,d1,d2,d3⟩:=zPx hk P z eS 0 (by omega) _ dB;rw[Hh,Ji,Ja]at d1;have k3:Col x l (J1 (a+1) l++(cwd x l (nw (l+1) y1).reverse++z)) ((l,cwd x l (nw (l+1) y1).reverse++z)::tr2) (nw l y2):=by
     refine .step (fun b hb=>?_) (by rw[g4];exact zWA (zKt h hk) _) d1;simp only[Jj]at hb;rcases hb with hb|hb|hb
     ·have:=Jt hb;omega
     ·have:=ph b hb;omega
     ·exact eS b hb
    refine⟨_,y2,k1.trans (k2.trans k3),d2,fun D m T hE hT hc=>?_⟩;have hp:=hE.m.p.pos;have aj:=zD1 h hE hT (k:=l+1) (by omega) c2 (xQ (p:=m.Prime) (D:=D) (by omega));have g3:(a:Int)+1=at0 x.zA l:=by have:a+1=(at0 x.zA l).toNat:=g4;omega
    have hF:=foV D m T hE hT hc;have hd:=zNK (D:=D) (x:=x) (m:=m) (T:=T) (k:=l) (by omega) (nw (l+1) y1).reverse;have ex:=zBZ h hE hT hk;have cC:V (suf x (l+1)) ((x.zT.getD l []).drop (l+1)):=jL pg hk;have pm:=zD1 h hE hT (k:=l+1) (by omega) cC (xQ (p:=m.Prime) (D:=D) (by omega));have hw:(lvl (exx D x m T) l).w=adK m.Prime D (x.zA.length-(l+1)) ((x.zT.getD l []).drop (l+1)++zeros D) (T.getD l []):=by rw[zIc h hE hT hk,jX h hE hT (by omega) cC,vY ex];rfl
    have fZ:=zQv h hE hT hk;have hFw:=zQw h hE hT hk dB (zNJ h hE hT (by omega));have em:mul (suf (exx D x m T) (l+1)) (lvl (exx D x m T) l).w (fo (exx D x m T) (l+1) (zeros ((exx D x m T).zA.length-(l+1))) (cwd x l (nw (l+1) y1).reverse))=adK m.Prime D (x.zA.length-(l+1)) (fo (exx D x m T) (l+1) (zeros ((exx D x m T).zA.length-(l+1))) (nw 0 (x.zT.getD l [])++cwd x l (nw (l+1) y1).reverse)) (wG m.Prime D (T.getD l []) (wM m.Prime D m.zR (cwd x l (nw (l+1) y1).reverse) (idM D))):=by rw[←zIs h hE hT hk hc ph fZ,hw,zSP h hE hT hk hc ph pm ex,←zIq h hE hT _ (l+1) (by omega:l+1+(x.zA.length-(l+1))=x.zA.length) hc _ cC,←zCP,←pO.1]
    have dv:V (suf (exx D x m T) l) ((0:Int)::fo (exx D x m T) (l+1) (zeros ((exx D x m T).zA.length-(l+1))) (nw 0 (x.zT.getD l [])++cwd x l (nw (l+1) y1).reverse)):=by rw[yG (x:=exx D x m T) (by rw[wJ h hE hT];omega)];refine⟨⟨by omega,?_⟩,hFw⟩;show(0:Int)<at0 (exx D x m T).zA l;rw[tC h hE hT hk];omega
    have d3':=d3 D m T hE hT hc;rw[show(((0:Nat):Int))=0 from rfl]at d3';rw[val D m T hE hT hc,zGv h hE hT hk hc aj,if_pos (by omega),zPw h hE hT hk hc c2,zMg h hE hT hk hc hF hd fZ,em,zWB h hE hT (by omega) hFw,g3,Int.sub_self,←zAS h hE hT hk,zPu h hE hT hk hc eS dv (sZ (by omega)),d3',jX h hE hT (by omega) d2,jX h hE hT (by omega) d2,zFb,←zNL (by omega),←zFc (by omega),zIn (by omega),zIn (by omega)];show y2++adv m.Prime D (adv m.Prime D (tv m.Prime D m T tr2) (adv m.Prime D _ _)) _=y2++adv m.Prime D _ (adv m.Prime D _ (adv m.Prime D _ (tv m.Prime D m T tr2)));rw[tI,tI (u:=tv m.Prime D m T tr2),tI (u:=wG m.Prime D (T.getD l []) _),zDq]
theorem zVr:∀(d k:Nat),k+d=x.zA.length→ ∀z:List Nat,(∀a∈z,k≤a∧a<x.zA.length)→ ∃tr y,qJ x k z tr y
 |0,k,hk,z,hz=>by
  have:z=[]:=by
   cases z with
   |nil=>rfl
   |cons a z=>have:=hz a (by simp);omega
  subst this;refine⟨[],[],.refl _,by rw[vV (x:=x) (k:=k) (by omega)];rfl,fun D m T hE hT _=>?_⟩;show zeros _=[]++zeros D;rw[zIp h hE hT (by omega),show x.zA.length-k=0 from by omega];rfl
 |d+1,k,hk,z,hz=>by have ho:=zKt h (show k<x.zA.length by omega);obtain⟨tr,y,c1,c2,c3⟩:=zPx h (show k<x.zA.length by omega) (zVr d (k+1) (by omega)) z hz 0 (by omega) [] (fun b hb=>by simp at hb);refine⟨tr,y,by simpa using c1,c2,fun D m T hE hT hc=>?_⟩;rw[←c3 D m T hE hT hc];have hl:=wJ h hE hT;rw[show(exx D x m T).zA.length-k=(exx D x m T).zA.length-(k+1)+1 from by omega];rfl
end
end Go.Pl

namespace Go.Pl
open Go Go.Ab Go.Wk Go.Pc
section
variable {D:Nat}{x:SPr}{m:zG}{T:Mx} (h:Pres x) (hE:ExB x.zA.length D x m T) (hT:∀i,i<T.length→Row m.Prime D (T.getD i []))
 include h hE hT
variable {k:Nat} (hk:k<x.zA.length) (hc:wR (suf (exx D x m T) (k+1)))
 include hk hc
theorem zGJ{w1 w2:List Nat}{t1 t2:List (Nat×List Nat)}{y1 y2:Vec}(k1:qJ x k w1 t1 y1)(k2:qJ x k w2 t2 y2){r1 r2:Nat}{s1 s2:List Nat}{b:Int}{A1 A2:Vec}(hA1:V (suf (exx D x m T) (k+1)) A1)(hA2:V (suf (exx D x m T) (k+1)) A2)
  (v1:fo (exx D x m T) k (zeros ((exx D x m T).zA.length-k)) w1=b::A1)(v2:fo (exx D x m T) k (zeros ((exx D x m T).zA.length-k)) w2=b::A2)
  (ex:(adK m.Prime D (x.zA.length-(k+1)) A1 (wG m.Prime D (T.getD r1 []) (wM m.Prime D m.zR s1 (idM D)))).take (x.zA.length-(k+1))=(adK m.Prime D (x.zA.length-(k+1)) A2 (wG m.Prime D (T.getD r2 []) (wM m.Prime D m.zR s2 (idM D)))).take (x.zA.length-(k+1))):
  tv m.Prime D m T ((r1,s1)::t1)=tv m.Prime D m T ((r2,s2)::t2)↔adK m.Prime D (x.zA.length-(k+1)) A1 (wG m.Prime D (T.getD r1 []) (wM m.Prime D m.zR s1 (idM D)))=adK m.Prime D (x.zA.length-(k+1)) A2 (wG m.Prime D (T.getD r2 []) (wM m.Prime D m.zR s2 (idM D))):=by
 have _:=hA1;have _:=hA2;have key:∀(w:List Nat)(t:List (Nat×List Nat))(y:Vec)(A:Vec)(r:Nat)(s:List Nat),qJ x k w t y→fo (exx D x m T) k (zeros ((exx D x m T).zA.length-k)) w=b::A→
   b::adK m.Prime D (x.zA.length-(k+1)) A (wG m.Prime D (T.getD r []) (wM m.Prime D m.zR s (idM D)))=y++tv m.Prime D m T ((r,s)::t):=by
  intro w t y A r s kc v;rw[←zAS h hE hT hk,←v,kc.val D m T hE hT hc,jX h hE hT (by omega) kc.v,tI];rfl
 have e1:=key w1 t1 y1 A1 r1 s1 k1 v1;have e2:=key w2 t2 y2 A2 r2 s2 k2 v2;have l1:=wZ h (by omega) k1.v;have l2:=wZ h (by omega) k2.v;have hy:y1=y2:=by have a1:=congrArg (Jbq (x.zA.length-(k+1)+1)) e1;have a2:=congrArg (Jbq (x.zA.length-(k+1)+1)) e2;rw[Kb,Jn (by omega)]at a1 a2;rw[←a1,←a2,ex]
 subst hy;constructor
 ·intro g
  rw[g,←e2]at e1;exact(Qs.inj e1).2
 ·intro g
  rw[g,e2]at e1;exact(List.append_cancel_left e1).symm
theorem zEo{v:List Nat}(hv:∀a∈v,k+1≤a∧a<x.zA.length){z:List Nat}:fo (exx D x m T) k (zeros ((exx D x m T).zA.length-k)) (v++k::z)=fo (exx D x m T) k ((1:Int)::sig (suf (exx D x m T) (k+1)) (lvl (exx D x m T) k) (fo (exx D x m T) (k+1) (zeros ((exx D x m T).zA.length-(k+1))) v)) z:=by
 have ho:=(h.os.2 k hk).pos;have hl:=wJ h hE hT;have hF:=zQw h hE hT hk hv (zNJ h hE hT (by omega));rw[show zeros ((exx D x m T).zA.length-k)=0::zeros ((exx D x m T).zA.length-(k+1))from by rw[show(exx D x m T).zA.length-k=(exx D x m T).zA.length-(k+1)+1 from by omega];rfl,zCP,zIr h hE hT hk hc (by omega) v _ hv,qB,zGv h hE hT hk hc hF,if_neg (by omega)];rfl
 omit hc in
theorem zFd{y:Vec}(hy:V (suf x (k+1)) y):sig (suf (exx D x m T) (k+1)) (lvl (exx D x m T) k) (y++zeros D)=(nw (k+1) y).foldl (fun acc j=>mul (suf (exx D x m T) (k+1)) acc ((lvl (exx D x m T) k).cs.getD (j-(k+1)) [])) (zeros ((exx D x m T).zA.length-(k+1))):=by
  have hp:=hE.m.p.pos;have ej:=wZ h (by omega) hy;rw[zBY h hE hT hk hy (xQ (by omega)),zAB];obtain⟨y1,u1,e,fy,fO⟩:=(sK h hE hT (x.zA.length-(k+1)) (k+1) (by omega) _).1 (zIe h hE hT hk (y:=y));have gL:=wZ h (by omega) fy;rw[e,Jn gL,K5 gL,zAA fO,←e];unfold sgG;rw[yQ];refine zIo _ (fun j=>(lvl (exx D x m T) k).cs.getD (j-(k+1)) []) [] _ _ _ _ (fun j hj=>?_) (by rw[uV h hE hT];omega);rw[uV h hE hT]at hj;rw[show k+1+j-(k+1)=j from by omega,zBX h hE hT hk,J2,J2,Jm (by rw[uV h hE hT];exact hj)]
 omit hc in
theorem zMj{j:Nat}(h1:k+1≤j)(h2:j<x.zA.length):V (suf (exx D x m T) (k+1)) ((lvl (exx D x m T) k).cs.getD (j-(k+1)) []):=by have gG:V (suf x (k+1)) ((lcj x k j).drop (k+1)):=jL (uB h (by omega) h2) hk;rw[zIg h hE hT hk h1 h2,show(lvl x k).cs.getD (j-(k+1)) []=(lcj x k j).drop (k+1)from map_drop];exact zD1 h hE hT (by omega) gG (zDG h hE hT (by omega) h2)
theorem zMk:∀{v:List Nat},(∀a∈v,k+1≤a∧a<x.zA.length)→ ∀{e f:Vec},V (suf (exx D x m T) (k+1)) e→V (suf (exx D x m T) (k+1)) f→v.foldl (fun acc j=>mul (suf (exx D x m T) (k+1)) acc ((lvl (exx D x m T) k).cs.getD (j-(k+1)) [])) (mul (suf (exx D x m T) (k+1)) e f)=mul (suf (exx D x m T) (k+1)) e (v.foldl (fun acc j=>mul (suf (exx D x m T) (k+1)) acc ((lvl (exx D x m T) k).cs.getD (j-(k+1)) [])) f)
 | [],_,_,_,_,_=>rfl
 |a::w,hw,e,f,he,hf=>by have gE:=uG h hE hT (k:=k+1) (by omega);have G:=(zCA _ gE hc).toMon;have hg:=zMj h hE hT hk (hw a (by simp)).1 (hw a (by simp)).2;simp only[U2];rw[G.assoc he hf hg,zMk (fun b hb=>hw b (by simp[hb])) he (G.cl hf hg)]
theorem csE{j:Nat}(h1:k+1≤j)(h2:j<x.zA.length):V (suf x (k+1)) ((lcj x k j).drop (k+1))∧(lvl (exx D x m T) k).cs.getD (j-(k+1)) []=adK m.Prime D (x.zA.length-(k+1)) ((lcj x k j).drop (k+1)++zeros D) (T.getD (base x.zA.length k+(j-(k+1))) [])∧
  fo (exx D x m T) (k+1) (zeros ((exx D x m T).zA.length-(k+1))) (nw 0 (lcj x k j))=(lcj x k j).drop (k+1)++zeros D∧(∀a∈nw 0 (lcj x k j),k+1≤a∧a<x.zA.length):=by
 have gG:V (suf x (k+1)) ((lcj x k j).drop (k+1)):=jL (uB h (by omega) h2) hk;have fK:=tT h (uB h (show k<j by omega) h2) hk;refine⟨gG,?_,?_,fK.2⟩
 ·rw[zIg h hE hT hk h1 h2,show(lvl x k).cs.getD (j-(k+1)) []=(lcj x k j).drop (k+1)from map_drop,jX h hE hT (by omega) gG,vY (zDG h hE hT (by omega) h2)]
 ·rw[fK.1];exact zIq h hE hT _ (k+1) (by omega:k+1+(x.zA.length-(k+1))=x.zA.length) hc _ gG
theorem wE:V (suf x (k+1)) ((x.zT.getD k []).drop (k+1))∧(lvl (exx D x m T) k).w=adK m.Prime D (x.zA.length-(k+1)) ((x.zT.getD k []).drop (k+1)++zeros D) (T.getD k [])∧
  fo (exx D x m T) (k+1) (zeros ((exx D x m T).zA.length-(k+1))) (nw 0 (x.zT.getD k []))=(x.zT.getD k []).drop (k+1)++zeros D∧(∀a∈nw 0 (x.zT.getD k []),k+1≤a∧a<x.zA.length):=by
 have cC:V (suf x (k+1)) ((x.zT.getD k []).drop (k+1)):=jL (qT h hk) hk;have pO:=tT h (qT h hk) hk;refine⟨cC,?_,?_,pO.2⟩
 ·rw[zIc h hE hT hk,jX h hE hT (by omega) cC,vY (zBZ h hE hT hk)];rfl
 ·rw[pO.1];exact zIq h hE hT _ (k+1) (by omega:k+1+(x.zA.length-(k+1))=x.zA.length) hc _ cC
 omit hc in
theorem zKv{a:Nat}(ha:a<x.zA.length):wM m.Prime D m.zR [a] (idM D)=m.zR.getD a []:=by have _:=h;have _:=hT;have _:=hk;show PM m.Prime D (idM D) (m.zR.getD a [])=_;exact zEK (hE.m.mat a ha)
theorem zWE(hL:LC x k){t1 t2:List (Nat×List Nat)}{y1 y2:Vec}(k1:qJ x k (nw 0 (x.zT.getD k [])++[k]) t1 y1)(k2:qJ x k (k::nw 0 (x.zT.getD k [])) t2 y2):
  tv m.Prime D m T ((k,[k])::t1)=tv m.Prime D m T ((k,[])::t2)↔sig (suf (exx D x m T) (k+1)) (lvl (exx D x m T) k) (lvl (exx D x m T) k).w=(lvl (exx D x m T) k).w:=by
 have hp:=hE.m.p.pos;have ho:=(h.os.2 k hk).pos;obtain⟨w1,w2,w3,w4⟩:=wE h hE hT hk hc;have ex:=zBZ h hE hT hk;have pm:=zD1 h hE hT (k:=k+1) (by omega) w1 (xQ (p:=m.Prime) (D:=D) (by omega));have fZ:=zQv h hE hT hk;have v1:=zEo h hE hT hk hc w4 (z:=[]);rw[w3]at v1;have v2:=zEo h hE hT hk hc (v:=[]) (fun a ha=>by simp at ha) (z:=nw 0 (x.zT.getD k []));have hz:fo (exx D x m T) (k+1) (zeros ((exx D x m T).zA.length-(k+1))) []=zeros ((exx D x m T).zA.length-(k+1)):=rfl;have hs:sig (suf (exx D x m T) (k+1)) (lvl (exx D x m T) k) (zeros ((exx D x m T).zA.length-(k+1)))=zeros ((exx D x m T).zA.length-(k+1)):=by unfold sig;rw[sW,yQ]
 rw[hz,hs,zIr h hE hT hk hc (by omega) _ _ w4,w3]at v2;have e1:adK m.Prime D (x.zA.length-(k+1)) (sig (suf (exx D x m T) (k+1)) (lvl (exx D x m T) k) ((x.zT.getD k []).drop (k+1)++zeros D)) (wG m.Prime D (T.getD k []) (wM m.Prime D m.zR [k] (idM D)))=sig (suf (exx D x m T) (k+1)) (lvl (exx D x m T) k) (lvl (exx D x m T) k).w:=by rw[zKv h hE hT hk hk,w2,zIm h hE hT hk pm ex]
 have e2:adK m.Prime D (x.zA.length-(k+1)) ((x.zT.getD k []).drop (k+1)++zeros D) (wG m.Prime D (T.getD k []) (wM m.Prime D m.zR [] (idM D)))=(lvl (exx D x m T) k).w:=by rw[show wM m.Prime D m.zR [] (idM D)=idM D from rfl,jH ex,w2]
 have:=zGJ h hE hT hk hc k1 k2 (r1:=k) (r2:=k) (s1:=[k]) (s2:=[]) (zAC h hE hT hk pm) pm v1 v2 (by rw[e1,e2,zEl h hE hT hk fZ,zIc h hE hT hk,Jn (by have:=wZ h (by omega) w1;exact this)];exact hL.c3)
 rw[e1,e2]at this;exact this
end
end Go.Pl

namespace Go.Pl
open Go Go.Ab Go.Wk Go.Pc
theorem zWF:∀(a o:Nat)(b:Int)(c:Vec),nw o (zeros a++b::c)=J1 b.toNat (o+a)++nw (o+a+1) c
 |0,o,b,c=>rfl
 |a+1,o,b,c=>by rw[show zeros (a+1)++b::c=0::(zeros a++b::c)from rfl];simp only[nw,Hv,Hh,Ji];rw[zWF a (o+1) b c,show o+1+a=o+(a+1)from by omega]
theorem zKw{os v:List Int}{j k:Nat}(hv:Exp os v j)(hk:k≤j):Exp os v k:=⟨hv.1,fun i hi=>hv.2 i (by omega)⟩
section
variable {x:SPr} (h:Pres x)
 include h
theorem zWG:∀(a k:Nat){b:Int}{c:Vec},k+a<x.zA.length→0≤b→b<at0 x.zA (k+a)→V (suf x (k+a+1)) c→V (suf x k) (zeros a++b::c)
 |0,k,b,c,ha,h0,h1,hc=>by rw[yG (x:=x) (by omega)];exact⟨⟨h0,h1⟩,hc⟩
 |a+1,k,b,c,ha,h0,h1,hc=>by
  have:=(h.os.2 k (by omega)).pos;rw[yG (x:=x) (by omega)];refine⟨⟨Int.le_refl 0,?_⟩,?_⟩
  ·show(0:Int)<at0 x.zA k
   omega
  ·exact zWG a (k+1) (by omega) h0 (by rwa [show k+1+a=k+(a+1)from by omega]) (by rwa [show k+1+a+1=k+(a+1)+1 from by omega])
end
section
variable {D:Nat}{x:SPr}{m:zG}{T:Mx} (h:Pres x) (hE:ExB x.zA.length D x m T) (hT:∀i,i<T.length→Row m.Prime D (T.getD i []))
 include h hE hT
variable {k:Nat} (hk:k<x.zA.length) (hc:wR (suf (exx D x m T) (k+1)))
 include hk hc
theorem zNM{j:Nat}(h1:k+1≤j)(h2:j<x.zA.length){b:Int}(h0:0≤b)(hb:b<at0 x.zA j){c:Vec}(pi:V (suf x (j+1)) c):V (suf x (k+1)) (zeros (j-(k+1))++b::c)∧nw (k+1) (zeros (j-(k+1))++b::c)=J1 b.toNat j++nw (j+1) c∧
  fo (exx D x m T) (k+1) (zeros ((exx D x m T).zA.length-(k+1))) (J1 b.toNat j++nw (j+1) c)=(zeros (j-(k+1))++b::c)++zeros D:=by
 have e:k+1+(j-(k+1))=j:=by omega
 have hv:V (suf x (k+1)) (zeros (j-(k+1))++b::c):=zWG h (j-(k+1)) (k+1) (by omega) h0 (by rwa [e]) (by rwa [e]);have hn:nw (k+1) (zeros (j-(k+1))++b::c)=J1 b.toNat j++nw (j+1) c:=by rw[zWF,e]
 refine⟨hv,hn,?_⟩;rw[←hn];exact zIq h hE hT _ (k+1) (by omega:k+1+(x.zA.length-(k+1))=x.zA.length) hc _ hv
theorem zPy{e:Vec}(he:V (suf (exx D x m T) (k+1)) e):mul (suf (exx D x m T) (k+1)) (zeros ((exx D x m T).zA.length-(k+1))) e=e:=by
 have G:=(zCA _ (uG h hE hT (k:=k+1) (by omega)) hc).toMon;have:=G.onel he
 rwa [yQ]at this
theorem zPz{j:Nat}(h1:k+1≤j)(h2:j<x.zA.length):fo (exx D x m T) (k+1) (zeros ((exx D x m T).zA.length-(k+1))) [j]=xN ((exx D x m T).zA.length-(k+1)) (j-(k+1))∧sig (suf (exx D x m T) (k+1)) (lvl (exx D x m T) k) (xN ((exx D x m T).zA.length-(k+1)) (j-(k+1)))=(lvl (exx D x m T) k).cs.getD (j-(k+1)) []:=by
 have ho:=(h.os.2 j h2).pos;have hz:V (suf x (j+1)) (zeros (x.zA.length-(j+1))):=by have:=wP (h.okAt (k:=j+1) (by omega));rwa [yQ]at this
 obtain⟨v1,v2,v3⟩:=zNM h hE hT hk hc h1 h2 (b:=1) (by omega) (by omega) hz;have hn:nw (j+1) (zeros (x.zA.length-(j+1)))=[]:=zCO _ _;rw[hn]at v2 v3;have hf:fo (exx D x m T) (k+1) (zeros ((exx D x m T).zA.length-(k+1))) [j]=xN ((exx D x m T).zA.length-(k+1)) (j-(k+1)):=zPy h hE hT hk hc (zCQ h hE hT h1 h2);refine⟨hf,?_⟩;rw[←hf];have v3':fo (exx D x m T) (k+1) (zeros ((exx D x m T).zA.length-(k+1))) [j]=_:=v3;rw[v3',zFd h hE hT hk v1,v2];exact zPy h hE hT hk hc (zMj h hE hT hk h1 h2)
theorem zWH(hL:LC x k){j:Nat}(h1:k+1≤j)(h2:j<x.zA.length){t1 t2:List (Nat×List Nat)}{y1 y2:Vec}(k1:qJ x k (nw 0 (x.zT.getD j [])++[k]) t1 y1)(k2:qJ x k (J1 (yH x j-1) j++k::nw 0 (lcj x k j)) t2 y2):
  tv m.Prime D m T ((j,[k])::t1)=tv m.Prime D m T ((base x.zA.length k+(j-(k+1)),[])::t2)↔c1E (exx D x m T) k j:=by
 have hp:=hE.m.p.pos;have ho:=(h.os.2 k hk).pos;have hj:=(h.os.2 j h2).pos;have pg:=zKw (qT h h2) (show k≤j by omega);have cC:V (suf x (k+1)) ((x.zT.getD j []).drop (k+1)):=jL pg hk;have pO:=tT h pg hk;have aF:=zBZ h hE hT h2;have pm:=zD1 h hE hT (k:=k+1) (by omega) cC (xQ (p:=m.Prime) (D:=D) (by omega));obtain⟨c1,c2,c3,c4⟩:=csE h hE hT hk hc h1 h2;have cO:=zD1 h hE hT (k:=k+1) (by omega) c1 (xQ (p:=m.Prime) (D:=D) (by omega));have hcV:=zMj h hE hT hk h1 h2;have ex:=zDG h hE hT (show k<j by omega) h2;have mz:V (suf x (j+1)) (zeros (x.zA.length-(j+1))):=by have:=wP (h.okAt (k:=j+1) (by omega));rwa [yQ]at this
 obtain⟨u1,u2,u3⟩:=zNM h hE hT hk hc h1 h2 (b:=at0 x.zA j-1) (by omega) (by omega) mz;rw[zCO,J9,show(at0 x.zA j-1).toNat=yH x j-1 from by show _=(at0 x.zA j).toNat-1;omega]at u2 u3;have gE:=uG h hE hT (k:=k+1) (by omega);have G:=(zCA _ gE hc).toMon;have v1:=zEo h hE hT hk hc pO.2 (z:=[]);rw[pO.1,zIq h hE hT _ (k+1) (by omega:k+1+(x.zA.length-(k+1))=x.zA.length) hc _ cC,←pO.1]at v1;have hr:∀a∈J1 (yH x j-1) j,k+1≤a∧a<x.zA.length:=fun a ha=>by have:=Jt ha;omega
 have v2:=zEo h hE hT hk hc hr (z:=nw 0 (lcj x k j));have ic:∀q(e:Vec),(J1 q j).foldl (fun acc j=>mul (suf (exx D x m T) (k+1)) acc ((lvl (exx D x m T) k).cs.getD (j-(k+1)) [])) e=iter q (fun v=>mul (suf (exx D x m T) (k+1)) v ((lvl (exx D x m T) k).cs.getD (j-(k+1)) [])) e:=by
  intro q
  induction q with
  |zero=>intro e;rfl
  |succ q ih=>intro e;rw[Jq,U2,ih];rfl
 have dJ:sig (suf (exx D x m T) (k+1)) (lvl (exx D x m T) k) (fo (exx D x m T) (k+1) (zeros ((exx D x m T).zA.length-(k+1))) (J1 (yH x j-1) j))=pw (mul (suf (exx D x m T) (k+1))) (zeros (suf (exx D x m T) (k+1)).length) ((lvl (exx D x m T) k).cs.getD (j-(k+1)) []) (yH x j-1):=by rw[u3,zFd h hE hT hk u1,u2,ic,yQ];rfl
 have io:V (suf (exx D x m T) (k+1)) (pw (mul (suf (exx D x m T) (k+1))) (zeros (suf (exx D x m T) (k+1)).length) ((lvl (exx D x m T) k).cs.getD (j-(k+1)) []) (yH x j-1)):=tN G hcV _;rw[dJ,zIr h hE hT hk hc (by omega) _ _ c4,zIs h hE hT hk hc c4 io,c3]at v2;have e1:adK m.Prime D (x.zA.length-(k+1)) (sig (suf (exx D x m T) (k+1)) (lvl (exx D x m T) k) ((x.zT.getD j []).drop (k+1)++zeros D)) (wG m.Prime D (T.getD j []) (wM m.Prime D m.zR [k] (idM D)))=sig (suf (exx D x m T) (k+1)) (lvl (exx D x m T) k) (((exx D x m T).zT.getD j []).drop (k+1)):=by rw[zKv h hE hT hk hk,zEj h hE hT (by omega) h2,←zIm h hE hT hk pm aF,jX h hE hT (by omega) cC,vY aF]
 have e2:adK m.Prime D (x.zA.length-(k+1)) (mul (suf (exx D x m T) (k+1)) (pw (mul (suf (exx D x m T) (k+1))) (zeros (suf (exx D x m T) (k+1)).length) ((lvl (exx D x m T) k).cs.getD (j-(k+1)) []) (yH x j-1)) ((lcj x k j).drop (k+1)++zeros D)) (wG m.Prime D (T.getD (base x.zA.length k+(j-(k+1))) []) (wM m.Prime D m.zR [] (idM D)))=pw (mul (suf (exx D x m T) (k+1))) (zeros (suf (exx D x m T) (k+1)).length) ((lvl (exx D x m T) k).cs.getD (j-(k+1)) []) (at0 (exx D x m T).zA j).toNat:=by
  rw[show wM m.Prime D m.zR [] (idM D)=idM D from rfl,jH ex,←zMg h hE hT hk hc cO ex io,←c2,tC h hE hT h2,show(at0 x.zA j).toNat=(yH x j-1)+1 from by show _=(at0 x.zA j).toNat-1+1;omega]
  conv=>rhs;rw[pw,wX]
  rfl
 have eu:V (suf (exx D x m T) (k+1)) (((exx D x m T).zT.getD j []).drop (k+1)):=by rw[zEj h hE hT (by omega) h2];exact zD1 h hE hT (by omega) cC aF
 have:=zGJ h hE hT hk hc k1 k2 (r1:=j) (r2:=base x.zA.length k+(j-(k+1))) (s1:=[k]) (s2:=[]) (zAC h hE hT hk pm) (xH gE io cO) v1 v2 (by rw[e1,e2,zEl h hE hT hk eu,zIk h hE hT hk (by omega) h2,zW9 h hE hT (by omega) hcV,zJr h hE hT hk h1 h2,tC h hE hT h2];exact(hL.c1 j h1 h2).symm)
 rw[e1,e2]at this;rw[this];exact eq_comm
theorem zWI(hL:LC x k){i j:Nat}(h1:k+1≤i)(gP:i<j)(h2:j<x.zA.length){t1 t2:List (Nat×List Nat)}{y1 y2:Vec}(k1:qJ x k (i::(nw 0 (lcj x i j)++[k])) t1 y1)(k2:qJ x k (j::k::nw 0 (lcj x k i)) t2 y2):
  tv m.Prime D m T ((base x.zA.length i+(j-(i+1)),[k])::t1)=tv m.Prime D m T ((base x.zA.length k+(i-(k+1)),[])::t2)↔c2E (exx D x m T) k i j:=by
 have hp:=hE.m.p.pos;have ho:=(h.os.2 k hk).pos;have hi:=(h.os.2 i (by omega)).pos;have bP:=uB h gP h2;have dR:=zKw bP (show k≤i by omega);have ab:V (suf x (k+1)) ((lcj x i j).drop (k+1)):=jL dR hk;have hci:V (suf x (i+1)) ((lcj x i j).drop (i+1)):=jL bP (by omega);have hn:=tT h dR hk;have hni:=tT h bP (by omega);have aG:=zDG h hE hT gP h2;have dX:=zD1 h hE hT (k:=k+1) (by omega) ab (xQ (p:=m.Prime) (D:=D) (by omega));obtain⟨c1,c2,c3,c4⟩:=csE h hE hT hk hc h1 (show i<x.zA.length by omega);have cO:=zD1 h hE hT (k:=k+1) (by omega) c1 (xQ (p:=m.Prime) (D:=D) (by omega));have cx:=zMj h hE hT hk h1 (show i<x.zA.length by omega);have ms:=zMj h hE hT hk (show k+1≤j by omega) h2;have ex:=zDG h hE hT (show k<i by omega) (show i<x.zA.length by omega);have gE:=uG h hE hT (k:=k+1) (by omega);obtain⟨u1,u2,u3⟩:=zNM h hE hT hk hc h1 (show i<x.zA.length by omega) (b:=1) (by omega) (by omega) hci;rw[←hni.1,show J1 (1:Int).toNat i++nw 0 (lcj x i j)=i::nw 0 (lcj x i j)from rfl]at u2 u3;have hr:∀a∈i::nw 0 (lcj x i j),k+1≤a∧a<x.zA.length:=fun a ha=>by
  simp only[Jc]at ha;rcases ha with rfl|ha
  ·omega
  ·exact hn.2 a ha
 have v1:=zEo h hE hT hk hc hr (z:=[]);have es:sig (suf (exx D x m T) (k+1)) (lvl (exx D x m T) k) (fo (exx D x m T) (k+1) (zeros ((exx D x m T).zA.length-(k+1))) (i::nw 0 (lcj x i j)))=mul (suf (exx D x m T) (k+1)) ((lvl (exx D x m T) k).cs.getD (i-(k+1)) []) (sig (suf (exx D x m T) (k+1)) (lvl (exx D x m T) k) ((lcj x i j).drop (k+1)++zeros D)):=by rw[u3,zFd h hE hT hk u1,u2,U2,zPy h hE hT hk hc cx,zFd h hE hT hk ab,←hn.1];have:=zMk h hE hT hk hc hn.2 cx (zNJ h hE hT (k:=k+1) (by omega));rw[zYl h hE hT (by omega) cx]at this;exact this
 rw[es]at v1;have v2:=zEo h hE hT hk hc (v:=[j]) (fun a ha=>by simp only[List.mem_singleton]at ha;omega) (z:=nw 0 (lcj x k i));obtain⟨g1,g2⟩:=zPz h hE hT hk hc (show k+1≤j by omega) h2;rw[g1,g2,zIr h hE hT hk hc (by omega) _ _ c4,zIs h hE hT hk hc c4 ms,c3]at v2;have pd:=zAC h hE hT hk dX;have eg:((((exx D x m T).zE.getD i []).getD (j-(i+1)) []).drop (k+1))=adK m.Prime D (x.zA.length-(k+1)) ((lcj x i j).drop (k+1)++zeros D) (T.getD (base x.zA.length i+(j-(i+1))) []):=by rw[zFT h hE hT (by omega) gP h2,jX h hE hT (by omega) ab,vY aG]
 have e1:adK m.Prime D (x.zA.length-(k+1)) (mul (suf (exx D x m T) (k+1)) ((lvl (exx D x m T) k).cs.getD (i-(k+1)) []) (sig (suf (exx D x m T) (k+1)) (lvl (exx D x m T) k) ((lcj x i j).drop (k+1)++zeros D))) (wG m.Prime D (T.getD (base x.zA.length i+(j-(i+1))) []) (wM m.Prime D m.zR [k] (idM D)))=mul (suf (exx D x m T) (k+1)) ((lvl (exx D x m T) k).cs.getD (i-(k+1)) []) (sig (suf (exx D x m T) (k+1)) (lvl (exx D x m T) k) ((((exx D x m T).zE.getD i []).getD (j-(i+1)) []).drop (k+1))):=by rw[zKv h hE hT hk hk,←zMg h hE hT hk hc pd (wY (by omega)) cx,←zIm h hE hT hk dX aG,←eg]
 have e2:adK m.Prime D (x.zA.length-(k+1)) (mul (suf (exx D x m T) (k+1)) ((lvl (exx D x m T) k).cs.getD (j-(k+1)) []) ((lcj x k i).drop (k+1)++zeros D)) (wG m.Prime D (T.getD (base x.zA.length k+(i-(k+1))) []) (wM m.Prime D m.zR [] (idM D)))=mul (suf (exx D x m T) (k+1)) ((lvl (exx D x m T) k).cs.getD (j-(k+1)) []) ((lvl (exx D x m T) k).cs.getD (i-(k+1)) []):=by rw[show wM m.Prime D m.zR [] (idM D)=idM D from rfl,jH ex,←zMg h hE hT hk hc cO ex ms,←c2]
 have dj:V (suf (exx D x m T) (k+1)) ((((exx D x m T).zE.getD i []).getD (j-(i+1)) []).drop (k+1)):=by rw[eg];exact zYm h hE hT (by omega) dX
 have:=zGJ h hE hT hk hc k1 k2 (r1:=base x.zA.length i+(j-(i+1))) (r2:=base x.zA.length k+(i-(k+1))) (s1:=[k]) (s2:=[]) (xH gE cx pd) (xH gE ms cO) v1 v2 (by rw[e1,e2,zCb h hE hT (by omega) cx (zAC h hE hT hk dj),zCb h hE hT (by omega) ms cx,zEl h hE hT hk dj,zJr h hE hT hk h1 (by omega),zJr h hE hT hk (by omega) h2,zSG h hE hT hk h1 gP h2];exact(hL.c2 i h1 (by omega) j (by omega) h2).symm)
 rw[e1,e2]at this;rw[this];exact eq_comm
end
end Go.Pl

namespace Go.Pl
open Go Go.Ab Go.Wk Go.Pc
section
variable {D:Nat}{x:SPr}{m:zG}{T:Mx} (h:Pres x) (hE:ExB x.zA.length D x m T) (hT:∀i,i<T.length→Row m.Prime D (T.getD i []))
 include h hE hT
variable {k:Nat} (hk:k<x.zA.length) (hc:wR (suf (exx D x m T) (k+1)))
 include hk hc
 omit hc in
theorem zNN:∀(q:Nat){e:Vec},V (suf (exx D x m T) (k+1)) e→V (suf (exx D x m T) (k+1)) (iter q (sig (suf (exx D x m T) (k+1)) (lvl (exx D x m T) k)) e)
  |0,_,he=>he
  |q+1,_,he=>zNN q (zAC h hE hT hk he)
 omit hc in
theorem zWJ:∀(q:Nat){e d:Vec},V (suf (exx D x m T) (k+1)) e→Row m.Prime D d→iter q (sig (suf (exx D x m T) (k+1)) (lvl (exx D x m T) k)) (adK m.Prime D (x.zA.length-(k+1)) e d)=adK m.Prime D (x.zA.length-(k+1)) (iter q (sig (suf (exx D x m T) (k+1)) (lvl (exx D x m T) k)) e) (wG m.Prime D d (wM m.Prime D m.zR (J1 q k) (idM D)))
  |0,e,d,_,hd=>by show adK _ _ _ e d=adK _ _ _ e (wG m.Prime D d (idM D));rw[jH hd]
  |q+1,e,d,he,hd=>by have hp:=hE.m.p.pos;show iter q _ (sig _ _ (adK _ _ _ e d))=adK _ _ _ (iter q _ (sig _ _ e)) _;rw[zIm h hE hT hk he hd,zWJ q (zAC h hE hT hk he) (wY (by omega)),Jq,show k::J1 q k=[k]++J1 q k from rfl,zFc (by omega),zKv h hE hT hk hk]
theorem zSS:∀(q:Nat){c:Int}{e:Vec},0≤c→c+(q:Int)<at0 x.zA k→V (suf (exx D x m T) (k+1)) e→fo (exx D x m T) k (c::e) (J1 q k)=(c+(q:Int))::iter q (sig (suf (exx D x m T) (k+1)) (lvl (exx D x m T) k)) e
 |0,c,e,_,_,_=>by
  show c::e=(c+((0:Nat):Int))::e
  congr 1;omega
 |q+1,c,e,h0,h1,he=>by
  rw[Jq,qB,zGv h hE hT hk hc he,if_neg (by omega),zSS q (by omega) (by omega) (zAC h hE hT hk he)];show(c+1+(q:Int))::iter q _ (sig _ _ e)=(c+((q+1:Nat):Int))::iter q _ (sig _ _ e)
  congr 1;omega
theorem zWK(hL:LC x k){j:Nat}(h1:k+1≤j)(h2:j<x.zA.length){t1 t2:List (Nat×List Nat)}{y1 y2:Vec}(k1:qJ x k (k::(nw 0 (lcj x k j)++J1 (yH x k-1) k)) t1 y1)(k2:qJ x k (j::nw 0 (x.zT.getD k [])) t2 y2):
  tv m.Prime D m T ((base x.zA.length k+(j-(k+1)),J1 (yH x k-1) k)::t1)=tv m.Prime D m T ((k,[])::t2)↔c4E (exx D x m T) k j:=by
 have hp:=hE.m.p.pos;have ho:=(h.os.2 k hk).pos;have hon:(yH x k:Int)=at0 x.zA k:=by show(((at0 x.zA k).toNat:Nat):Int)=_;omega
 obtain⟨w1,w2,w3,w4⟩:=wE h hE hT hk hc;have pm:=zD1 h hE hT (k:=k+1) (by omega) w1 (xQ (p:=m.Prime) (D:=D) (by omega));have fZ:=zQv h hE hT hk;have ex:=zBZ h hE hT hk;obtain⟨c1,c2,c3,c4⟩:=csE h hE hT hk hc h1 h2;have cO:=zD1 h hE hT (k:=k+1) (by omega) c1 (xQ (p:=m.Prime) (D:=D) (by omega));have aF:=zDG h hE hT (show k<j by omega) h2;have gE:=uG h hE hT (k:=k+1) (by omega);have hg:=zCQ h hE hT h1 h2;obtain⟨g1,g2⟩:=zPz h hE hT hk hc h1 h2;have hz:fo (exx D x m T) (k+1) (zeros ((exx D x m T).zA.length-(k+1))) []=zeros ((exx D x m T).zA.length-(k+1)):=rfl;have hs:sig (suf (exx D x m T) (k+1)) (lvl (exx D x m T) k) (zeros ((exx D x m T).zA.length-(k+1)))=zeros ((exx D x m T).zA.length-(k+1)):=by unfold sig;rw[sW,yQ]
 have hl:=wJ h hE hT;have v1:=zEo h hE hT hk hc (v:=[]) (fun a ha=>by simp at ha) (z:=nw 0 (lcj x k j)++J1 (yH x k-1) k);rw[hz,hs]at v1;have v0:=v1.trans (zCP (e:=exx D x m T) (k:=k) (u:=(1:Int)::zeros ((exx D x m T).zA.length-(k+1))) (v:=nw 0 (lcj x k j)) (w:=J1 (yH x k-1) k));rw[zIr h hE hT hk hc (by omega) _ _ c4,c3]at v0;have e6:=zNN h hE hT hk (yH x k-2) cO;have v1':fo (exx D x m T) k (zeros ((exx D x m T).zA.length-k)) (k::(nw 0 (lcj x k j)++J1 (yH x k-1) k))=0::mul (suf (exx D x m T) (k+1)) (lvl (exx D x m T) k).w (iter (yH x k-1) (sig (suf (exx D x m T) (k+1)) (lvl (exx D x m T) k)) ((lcj x k j).drop (k+1)++zeros D)):=by
  refine v0.trans ?_;rw[show yH x k-1=(yH x k-2)+1 from by omega,H6,zCP,zSS h hE hT hk hc (yH x k-2) (by omega) (by omega) cO];show mul _ _ _=_;rw[zGv h hE hT hk hc e6,if_pos (by omega),wX]
  congr 1;omega
 have hr:∀a∈j::nw 0 (x.zT.getD k []),k+1≤a∧a<x.zA.length:=fun a ha=>by
  simp only[Jc]at ha;rcases ha with rfl|ha
  ·omega
  ·exact w4 a ha
 have v2:fo (exx D x m T) k (zeros ((exx D x m T).zA.length-k)) (j::nw 0 (x.zT.getD k []))=0::mul (suf (exx D x m T) (k+1)) (xN ((exx D x m T).zA.length-(k+1)) (j-(k+1))) ((x.zT.getD k []).drop (k+1)++zeros D):=by rw[show zeros ((exx D x m T).zA.length-k)=0::zeros ((exx D x m T).zA.length-(k+1))from by rw[show(exx D x m T).zA.length-k=(exx D x m T).zA.length-(k+1)+1 from by omega];rfl,zIr h hE hT hk hc (by omega) _ _ hr,qB,zPy h hE hT hk hc hg,zIs h hE hT hk hc w4 hg,w3]
 have e1:adK m.Prime D (x.zA.length-(k+1)) (mul (suf (exx D x m T) (k+1)) (lvl (exx D x m T) k).w (iter (yH x k-1) (sig (suf (exx D x m T) (k+1)) (lvl (exx D x m T) k)) ((lcj x k j).drop (k+1)++zeros D))) (wG m.Prime D (T.getD (base x.zA.length k+(j-(k+1))) []) (wM m.Prime D m.zR (J1 (yH x k-1) k) (idM D)))=mul (suf (exx D x m T) (k+1)) (lvl (exx D x m T) k).w (iter (lvl (exx D x m T) k).o.toNat (sig (suf (exx D x m T) (k+1)) (lvl (exx D x m T) k)) (xN ((exx D x m T).zA.length-(k+1)) (j-(k+1)))):=by rw[←zMg h hE hT hk hc (zNN h hE hT hk _ cO) (wY (by omega)) fZ,←zWJ h hE hT hk _ cO aF,←c2,←g2,zB8 h hE hT hk,show(at0 x.zA k).toNat=(yH x k-1)+1 from by show _=(at0 x.zA k).toNat-1+1;omega];rfl
 have e2:adK m.Prime D (x.zA.length-(k+1)) (mul (suf (exx D x m T) (k+1)) (xN ((exx D x m T).zA.length-(k+1)) (j-(k+1))) ((x.zT.getD k []).drop (k+1)++zeros D)) (wG m.Prime D (T.getD k []) (wM m.Prime D m.zR [] (idM D)))=mul (suf (exx D x m T) (k+1)) (xN ((exx D x m T).zA.length-(k+1)) (j-(k+1))) (lvl (exx D x m T) k).w:=by rw[show wM m.Prime D m.zR [] (idM D)=idM D from rfl,jH ex,←zMg h hE hT hk hc pm ex hg,←w2]
 have ud:(lvl (exx D x m T) k).w.take (x.zA.length-(k+1))=(lvl x k).w:=zIk h hE hT hk (Jo k) hk;have f8:(xN (x.zA.length-(k+1)) (j-(k+1))).length=x.zA.length-(k+1):=by simp[xN,zeros]
 have:=zGJ h hE hT hk hc k1 k2 (r1:=base x.zA.length k+(j-(k+1))) (r2:=k) (s1:=J1 (yH x k-1) k) (s2:=[]) (xH gE fZ (zNN h hE hT hk _ cO)) (xH gE hg pm) v1' v2 (by rw[e1,e2,zCb h hE hT (by omega) fZ (zNN h hE hT hk _ hg),zCb h hE hT (by omega) hg fZ,zKo h hE hT hk _ hg,ud,zSH h hE hT hk h1 h2,Jn f8,zB8 h hE hT hk];exact hL.c4 j h1 h2)
 rw[e1,e2]at this;exact this
end
structure zKx (x:SPr) (k:Nat) (r1:Nat) (s1 w1:List Nat) (r2:Nat) (s2 w2:List Nat) (t1 t2:List (Nat×List Nat)):Prop where
 a:∃u1 y1,t1=(r1,s1)::u1∧qJ x k w1 u1 y1
 b:∃u2 y2,t2=(r2,s2)::u2∧qJ x k w2 u2 y2
structure zWL (x:SPr) (D:Nat) (m:zG) (T:Mx):Prop where
 p1:∀k j,k<j→j<x.zA.length→ ∀t1 t2,zKx x k j [k] (nw 0 (x.zT.getD j [])++[k]) (base x.zA.length k+(j-(k+1))) [] (J1 (yH x j-1) j++k::nw 0 (lcj x k j)) t1 t2→tv m.Prime D m T t1=tv m.Prime D m T t2
 p2:∀k i j,k<i→i<j→j<x.zA.length→ ∀t1 t2,zKx x k (base x.zA.length i+(j-(i+1))) [k] (i::(nw 0 (lcj x i j)++[k])) (base x.zA.length k+(i-(k+1))) [] (j::k::nw 0 (lcj x k i)) t1 t2→tv m.Prime D m T t1=tv m.Prime D m T t2
 p3:∀k,k<x.zA.length→ ∀t1 t2,zKx x k k [k] (nw 0 (x.zT.getD k [])++[k]) k [] (k::nw 0 (x.zT.getD k [])) t1 t2→tv m.Prime D m T t1=tv m.Prime D m T t2
 p4:∀k j,k<j→j<x.zA.length→ ∀t1 t2,zKx x k (base x.zA.length k+(j-(k+1))) (J1 (yH x k-1) k) (k::(nw 0 (lcj x k j)++J1 (yH x k-1) k)) k [] (j::nw 0 (x.zT.getD k [])) t1 t2→tv m.Prime D m T t1=tv m.Prime D m T t2
end Go.Pl

namespace Go.Pl
open Go Go.Ab Go.Wk Go.Pc
section
variable {D:Nat}{x:SPr}{m:zG}{T:Mx} (h:Pres x) (hE:ExB x.zA.length D x m T) (hT:∀i,i<T.length→Row m.Prime D (T.getD i []))
 include h hE hT
theorem zJs{k:Nat}(hk:k<x.zA.length)(hL:LC x k)(hc:wR (suf (exx D x m T) (k+1))):LCn x (exx D x m T) k↔
  (∀j,k<j→j<x.zA.length→ ∀t1 t2,zKx x k j [k] (nw 0 (x.zT.getD j [])++[k]) (base x.zA.length k+(j-(k+1))) [] (J1 (yH x j-1) j++k::nw 0 (lcj x k j)) t1 t2→tv m.Prime D m T t1=tv m.Prime D m T t2)∧
  (∀i j,k<i→i<j→j<x.zA.length→ ∀t1 t2,zKx x k (base x.zA.length i+(j-(i+1))) [k] (i::(nw 0 (lcj x i j)++[k])) (base x.zA.length k+(i-(k+1))) [] (j::k::nw 0 (lcj x k i)) t1 t2→tv m.Prime D m T t1=tv m.Prime D m T t2)∧
  (∀t1 t2,zKx x k k [k] (nw 0 (x.zT.getD k [])++[k]) k [] (k::nw 0 (x.zT.getD k [])) t1 t2→tv m.Prime D m T t1=tv m.Prime D m T t2)∧
  (∀j,k<j→j<x.zA.length→ ∀t1 t2,zKx x k (base x.zA.length k+(j-(k+1))) (J1 (yH x k-1) k) (k::(nw 0 (lcj x k j)++J1 (yH x k-1) k)) k [] (j::nw 0 (x.zT.getD k [])) t1 t2→tv m.Prime D m T t1=tv m.Prime D m T t2):=by
 have hC:=fun(w:List Nat)(hw:∀a∈w,k≤a∧a<x.zA.length)=>zVr h (x.zA.length-k) k (by omega) w hw
 have eg:∀i j,i<j→j<x.zA.length→ ∀a∈nw 0 (lcj x i j),i+1≤a∧a<x.zA.length:=fun i j hi hj=>(tT h (uB h hi hj) (by omega)).2
 have eu:∀i,i<x.zA.length→ ∀a∈nw 0 (x.zT.getD i []),i+1≤a∧a<x.zA.length:=fun i hi=>(tT h (qT h hi) hi).2
 constructor
 ·intro g
  refine⟨?_,?_,?_,?_⟩
  ·rintro j h1 h2 t1 t2 ⟨⟨u1,y1,rfl,k1⟩,⟨u2,y2,rfl,k2⟩⟩
   exact(zWH h hE hT hk hc hL (by omega) h2 k1 k2).2 (g.c1 j (by omega) h2)
  ·rintro i j h1 gP h2 t1 t2 ⟨⟨u1,y1,rfl,k1⟩,⟨u2,y2,rfl,k2⟩⟩
   exact(zWI h hE hT hk hc hL (by omega) gP h2 k1 k2).2 (g.c2 i (by omega) (by omega) j (by omega) h2)
  ·rintro t1 t2 ⟨⟨u1,y1,rfl,k1⟩,⟨u2,y2,rfl,k2⟩⟩
   exact(zWE h hE hT hk hc hL k1 k2).2 g.c3
  ·rintro j h1 h2 t1 t2 ⟨⟨u1,y1,rfl,k1⟩,⟨u2,y2,rfl,k2⟩⟩
   exact(zWK h hE hT hk hc hL (by omega) h2 k1 k2).2 (g.c4 j (by omega) h2)
 ·rintro⟨g1,g2,g3,g4⟩
  refine⟨fun j h1 h2=>?_,fun i h1 hi j gP h2=>?_,?_,fun j h1 h2=>?_⟩
  ·obtain⟨u1,y1,k1⟩:=hC (nw 0 (x.zT.getD j [])++[k]) (fun a ha=>by
    simp only[Jj,List.mem_singleton]at ha;rcases ha with ha|rfl
    ·have:=eu j h2 a ha;omega
    ·omega)
   obtain⟨u2,y2,k2⟩:=hC (J1 (yH x j-1) j++k::nw 0 (lcj x k j)) (fun a ha=>by
    simp only[Jj,Jc]at ha;rcases ha with ha|rfl|ha
    ·have:=Jt ha;omega
    ·omega
    ·have:=eg k j (by omega) h2 a ha;omega)
   exact(zWH h hE hT hk hc hL h1 h2 k1 k2).1 (g1 j (by omega) h2 _ _ ⟨⟨u1,y1,rfl,k1⟩,⟨u2,y2,rfl,k2⟩⟩)
  ·obtain⟨u1,y1,k1⟩:=hC (i::(nw 0 (lcj x i j)++[k])) (fun a ha=>by
    simp only[Jj,Jc,Jb7,or_false]at ha;rcases ha with rfl|ha|rfl
    ·omega
    ·have:=eg i j (by omega) h2 a ha;omega
    ·omega)
   obtain⟨u2,y2,k2⟩:=hC (j::k::nw 0 (lcj x k i)) (fun a ha=>by
    simp only[Jc]at ha;rcases ha with rfl|rfl|ha
    ·omega
    ·omega
    ·have:=eg k i (by omega) hi a ha;omega)
   exact(zWI h hE hT hk hc hL h1 (by omega) h2 k1 k2).1 (g2 i j (by omega) (by omega) h2 _ _ ⟨⟨u1,y1,rfl,k1⟩,⟨u2,y2,rfl,k2⟩⟩)
  ·obtain⟨u1,y1,k1⟩:=hC (nw 0 (x.zT.getD k [])++[k]) (fun a ha=>by
    simp only[Jj,List.mem_singleton]at ha;rcases ha with ha|rfl
    ·have:=eu k hk a ha;omega
    ·omega)
   obtain⟨u2,y2,k2⟩:=hC (k::nw 0 (x.zT.getD k [])) (fun a ha=>by
    simp only[Jc]at ha;rcases ha with rfl|ha
    ·omega
    ·have:=eu k hk a ha;omega)
   exact(zWE h hE hT hk hc hL k1 k2).1 (g3 _ _ ⟨⟨u1,y1,rfl,k1⟩,⟨u2,y2,rfl,k2⟩⟩)
  ·obtain⟨u1,y1,k1⟩:=hC (k::(nw 0 (lcj x k j)++J1 (yH x k-1) k)) (fun a ha=>by
    simp only[Jj,Jc]at ha;rcases ha with rfl|ha|ha
    ·omega
    ·have:=eg k j (by omega) h2 a ha;omega
    ·have:=Jt ha;omega)
   obtain⟨u2,y2,k2⟩:=hC (j::nw 0 (x.zT.getD k [])) (fun a ha=>by
    simp only[Jc]at ha;rcases ha with rfl|ha
    ·omega
    ·have:=eu k hk a ha;omega)
   exact(zWK h hE hT hk hc hL h1 h2 k1 k2).1 (g4 j (by omega) h2 _ _ ⟨⟨u1,y1,rfl,k1⟩,⟨u2,y2,rfl,k2⟩⟩)
theorem zQx(hx:wR (suf x 0))(hr:zFK x m D):zWL x D m T↔wR (suf (exx D x m T) 0):=by
 have hl:=wJ h hE hT;have bL:∀k,k<x.zA.length→LC x k:=fun k hk=>((zA6 h.w hk).1 (zB1 hx k)).2
 constructor
 ·intro g
  have key:∀(d k:Nat),k+d=x.zA.length→wR (suf (exx D x m T) k):=by
   intro d
   induction d with
   |zero=>intro k hk;exact zIi h hE hT D k (by omega) (by omega)
   |succ d ih=>
    intro k hk;have hc:=ih (k+1) (by omega);refine(zA6 (zGF h hE hT) (by omega)).2 ⟨hc,zSB h hE hT hr (by omega) ((zJs h hE hT (by omega) (bL k (by omega)) hc).2 ⟨?_,?_,?_,?_⟩)⟩
    ·exact fun j h1 h2 t1 t2 b=>g.p1 k j h1 h2 t1 t2 b
    ·exact fun i j h1 gP h2 t1 t2 b=>g.p2 k i j h1 gP h2 t1 t2 b
    ·exact fun t1 t2 b=>g.p3 k (by omega) t1 t2 b
    ·exact fun j h1 h2 t1 t2 b=>g.p4 k j h1 h2 t1 t2 b
  exact key x.zA.length 0 (by omega)
 ·intro g
  have g0:=(zPq h hE hT hr).1 g;have hck:∀k,k<x.zA.length→wR (suf (exx D x m T) (k+1)):=fun k _=>zB1 g (k+1)
  have key:=fun k(hk:k<x.zA.length)=>(zJs h hE hT hk (bL k hk) (hck k hk)).1 (g0 k hk)
  exact⟨fun k j h1 h2=>(key k (by omega)).1 j h1 h2,fun k i j h1 gP h2=>(key k (by omega)).2.1 i j h1 gP h2,fun k hk=>(key k hk).2.2.1,fun k j h1 h2=>(key k (by omega)).2.2.2 j h1 h2⟩
end
theorem Col.det{x:SPr}{k k':Nat}{w:List Nat}{t1 t2:List (Nat×List Nat)}{w1 w2:List Nat}(h1:Col x k w t1 w1)(h2:Col x k' w t2 w2)(n1:stS x w1=jb)(n2:stS x w2=jb):t1=t2∧w1=w2:=by
 induction h1 generalizing t2 with
 |refl w=>
  cases h2 with
  |refl=>exact⟨rfl,rfl⟩
  |step _ hs _=>rw[n1]at hs;cases hs
 |step hw hs hc ih=>
  cases h2 with
  |refl=>rw[n2]at hs;cases hs
  |step _ pe cQ=>
   rw[hs]at pe;cases pe;obtain⟨rfl,rfl⟩:=ih cQ n1;exact⟨rfl,rfl⟩
end Go.Pl

namespace Go.Pl
open Go Go.Ab Go.Wk Go.Pc
structure Fh (n D D2:Nat) (m m2:zG) (T T2:Mx) (φ:Vec→Vec):Prop where
 pr:m2.Prime=m.Prime
 row:∀u,Row m.Prime D u→Row m.Prime D2 (φ u)
 z:φ (zeros D)=zeros D2
 add:∀u v,Row m.Prime D u→Row m.Prime D v→φ (adv m.Prime D u v)=adv m.Prime D2 (φ u) (φ v)
 act:∀k,k<n→ ∀u,Row m.Prime D u→φ (wG m.Prime D u (m.zR.getD k []))=wG m.Prime D2 (φ u) (m2.zR.getD k [])
 t:∀r,r<base n n→φ (T.getD r [])=T2.getD r []
def Fm(φ:Vec→Vec)(N:Nat)(e:Vec):Vec:=e.take N++φ (e.drop N)
theorem zAD{φ:Vec→Vec}{N:Nat}{y u:Vec}(hy:y.length=N):Fm φ N (y++u)=y++φ u:=by rw[Fm,Jn hy,K5 hy]
theorem zGK{φ:Vec→Vec}{N:Nat}{b:Int}{e:Vec}:Fm φ (N+1) (b::e)=b::Fm φ N e:=by simp only[Fm,Kb,List.drop_succ_cons,Jp]
section
variable {D D2:Nat}{x:SPr}{m m2:zG}{T T2:Mx}{φ:Vec→Vec} (h:Pres x) (hE:ExB x.zA.length D x m T) (hT:∀i,i<T.length→Row m.Prime D (T.getD i [])) (gO:ExB x.zA.length D2 x m2 T2) (gU:∀i,i<T2.length→Row m2.Prime D2 (T2.getD i [])) (hF:Fh x.zA.length D D2 m m2 T T2 φ)
 include h hE hT gO gU hF
theorem yAk{k:Nat}(hk:k≤x.zA.length):Fm φ (x.zA.length-k) (zeros (suf (exx D x m T) k).length)=zeros (suf (exx D2 x m2 T2) k).length:=by rw[zBd h hE hT hk,zBd h gO gU hk,zAD (yC _),hF.z]
theorem zP0{k j:Nat}(h1:k+1≤j)(h2:j<x.zA.length):Fm φ (x.zA.length-(k+1)) ((lvl (exx D x m T) k).cs.getD (j-(k+1)) [])=(lvl (exx D2 x m2 T2) k).cs.getD (j-(k+1)) []:=by have hn:=hE.hn;have hb:=zBU x.zA.length (by omega) k (by omega);have gG:V (suf x (k+1)) ((lcj x k j).drop (k+1)):=jL (uB h (by omega) h2) (by omega);rw[zIg h hE hT (by omega) h1 h2,zIg h gO gU (by omega) h1 h2,show(lvl x k).cs.getD (j-(k+1)) []=(lcj x k j).drop (k+1)from map_drop,zAD (wZ h (by omega) gG),hF.t _ (by omega)]
theorem zYo{k:Nat}(hk:k<x.zA.length):Fm φ (x.zA.length-(k+1)) (lvl (exx D x m T) k).w=(lvl (exx D2 x m2 T2) k).w:=by have hn:=hE.hn;have hb:=vK x.zA.length (by omega);have cC:V (suf x (k+1)) ((x.zT.getD k []).drop (k+1)):=jL (qT h hk) hk;rw[zIc h hE hT hk,zIc h gO gU hk,show(lvl x k).w=(x.zT.getD k []).drop (k+1)from rfl,zAD (wZ h (by omega) cC),hF.t _ (by omega)]
theorem zST{k:Nat}(hk:k<x.zA.length)(ih:∀a b,V (suf (exx D x m T) (k+1)) a→V (suf (exx D x m T) (k+1)) b→Fm φ (x.zA.length-(k+1)) (mul (suf (exx D x m T) (k+1)) a b)=mul (suf (exx D2 x m2 T2) (k+1)) (Fm φ (x.zA.length-(k+1)) a) (Fm φ (x.zA.length-(k+1)) b)){v:Vec}(hv:V (suf (exx D x m T) (k+1)) v):
  Fm φ (x.zA.length-(k+1)) (sig (suf (exx D x m T) (k+1)) (lvl (exx D x m T) k) v)=sig (suf (exx D2 x m2 T2) (k+1)) (lvl (exx D2 x m2 T2) k) (Fm φ (x.zA.length-(k+1)) v):=by
 have hp:=hE.m.p.pos;have ok:=uG h hE hT (k:=k+1) (by omega);obtain⟨y,u,rfl,hy,hu⟩:=(sK h hE hT (x.zA.length-(k+1)) (k+1) (by omega) _).1 hv;have ej:=wZ h (by omega) hy;have eY:Row m2.Prime D2 (φ u):=by rw[hF.pr];exact hF.row u hu
 have hsg:Fm φ (x.zA.length-(k+1)) (sgG D x m T k y)=sgG D2 x m2 T2 k y:=by
  unfold sgG;rw[zEW (S:=V (suf (exx D x m T) (k+1))) (n:=mul (suf (exx D2 x m2 T2) (k+1))) (Fm φ (x.zA.length-(k+1))) (fun a b=>xH ok) ih _ _ _ (zPo h hE hT hk) (wP ok),yAk h hE hT gO gU hF (by omega)]
  congr 1
  apply Qy
  ·rw[Jd,uV h hE hT,uV h gO gU]
  ·intro i h1 h2
   rw[Jd,uV h hE hT]at h1;have e1:(eC1 x T k)[i]'(by rw[uV h hE hT];exact h1)=(lvl (exx D x m T) k).cs.getD (k+1+i-(k+1)) []:=by rw[show k+1+i-(k+1)=i from by omega,zBX h hE hT hk,J2,Jm (by rw[uV h hE hT];exact h1),J3 (by rw[uV h hE hT];exact h1)];rfl
   have e2:(eC1 x T2 k)[i]'h2=(lvl (exx D2 x m2 T2) k).cs.getD (k+1+i-(k+1)) []:=by rw[show k+1+i-(k+1)=i from by omega,zBX h gO gU hk,J2,Jm h2,J3 h2];rfl
   rw[Jdd,e1,e2,zP0 h hE hT gO gU hF (by omega) (by omega)]
 obtain⟨y1,u1,e,fy,fO⟩:=(sK h hE hT (x.zA.length-(k+1)) (k+1) (by omega) _).1 (zIe h hE hT hk (y:=y));have gL:=wZ h (by omega) fy;rw[e,zAD gL]at hsg;rw[zBY h hE hT hk hy hu,e,Jn gL,K5 gL,zAD gL,zAD ej,zBY h gO gU hk hy eY,←hsg,Jn gL,K5 gL,hF.pr,hF.add _ _ fO (wY (by omega)),hF.act k hk u hu]
theorem zKy{k:Nat}(hk:k<x.zA.length)(ih:∀a b,V (suf (exx D x m T) (k+1)) a→V (suf (exx D x m T) (k+1)) b→Fm φ (x.zA.length-(k+1)) (mul (suf (exx D x m T) (k+1)) a b)=mul (suf (exx D2 x m2 T2) (k+1)) (Fm φ (x.zA.length-(k+1)) a) (Fm φ (x.zA.length-(k+1)) b)):∀(q:Nat){v:Vec},V (suf (exx D x m T) (k+1)) v→
  Fm φ (x.zA.length-(k+1)) (iter q (sig (suf (exx D x m T) (k+1)) (lvl (exx D x m T) k)) v)=iter q (sig (suf (exx D2 x m2 T2) (k+1)) (lvl (exx D2 x m2 T2) k)) (Fm φ (x.zA.length-(k+1)) v)
 |0,_,_=>rfl
 |q+1,v,hv=>by show Fm φ _ (iter q _ (sig _ _ v))=iter q _ (sig _ _ (Fm φ _ v));rw[zKy hk ih q (zAC h hE hT hk hv),zST h hE hT gO gU hF hk ih hv]
theorem zNO:∀(d k:Nat),k+d=x.zA.length→ ∀a b,V (suf (exx D x m T) k) a→V (suf (exx D x m T) k) b→Fm φ (x.zA.length-k) (mul (suf (exx D x m T) k) a b)=mul (suf (exx D2 x m2 T2) k) (Fm φ (x.zA.length-k) a) (Fm φ (x.zA.length-k) b)
 |0,k,hk,a,b,ha,hb=>by
  have hp:=hE.m.p.pos;have tq:=gO.m.p.pos;rw[zAp h hE hT D k (by omega) (by omega)]at ha hb ⊢
  rw[zAp h gO gU D2 k (by omega) (by omega)];have my:=(zDF _ _).1 ha;have eI:=(zDF _ _).1 hb;have e:∀w:Vec,Fm φ (x.zA.length-k) w=φ w:=fun w=>by rw[Fm,show x.zA.length-k=0 from by omega];rfl
  rw[e,e,e,qS (by omega) D _ _ my eI,hF.add _ _ my eI,hF.pr,qS (by omega) D2 _ _ (hF.row _ my) (hF.row _ eI)]
 |d+1,k,hk,a,b,ha,hb=>by
  have mb:k<x.zA.length:=by omega
  have ih:=zNO d (k+1) (by omega);have hl:=wJ h hE hT;have d8:=wJ h gO gU;have ok:=uG h hE hT (k:=k+1) (by omega);have fZ:=zQv h hE hT mb;rw[yG (x:=exx D x m T) (by omega)]at ha hb ⊢
  rw[yG (x:=exx D2 x m2 T2) (by omega)];cases a with
  |nil=>exact ha.elim
  |cons a u=>
  cases b with
  |nil=>exact hb.elim
  |cons b v=>
   obtain⟨_,ha⟩:=ha;obtain⟨_,hb⟩:=hb;have e6:=zNN h hE hT mb b.toNat ha;have hm:=xH ok e6 hb;rw[show x.zA.length-k=x.zA.length-(k+1)+1 from by omega,zGK,zGK,yZ,yZ,zB8 h hE hT mb,zB8 h gO gU mb,←zKy h hE hT gO gU hF mb ih _ ha,←ih _ _ e6 hb]
   by_cases g:a+b≥at0 x.zA k
   ·rw[if_pos g,if_pos g,zGK,ih _ _ fZ hm,zYo h hE hT gO gU hF mb]
   ·rw[if_neg g,if_neg g,zGK]
end
end Go.Pl
