/- The program's CoverMap returns what the reference's returns,for all arguments;no conditions. -/
import Derived.Test.YtmoaeebpmcafpaaGreatPlA
open List renaming replicate→J1,getD_eq_getElem?_getD→J3,getElem?_eq_getElem→J5,mem_cons→J7,length_cons→J8,length_append→J9,range→Jb,length_replicate→Jc,mem_append→Jd,replicate_append_replicate→Je,append_nil→Jf,append_assoc→Jj,getElem?_append_right→Jk,mem_map→Jl,take_of_length_le→Jn,take_left'→Jo,replicate_succ→Jq,map_cons→Jr,take_succ_eq_append_getElem→Js,length_map→Jt,length_nil→Jx,getElem_mem→Jy,drop_left'→Jz,nil_append→K0,getElem?_map→K3,mem_iff_getElem→K4,cons_append→K5,getElem?_replicate→Kb,take_zero→Kd,reverse_reverse→Kh,drop_append_of_le_length→Kj,length_take→Kk,ext_getElem?→Km,getElem?_append_left→Kn,length_drop→Kr,drop_replicate→L6,range_succ→L7,getElem?_eq_none→Ld,take_succ_cons→Lj,map_append→Lm,mem_range→Ln,replicate_succ'→Lo,eq_of_mem_replicate→Lr,replicate_zero→Lv,eq_nil_of_length_eq_zero→Ly,drop_eq_getElem_cons→Hl,flatten_cons→Hn,set_append_right→Hp,getElem?_drop→Hq,foldl_cons→G6,getD_cons_zero→Gj,foldl_append→Gl,length_singleton→Gw,ext_getElem→Gx,drop_zero→U6,drop_of_length_le→U7,map_nil→Ub,not_mem_nil→Ut,map_congr_left→Uu,reverse_cons→Uw,getElem?_replicate_of_lt→Q0,cons→Q2,take_length→Q7,mem_of_mem_drop→Ja4,map_map→Ja7,getElem?_take_of_lt→Ja9,flatten_append→Jad,range_succ_eq_map→Jaf,mem_of_mem_head?→Jap,take→Jb0,mem_flatten→Jb1,length→Jb2,head?_cons→Jcb,getElem?_cons_succ→Jcc,flatMap_append→Jcz
open Int renaming toNat_natCast→J6,mul_emod→Ju,emod_eq_of_lt→Jw,emod_emod→K1,add_emod→K9,emod_lt_of_pos→Kf,emod_nonneg→Kq,mul_zero→La,zero_add→Lh,mul_one→Ls,add_zero→Lt,natCast_add→Hi,toNat_zero→Gk,mul_assoc→Gy,mul_comm→Uc,add_emod_right→Q4,sub_emod→Qa,natCast_mul→Qp,zero_mul→Qr,toNat_of_nonneg→Jai,add_emod_emod→Jb4,one_mul→Jbd,sub_mul→Jcf
open Nat renaming zero_add→Ja,lt_or_ge→Jg,le_refl→Jh,mul_le_mul→Jm,mul_le_mul_right→K6,succ_mul→K8,zero_le→Ka,sub_self→Ke,add_sub_cancel_left→Lu,add_zero→Q6,add_assoc→Qd,le_mul_of_pos_right→Jam,sub_zero→Jav,lt_of_not_le→Jb5,eq_zero_or_pos→Jbs,lt_irrefl→Jcy
open Bool renaming not_true→Ji,not_false→K7
open Option renaming some→Hu
open Option renaming some→iF,none→iG
open Bool renaming true→iH,false→iI
namespace Go.Pl
open Go Go.Ab Go.Wk Go.Pc
variable {n i D k m a N c j q:Nat}{u v r:List Int}{pv:Nat→Nat}{xs A:Mx}{β:Type}{C:Prop}{d y e y1 y2:Vec}{f:Nat→Int}{Z:Vec→Prop}{s w1 w2:List Nat}{t1 t2:List (Nat×List Nat)}
theorem zOA{p:Int}{R out:Mx}{cf:Nat→Int}(ho:∀i,i<out.length→Sp p n R (out.getD i []))(hu:∀j,j<n→at0 u j%p=(S out.length fun k=>cf k*ent out k j)%p):Sp p n R u:=
 zAn ho ⟨cf,by grind⟩
theorem Red.len_le{p:Int}{R:Mx}(h:Red p n R pv):R.length≤n:=by
 have key:∀i,i<R.length→i≤pv i:=by
  intro i
  induction i with
  |zero=>simp
  |succ i ih=>
   intro hi;have h1:=ih (by omega);have h2:=h.mono i (i+1) (by omega) hi;omega
 rcases Jbs R.length with g|g
 ·omega
 ·have h1:=key (R.length-1) (by omega)
  have h2:=h.lt (R.length-1) (by omega);omega
theorem zD6(h:i<xs.length):(xs++[v]).getD i []=xs.getD i []:=by grind
theorem zD7:(xs++[v]).getD xs.length []=v:=by simp
section
variable {p:Int} (hp:Prime p) {n:Nat} (hn:n≤100000)
 include hp hn
theorem zOB{w:List Int}(hw:Row p n w){r:Int}(h0:0≤r)(h1:r≤p-1):zXS p r w=iF (mkv n fun j=>(at0 w j*r)%p):=by
 have h7:=hp.pos;unfold zXS;rw[hw.1,xF (by omega),bs,tY hp (zE1 (by omega)) hw (by omega) (by omega),bs]
 congr 1
 refine yB fun j hj=>?_
 grind
variable {rows:Mx} (hm:rows.length≤600000) (hr:∀i,i<rows.length→Row p n (rows.getD i []))
 include hm hr
theorem zFp:∃R pv,f_r p rows=iF R∧(Red p n R pv∧R.length≤rows.length)∧jY p n R rows:=by
 have h7:=hp.pos;unfold f_r;have main:=uS (body:=zSa p rows) (s:=([],0)) (Q:=fun R=> ∃pv,(Red p n R pv∧R.length≤rows.length)∧jY p n R rows)
  (fun i s=> ∃(out:Mx)(pv:Nat→Nat),s=(out,(i:Int))∧Red p n out pv∧jY p n out (rows.take i)∧out.length≤i∧i≤rows.length) rows.length (fun i s hi hI=>?_) (fun s hI=>?_) ⟨[],fun _=>0,rfl,Red.empty,by rw[Kd];exact jY.refl,Ka _,Ka _⟩
 ·obtain⟨R,h1,pv,h2,h3⟩:=main
  rw[h1,bs];exact⟨R,pv,rfl,h2,h3⟩
 ·obtain⟨out,pv,rfl,h,hs,hl,_⟩:=hI
  have hon:out.length≤n:=h.len_le;left;have hv:=hr i hi;have hw:=zE3 hp hn h hv out.length;have gC:=zE4 hp hn h hv (by omega);have hpz:=zO7 hp hn h hv out.length (Jh _);obtain⟨cf,fE⟩:=zQu hp hn h hv out.length (Jh _);obtain⟨k,k1,k2,k3,k4⟩:=zKb hw.1 (by omega);have ew:rows.take (i+1)=rows.take i++[rows.getD i []]:=by rw[Js hi,J3,J5 hi];rfl
  have bK:(rows.take i).length=i:=by rw[Kk];omega
  have fM:∀u,Sp p n (rows.take i) u→Sp p n (rows.take (i+1)) u:=fun u hu=>zAn (fun a ha=>by have:=qG (p:=p) (n:=n) (R:=rows.take (i+1)) (i:=a) (by rw[ew,J9];omega);rw[ew,zD6 ha,←ew]at this;exact this) hu
  have cy:Sp p n (rows.take (i+1)) (rows.getD i []):=by
   have:=qG (p:=p) (n:=n) (R:=rows.take (i+1)) (i:=i) (by rw[ew,J9,bK];simp);rw[ew]at this;have e:(rows.take i++[rows.getD i []]).getD i []=rows.getD i []:=by have:=zD7 (xs:=rows.take i) (v:=rows.getD i []);rw[bK]at this;exact this
   rw[e,←ew]at this;exact this
  by_cases pR:k=n
  ·
   refine⟨(out,((i+1:Nat):Int)),?_,out,pv,rfl,h,⟨fun a ha=>fM _ (hs.1 a ha),fun a ha=>?_⟩,by omega,by omega⟩
   ·unfold zSa
    simp only
    rw[yT hi,zM,yO [] hi];simp only[bs,gC,k2];rw[hw.1,zQt (by omega),zM,zE (by omega) (by omega),bs,cs]
   ·rw[ew,J9,bK,Gw]at ha
    rw[ew];rcases Jg a i with g|g
    ·rw[zD6 (by omega)];exact hs.2 a (by omega)
    ·have:a=i:=by omega
     subst this;have e:(rows.take a++[rows.getD a []]).getD a []=rows.getD a []:=by have:=zD7 (xs:=rows.take a) (v:=rows.getD a []);rw[bK]at this;exact this
     rw[e];refine zOA (out:=out) (cf:=fun q=> -1*cf q) (fun a ha=>qG ha) fun j hj=>?_
     have h1:=fE j hj;rw[k3 j (by omega)]at h1;rw[xZ (g:=fun q=> -1*(cf q*ent out q j)) (fun q _=>by rw[Gy]),zDg];have h2:(at0 (rows.getD a []) j+S out.length fun q=>cf q*ent out q j)%p=0:=by rw[←h1];rfl
     rw[show at0 (rows.getD a []) j=(at0 (rows.getD a []) j+S out.length fun q=>cf q*ent out q j)+ -1*(S out.length fun q=>cf q*ent out q j)from by omega,K9,h2,Lh,K1]
  ·have hk:k<n:=by omega
   have hwk:=hw.2 k hk;have gg:=k4 hk;obtain⟨r,r1,r2,r3,r4⟩:=zTQ hp (x:=at0 (cl p n out pv (rows.getD i []) out.length) k) (by omega) (by omega);have bM:=zOB hp hn hw r2 r3;have hu:Row p n (mkv n fun j=>(at0 (cl p n out pv (rows.getD i []) out.length) j*r)%p):=⟨zY _ _,fun j hj=>by have e1:=Kq (at0 (cl p n out pv (rows.getD i []) out.length) j*r) (show p≠0 by omega);have e2:=Kf (at0 (cl p n out pv (rows.getD i []) out.length) j*r) (show 0<p by omega);rw[yA hj];omega⟩
   have ua:∀j,j<n→at0 (mkv n fun j=>(at0 (cl p n out pv (rows.getD i []) out.length) j*r)%p) j=(at0 (cl p n out pv (rows.getD i []) out.length) j*r)%p:=fun j hj=>yA hj
   generalize mkv n (fun j=>(at0 (cl p n out pv (rows.getD i []) out.length) j*r)%p)=u at bM hu ua
   have u1:at0 u k=1:=by rw[ua k hk];exact r4
   have ul:∀j,j<k→at0 u j=0:=fun j hj=>by rw[ua j (by omega),k3 j hj];simp
   have up:∀a,a<out.length→at0 u (pv a)=0:=fun a ha=>by rw[ua _ (h.lt a ha),hpz a ha];simp
   obtain⟨q,⟨hq,u6⟩,eY⟩:=zDR (p:=fun q=>q≤out.length∧(q<out.length→k<pv q)) ⟨out.length,Jh _,fun g=>by omega⟩;have q1:∀a,a<q→pv a<k:=fun a ha=>by
    have h1:¬(k<pv a):=fun g=>eY a ha ⟨by omega,fun _=>g⟩
    have h2:pv a≠k:=fun e=>by have:=up a (by omega);rw[e,u1]at this;cases this
    omega
   have q2:∀a,q≤a→a<out.length→k<pv a:=fun a ha ha2=>by
    have h1:=u6 (by omega);rcases Jg q a with g|g
    ·have:=h.mono q a g ha2;omega
    ·rw[show a=q from by omega];exact h1
   have eZ:=zMN hp h hu hk u1 ul up hq q1 q2 hn (by omega) (x:=(i:Int));have dO:=zO9 hp h hu hk u1 ul up hq q1 q2;obtain⟨s1,s2,s3⟩:=zR7 hp h hu hk u1 ul up hq q1 q2;refine⟨(mkR (out.length+1) (sT p n out u k q),((i+1:Nat):Int)),?_,_,_,rfl,dO,⟨fun a ha=>?_,fun a ha=>?_⟩,by rw[sP];omega,by omega⟩
   ·unfold zSa
    simp only
    rw[yT hi,zM,yO [] hi];simp only[bs,gC,k2];rw[hw.1,zML (by omega),zQ,yQ (by rw[hw.1];exact hk)];simp only[bs,r1,bM];cases eF:zI (zJw p (out,(i:Int)) (k:Int) u) ([],iI,0)with
    |none=>rw[eF]at eZ;cases eZ
    |some r32=>
     rw[eF,bs]at eZ;simp only[bs];obtain⟨a1,a2⟩:=r32;cases a2 with
     |true=>
      simp only[Ji,zQ]at eZ ⊢
      rw[zE (by omega) (by omega),bs,cs,Hu.inj eZ]
     |false=>
      simp only[K7,zM]at eZ ⊢
      cases hap:xS a1 [u]with
      |none=>rw[hap]at eZ;cases eZ
      |some v33=>
       rw[hap,bs]at eZ;simp only[bs];rw[zE (by omega) (by omega),bs,cs,Hu.inj eZ]
   ·rw[sP]at ha
    rw[zAc ha];refine zAn (fun b hb=>?_) (s1 a ha);rw[J9,Gw]at hb;rcases Jg b out.length with g|g
    ·rw[zD6 g];exact fM _ (hs.1 b g)
    ·rw[show b=out.length from by omega,zD7]
     have dp:Sp p n (rows.take (i+1)) (cl p n out pv (rows.getD i []) out.length):=by
      have me:Sp p n (rows.take (i+1)) (mkv n fun j=>S out.length fun k=>cf k*ent out k j):=zOA (out:=out) (cf:=cf) (fun b hb=>fM _ (hs.1 b hb)) fun j hj=>by rw[yA hj]
      refine zAN (k:=1) cy me fun j hj=>?_
      rw[fE j hj,yA hj,Jbd]
     refine zAN (k:=r) (zFl (u:=[]) fun j _=>by simp[at0]) dp fun j hj=>?_
     rw[ua j hj,K1,show at0 ([]:List Int) j=0 from by simp[at0],Lh,Uc]
   ·rw[ew,J9,bK,Gw]at ha
    rw[ew];rcases Jg a i with g|g
    ·rw[zD6 (by omega)]
     exact zAn s2 (hs.2 a (by omega))
    ·have hai:a=i:=by omega
     subst hai;have e:(rows.take a++[rows.getD a []]).getD a []=rows.getD a []:=by have:=zD7 (xs:=rows.take a) (v:=rows.getD a []);rw[bK]at this;exact this
     rw[e];have dp:Sp p n (mkR (out.length+1) (sT p n out u k q)) (cl p n out pv (rows.getD a []) out.length):=by
      refine zAN (k:=at0 (cl p n out pv (rows.getD a []) out.length) k) (zFl (u:=[]) fun j _=>by simp[at0]) s3 fun j hj=>?_
      rw[ua j hj,show at0 ([]:List Int) j=0 from by simp[at0],Lh];rw[Ju,K1,←Ju,←Gy,Uc (at0 (cl p n out pv (rows.getD a []) out.length) k),Gy,Ju,r4,Ls,K1]
     have me:Sp p n (mkR (out.length+1) (sT p n out u k q)) (mkv n fun j=>S out.length fun k=>cf k*ent out k j):=zOA (out:=out) (cf:=cf) s2 fun j hj=>by rw[yA hj]
     refine zAN (k:=-1) dp me fun j hj=>?_
     rw[yA hj,K9,fE j hj,←K9]
     congr 1;omega
 ·obtain⟨out,pv,rfl,h,hs,hl,_⟩:=hI
  refine⟨out,?_,pv,⟨h,hl⟩,by rw[Q7]at hs;exact hs⟩;unfold zSa;simp only
  rw[qA,zQ]
theorem zMO:∃R pv,f_r p rows=iF R∧Red p n R pv∧jY p n R rows:=by grind[zFp]
theorem zIw{R:Mx}(h:Red p n R pv)(hs:jY p n R rows):R.length≤rows.length:=by have h7:=hp.pos;obtain⟨R',pv',_,h2,h3⟩:=zFp hp hn hm hr;rw[h.unique (by omega) h2.1 (hs.trans h3.symm)];exact h2.2
theorem jP:∃R pv,f_r p rows=iF R∧f_i p rows=iF R∧Red p n R pv∧jY p n R rows:=by
 have h7:=hp.pos;obtain⟨R,pv,h1,h2,h3⟩:=zMO hp hn hm hr;obtain⟨R',pv',g1,g2,g3⟩:=zMM hp hn hm hr;have e:=h2.unique (by omega) g2 (h3.trans g3.symm)
 grind
end
theorem vC{body:List β×Int→Option ((List β×Int)⊕List β)}(n:Nat)(F:Nat→β)(h:∀i acc,i<n→acc.length=i→body (acc,(i:Int))=iF (.inl (acc++[F i],((i+1:Nat):Int))))(he:∀acc,body (acc,(n:Int))=iF (.inr acc)):
  zI body ([],0)=iF ((Jb n).map F):=by
 have:=zX (body:=body) (r:=(Jb n).map F) (fun i=>((Jb i).map F,(i:Int))) n (by grind[L7]) (he _);exact this
theorem zKd(hx:xs.length≤100000)(hf:xs.flatten.length≤1000000):zWh xs=iF xs.flatten:=by
 unfold zWh;have:=zX (body:=zNK xs) (r:=xs.flatten) (fun i=>((xs.take i).flatten,(i:Int))) xs.length (fun i hi=>by
  have h1:=zGl hi;have h2:=zKR (xs:=xs) (i+1);have h3:=congrArg Jb2 h1;rw[J9]at h3;unfold zNK;simp only
  rw[yT hi,zM,yO [] hi,bs,yI (by omega),bs,zE (by omega) (by omega),bs,cs,h1]) (by
  unfold zNK;simp)
 grind
theorem zKV{p:Int}{L:Nat}:Row p L v↔v.length=L∧ ∀a∈v,0≤a∧a≤p-1:=by
 constructor
 ·rintro⟨h1,h2⟩
  refine⟨h1,fun a ha=>?_⟩;obtain⟨i,hi,rfl⟩:=K4.1 ha
  grind
 ·rintro⟨h1,h2⟩
  refine⟨h1,fun i hi=>?_⟩
  simp_all
theorem zFq{D:Nat}:∀{xs:Mx},(∀r∈xs,r.length=D)→xs.flatten.length=xs.length*D
 | [],_=>by simp
 |x::xs,h=>by
  have:=zFq (xs:=xs) fun r hr=>h r (by simp[hr])
  grind
theorem zTR{p:Int}(h:∀r∈xs,Row p D r):Row p (xs.length*D) xs.flatten:=by grind[zKV,zFq,Jb1]
def qQ(D k:Nat):List Int:=mkv D fun j=>if j=k then 1 else 0
theorem zR8{p:Int}(hp:2≤p):Row p D (qQ D k):=⟨zY _ _,by grind[qQ,yA]⟩
theorem zC4(hk:k<D)(hD:D≤1000000):zL0 (D:Int) (k:Int)=iF (qQ D k):=by grind[zL0,xF,yQ,uH,qL,qQ]
abbrev gl{β:Type}(m:Nat)(F:Nat→β):List β:=(Jb m).map F
theorem wU{β:Type}{F:Nat→β}:(gl m F).length=m:=by simp[gl]
theorem zAo{β:Type}{F:Nat→β}(h:i<m):ixO (gl m F) (i:Int)=iF (F i):=by rw[zAa (by grind)];simp[gl]
theorem tR{β:Type}{F G:Nat→β}(h:∀i,i<m→F i=G i):gl m F=gl m G:=by grind[Uu]
theorem zDi{β:Type}{F:Nat→β}{a:β}:(gl m F).set i a=gl m (fun k=>if k=i then a else F k):=by
 apply Km
 grind
theorem zBe{β:Type}{F:Nat→β}:gl m F++[F m]=gl (m+1) F:=by simp[gl,L7]
def base(n i:Nat):Nat:=n+i*n-i*(i+1)/2
theorem zR9:∀n,n<7→ ∀i,i<n→base n (i+1)=base n i+(n-1-i):=by decide
theorem zBf:∀n,n<7→ ∀i,i<n→base n i+(n-1-i)≤base n n:=by decide
theorem wT:∀n,n<7→n≤base n n∧base n n≤21∧base n 0=n:=by decide
theorem zOC:∀n:Nat,n<7→ ∀j:Nat,j<n→ ∀i:Nat,i<j→yAF (n:Int) (i:Int) (j:Int)=iF ((base n i+(j-i-1):Nat):Int):=by decide+kernel
def exP(n D:Nat)(x:SPr)(T:Mx)(i:Nat):List Int:=if i<n then x.zV.getD i []++T.getD i []else J1 (n+D) 0
def exF(n:Nat)(x:SPr)(m:zB)(T:Mx)(i j:Nat):List Int:=if j<n-1-i then(x.zG.getD i []).getD j []++T.getD (base n i+j) []else J1 n 0++(m.zF.getD i []).getD (j-(n-1-i)) []
def unC(N i:Nat):Mx:=gl (N-1-i) fun j=>qQ N (i+1+j)
def exC(n D:Nat)(x:SPr)(m:zB)(T:Mx)(i:Nat):Mx:=if i<n then gl (n+D-1-i) (exF n x m T i)else unC (n+D) i
def ext(n D:Nat)(x:SPr)(m:zB)(T:Mx):SPr:=⟨x.zA++J1 D m.Prime,gl (n+D) (exP n D x T),gl (n+D) (exC n D x m T)⟩
structure zKW (n D:Nat) (x:SPr) (m:zB) (T:Mx):Prop where
 hn:n≤6
 o:x.zA.length=n
 p:x.zV.length=n
 c:x.zG.length=n
 cl:∀i,i<n→(x.zG.getD i []).length=n-1-i
 pl:∀i,(x.zV.getD i []).length≤6
 ce:∀i j,((x.zG.getD i []).getD j []).length≤6
 t:T.length=base n n
 tl:∀i,(T.getD i []).length≤30
 m:zZV n m D
theorem zQv{a b:List Int}(ha:a.length≤1000)(hb:b.length≤1000):f_q [a,b]=iF (a++b):=by grind[qF]
theorem zKe{v:Int}(hk:k≤1000):∀d c:Nat,c≤k→(c=0→k=0)→k-c≤d→zI zCx (J1 c v++J1 (k-c) 0,(c:Int))=iF (J1 k v):=by
 intro d
 induction d with
 |zero=>
  intro c h1 _ h3;obtain rfl:c=k:=by omega
  rw[xL];unfold zCx;simp
 |succ d ih=>
  intro c h1 h2 h3
  by_cases hc:c=k
  ·grind
  ·have hl:(J1 c v++J1 (k-c) (0:Int)).length=k:=by simp;omega
   have s1:yD (J1 c v++J1 (k-c) (0:Int)) (c:Int) (k:Int)=iF (((J1 c v++J1 (k-c) (0:Int)).drop c).take (k-c)):=by
    unfold yD
    simp_all
   have s2:yD (J1 c v++J1 (k-c) (0:Int)) 0 (c:Int)=iF (J1 c v):=by
    unfold yD
    simp_all
   have e1:(J1 c v).take (k-c)=J1 (min (k-c) c) v:=by simp
   have e2:wX (J1 c v++J1 (k-c) (0:Int)) c (J1 (min (k-c) c) v)=J1 (c+min c (k-c)) v++J1 (k-(c+min c (k-c))) 0:=by
    unfold wX;rw[Jo (by simp),Jc,Nat.min_comm (k-c) c,Je,List.drop_append,Jc,U7 (by rw[Jc];omega),K0,L6]
    congr 2;omega
   have hb:zCx (J1 c v++J1 (k-c) 0,(c:Int))=iF (.inl (J1 (c+min c (k-c)) v++J1 (k-(c+min c (k-c))) 0,((c+min c (k-c):Nat):Int))):=by
    unfold zCx;simp only
    rw[hl,yT (by omega),zM,s1,bs,s2,bs,Jc];simp only[J6];rw[e1,e2,←Hi,zE (by omega) (by omega),bs]
   rw[xL,hb];exact ih (c+min c (k-c)) (by omega) (by omega) (by omega)
theorem zOD{v:Int}(hk:k≤30):f_l [v] (k:Int)=iF (J1 k v):=by
 have key:∀k:Nat,k<31→zV6 1 (IntKind.wrap .u64 (k:Int))=iF (0,(k:Int))∧xI (IntKind.wrap .i64 (k:Int))=iF k:=by decide+kernel
 obtain⟨k1,k2⟩:=key k (by omega);unfold f_l;rw[iJ (by omega),zQ,zMF k1,bs];simp only[k2,bs];rw[show decide ((0:Int)> 0)=iI from rfl,zQ,iJ (by omega),zQ]
 by_cases h0:k=0
 ·subst h0
  have:=zKe (v:=v) (k:=0) (by omega) 0 0 (by omega) (by omega) (by omega);rw[show wX (J1 0 (0:Int)) 0 (([v]:List Int).take ((J1 0 (0:Int)).length-0))=J1 0 v++J1 (0-0) 0 from rfl,show((min ([v]:List Int).length ((J1 0 (0:Int)).length-0):Nat):Int)=((0:Nat):Int)from rfl,this,bs]
 ·have:=zKe (v:=v) (k:=k) (by omega) k 1 (by omega) (by omega) (by omega)
  have e1:wX (J1 k (0:Int)) 0 (([v]:List Int).take ((J1 k (0:Int)).length-0))=J1 1 v++J1 (k-1) 0:=by
   unfold wX
   grind
  grind
theorem zRA{O:List Int}(hO:O.length=N)(hN:N≤100):f_N O=iF ⟨O,gl N (fun _=>J1 N 0),gl N (unC N)⟩:=by
 have gO:∀i,i<N→zI (zSc O) ([],((i+1:Nat):Int))=iF (unC N i):=fun i hi=>by
  have:=zX (body:=zSc O) (r:=unC N i) (fun j=>(gl j fun j=>qQ N (i+1+j),((i+1+j:Nat):Int))) (N-1-i) (fun j hj=>by
   unfold zSc;simp only
   rw[hO,yT (by omega),zM,zC4 (by omega) (by omega),bs,yI (by grind),bs,zE (by omega) (by omega),bs,cs,zBe (F:=fun j=>qQ N (i+1+j))];rfl) (by
   unfold zSc;simp only
   rw[hO,show i+1+(N-1-i)=N from by omega,qA,zQ,unC])
  exact this
 have:=zX (body:=zSd O) (r:=(gl N (fun _=>J1 N 0),gl N (unC N))) (fun i=>(gl i (fun _=>J1 N (0:Int)),gl i (unC N),((i:Nat):Int))) N (fun i hi=>by
  unfold zSd;simp only
  rw[hO,yT hi,zM,xF (by omega),bs,yI (by grind),bs,zE (by omega) (by omega),bs,cs,gO i hi,bs,yI (by rw[wU];simp;omega),bs,bs,zBe (F:=unC N),zBe (F:=fun _=>J1 N (0:Int))]) (by
  unfold zSd
  grind)
 unfold f_N;rw[kS (by omega),bs]
 grind
section
variable {n D:Nat}{x:SPr}{m:zB}{T:Mx} (h:zKW n D x m T)
 include h
def exG(n N:Nat)(x:SPr)(m:zB)(T:Mx)(i t q:Nat):List Int:=if q<t then exF n x m T i q else qQ N (i+1+q)
def exE(n D:Nat)(x:SPr)(m:zB)(T:Mx)(i t k:Nat):Mx:=if k<i then exC n D x m T k else if k=i then gl (n+D-1-i) (exG n (n+D) x m T i t)else unC (n+D) k
theorem zOE{t:Nat}:exE n D x m T i t i=gl (n+D-1-i) (exG n (n+D) x m T i t):=by have _:=h;rw[exE,if_neg (by omega),if_pos rfl]
theorem zQw{t:Nat}:(gl (n+D) (exE n D x m T i t)).set i ((gl (n+D-1-i) (exG n (n+D) x m T i t)).set t (exF n x m T i t))=gl (n+D) (exE n D x m T i (t+1)):=by
 have _:=h;rw[zDi,zDi];refine tR fun k _=>?_
 by_cases hk:k=i
 ·subst hk
  rw[if_pos rfl,zOE h];refine tR fun q _=>?_
  simp only[exG]
  grind
 ·rw[if_neg hk,exE,exE,if_neg hk,if_neg hk]
theorem zIx:exE n D x m T i 0 k=if k<i then exC n D x m T k else unC (n+D) k:=by
 have _:=h;rw[exE]
 by_cases h1:k<i
 ·grind
 ·rw[if_neg h1,if_neg h1]
  by_cases h2:k=i
  ·subst h2
   rw[if_pos rfl];rfl
  grind
theorem zTS(hi:i<n):gl (n+D) (exE n D x m T i (n+D-1-i))=gl (n+D) (exE n D x m T (i+1) 0):=by
 refine tR fun k _=>?_
 rw[zIx h,exE]
 by_cases h1:k<i
 ·grind
 ·rw[if_neg h1]
  by_cases h2:k=i
  ·subst h2
   rw[if_pos rfl,if_pos (by omega),exC,if_pos hi];exact tR fun q hq=>by rw[exG,if_pos hq]
  grind
theorem yCn(hi:i<n){C:List Mx}{w:Int}:zI (zPt T (C,w,(i:Int)) (x.zG.getD i [])) (gl (n+D) (exE n D x m T i 0),((base n i:Nat):Int),0)=iF (gl (n+D) (exE n D x m T i (n-1-i)),((base n (i+1):Nat):Int)):=by
 have h6:=h.hn;have h3:=h.m.d3;have hc:=h.cl i hi;have hb:=zBf n (by omega) i hi;have cM:=wT n (by omega);have:=zX (body:=zPt T (C,w,(i:Int)) (x.zG.getD i [])) (r:=(gl (n+D) (exE n D x m T i (n-1-i)),((base n (i+1):Nat):Int))) (fun j=>(gl (n+D) (exE n D x m T i j),((base n i+j:Nat):Int),((j:Nat):Int))) (n-1-i) (fun j hj=>by
  have a1:=h.ce i j;have a2:=h.tl (base n i+j);have e:exF n x m T i j=(x.zG.getD i []).getD j []++T.getD (base n i+j) []:=if_pos hj;unfold zPt;simp only
  rw[hc,yT hj,zM,yO [] (by omega),bs,zAo (by omega),bs,yO [] (by rw[h.t];omega),bs,zQv (by omega) (by omega),bs,zOE h,zAo (by omega),bs,zE (by omega) (by omega),bs,zE (by omega) (by omega),bs,cs,cs,←e,J6,J6,zQw h];rfl) (by
  unfold zPt;simp only
  rw[hc,qA,zQ,zR9 n (by omega) i hi])
 exact this
theorem yCo(hi:i<n){C:List Mx}{w:Int}:zI (zPu x (C,w,(i:Int)) (m.zF.getD i [])) (gl (n+D) (exE n D x m T i (n-1-i)),0)=iF (gl (n+D) (exE n D x m T (i+1) 0)):=by
 have h6:=h.hn;have h3:=h.m.d3;have uu:=h.m.mat i hi;have:=zX (body:=zPu x (C,w,(i:Int)) (m.zF.getD i [])) (r:=gl (n+D) (exE n D x m T (i+1) 0)) (fun j=>(gl (n+D) (exE n D x m T i (n-1-i+j)),((j:Nat):Int))) D (fun j hj=>by
  have e:exF n x m T i (n-1-i+j)=J1 n 0++(m.zF.getD i []).getD j []:=by rw[exF,if_neg (by omega),show n-1-i+j-(n-1-i)=j from by omega]
  have hr:=(uu.2 j hj).1;unfold zPu;simp only
  rw[uu.1,yT hj,zM,yO [] (by grind),bs,zAo (by omega),bs,h.o,zE (by omega) (by omega),bs,zE (by omega) (by omega),bs,zE (by omega) (by omega),bs,show(0:Int)=((0:Nat):Int)from rfl,zMH (by omega) (by omega) (by omega),bs,
   show(n:Int)-1-(i:Int)+(j:Int)=((n-1-i+j:Nat):Int)from by omega,zOE h,zAo (by omega),bs,zE (by omega) (by omega),bs,cs,Lv,Jf,←e,J6,J6,zQw h];rfl) (by
  unfold zPu;simp only
  rw[uu.1,qA,zQ,show n-1-i+D=n+D-1-i from by omega,zTS h hi])
 exact this
theorem yCp:zI (zPv x m T) (gl (n+D) (unC (n+D)),((n:Nat):Int),0)=iF (gl (n+D) (exC n D x m T)):=by
 have h6:=h.hn;have h3:=h.m.d3;have cM:=wT n (by omega);have:=zX (body:=zPv x m T) (r:=gl (n+D) (exC n D x m T)) (fun i=>(gl (n+D) (exE n D x m T i 0),((base n i:Nat):Int),((i:Nat):Int))) n (fun i hi=>by
  unfold zPv;simp only
  rw[h.o,yT hi,zM,yO [] (by rw[h.c];exact hi),bs,yCn h hi,bs,yO [] (by rw[h.m.len];exact hi),bs,yCo h hi,bs,zE (by omega) (by omega),bs,cs]) (by
  unfold zPv;simp only
  rw[h.o,qA,zQ]
  congr 2
  refine tR fun k _=>?_
  rw[zIx h,exC]
  grind)
 have e:gl (n+D) (exE n D x m T 0 0)=gl (n+D) (unC (n+D)):=tR fun k _=>by rw[zIx h,if_neg (by omega)]
 grind
theorem yCq:zI (zPs x T) (gl (n+D) (fun _=>J1 (n+D) 0),0,0)=iF (gl (n+D) (exP n D x T),((n:Nat):Int)):=by
 have h6:=h.hn;have h3:=h.m.d3;have cM:=wT n (by omega);have:=zX (body:=zPs x T) (r:=(gl (n+D) (exP n D x T),((n:Nat):Int))) (fun i=>(gl (n+D) (fun k=>if k<i then exP n D x T k else J1 (n+D) 0),((i:Nat):Int),((i:Nat):Int))) n (fun i hi=>by
  have a1:=h.pl i;have a2:=h.tl i;have e:exP n D x T i=x.zV.getD i []++T.getD i []:=if_pos hi;unfold zPs;simp only
  rw[h.p,yT hi,zM,yO [] (by rw[h.p];exact hi),bs,yO [] (by rw[h.t];omega),bs,zQv (by omega) (by omega),bs,zAo (by omega),bs,zE (by omega) (by omega),bs,bs,cs,←e,J6,zDi]
  grind) (by
  unfold zPs;simp only
  rw[h.p,qA,zQ]
  congr 3
  refine tR fun k _=>?_
  by_cases hk:k<n
  ·grind
  ·rw[if_neg hk,exP,if_neg hk])
 grind
theorem zXj{v:Int}:f_l [v] m.Dim=iF (J1 D v):=by rw[h.m.d];exact zOD (by have:=h.m.d3;omega)
theorem zTT:f_n x m T=iF (ext n D x m T):=by
 have h6:=h.hn;have h3:=h.m.d3;unfold f_n;rw[kS (by rw[h.o];omega),bs,zXj h,bs,yI (by rw[h.o];simp;omega),bs,zRA (N:=n+D) (by rw[J9,h.o];simp) (by omega),bs];simp only
 rw[yCq h,bs,yCp h,bs];rfl
end
theorem zYH{α:Type}{c:α→Nat}{b:Nat}:∀{xs:List α},(∀x∈xs,c x≤b)→sm c xs≤xs.length*b
 | [],_=>by simp[sm]
 |x::xs,h=>by
  have h1:=zYH (xs:=xs) fun y hy=>h y (by simp[hy])
  grind[sm,K8]
theorem zOF{b:Nat}(h:∀i,i<xs.length→(xs.getD i []).length≤b)(i:Nat):(xs.getD i []).length≤b:=by grind
theorem zE5{x:SPr}(ho:x.zA.length=n)(hn:n≤6):zVX x=iF ((base n n:Nat):Int):=by
 unfold zVX;rw[ho];have key:∀n:Nat,n<7→((rng ((n:Int)-1)).bind fun v1=>(rng ((n:Int)*v1)).bind fun v2=>(sK v2 2).bind fun v3=>(rng ((n:Int)+v3)).bind fun v4=>iF v4)=iF ((base n n:Nat):Int):=by decide+kernel
 grind
theorem zIy{x:SPr}(ho:x.zA.length=n)(hn:n≤6):zVY x=iF ((base n n:Nat):Int):=by
 unfold zVY;rw[ho];have key:∀n:Nat,n<7→((rng ((n:Int)+1)).bind fun v1=>(rng ((n:Int)*v1)).bind fun v2=>(sK v2 2).bind fun v3=>iF v3)=iF ((base n n:Nat):Int):=by decide+kernel
 grind
theorem zKW.ofX{x:SPr}{m:zB}{T:Mx}(hx:zAi x)(hm:zZV x.zA.length m D)(ht:T.length=base x.zA.length x.zA.length)(fN:∀i,(T.getD i []).length≤30):zKW x.zA.length D x m T:=by
 have h6:=hx.n6;refine⟨h6,rfl,hx.pl,hx.cl,fun i hi=>by have:=(hx.tl i hi).2.1;omega,zOF fun i hi=>?_,fun i=>?_,ht,fN,hm⟩
 ·have:=(hx.tl i (by rw[←hx.pl];exact hi)).1.1.1
  omega
 ·rcases Jg i x.zA.length with g|g
  ·refine zOF fun j hj=>?_
   have:=((hx.tl i g).2.2 j hj).1.1;omega
  ·have e:x.zG.getD i []=[]:=by rw[J3,Ld (by rw[hx.cl];exact g)];rfl
   grind
theorem zKW.of{x:SPr}{m:zB}{T:Mx}(hx:zAi x)(hm:MOk x.zA.length m D)(ht:T.length=base x.zA.length x.zA.length)(fN:∀i,(T.getD i []).length≤3):zKW x.zA.length D x m T:=.ofX hx hm.x ht (by grind)
def zTU(x:SPr):Nat:=c1 x.zA+sm c1 x.zV+sm (sm c1) x.zG
def zYI(x:SPr)(k:Int):SPr:=⟨m1 k x.zA,m2 (k+c1 x.zA) x.zV,m3 (k+c1 x.zA+sm c1 x.zV) x.zG⟩
theorem zQx{x:SPr}(h:zCW x):zTU x≤3145728:=by
 obtain⟨h1,h2,h3⟩:=h;have g2:=zGd (x:=x.zV)
 grind[zOs,zTU]
theorem zDK{x:SPr}{k:Int}(h:zCW x)(k0:0≤k)(k1:k≤1000000000):zXN x k=iF (k+zTU x,zYI x k):=by
 have ht:=zQx h;simp only[zTU]at ht;unfold zXN;rw[zId h.1 k0 (by omega),bs,zBb h.2.1 (by omega) (by omega),bs,zFe h.2.2 (by omega) (by omega),bs]
 grind[zTU,zYI]
theorem zRB(h:xs.length≤100000)(hl:∀i,i<xs.length→(xs.getD i []).length≤1000000):zYa xs=iF xs:=by
 unfold zYa;rw[vC (body:=zNH xs) xs.length (fun i=>xs.getD i []) (fun i acc hi ha=>by
  unfold zNH;simp only
  rw[yT hi,zM,yO [] hi,bs,qB (hl i hi),bs,yI (by simp;omega),bs,zE (by omega) (by omega),bs,cs]) (fun acc=>by
  unfold zNH;simp),bs]
 congr 1
 exact(zTM rfl).symm
theorem zMP{x:zO}(h:S2 x.Rows):zSj x x=iF iH:=by unfold zSj;rw[bne_self_eq_false,zQ,bne_self_eq_false,zQ,zD2 h,bs,beq_self_eq_true,Ji,zQ]
theorem zOG{x:zO}{k:Int}(h:S2 x.Rows)(k0:0≤k)(k1:k≤1000000000):zYe x k=iF (k+sm c1 x.Rows,zO.mk x.Prime x.yR (m2 k x.Rows)):=by
 have g2:=zGd (x:=x.Rows)
 grind[zYe,zBb]
theorem zOH{x:zO}{k p d:Int}(h:S2 x.Rows)(k0:0≤k)(k1:k≤1000000000):zWi (zO.mk p d (m2 k x.Rows)) k=iF (k+sm c1 x.Rows):=by
 have g2:=zGd (x:=x.Rows);have h':=h;simp only[S2]at h';unfold zWi;simp only
 rw[zMv h k0 (by omega),bs,iJ (by omega),zQ]
theorem zOI(hl:v.length≤1000000)(hk:k<v.length)(h0:∀j,j<k→at0 v j=0)(h1:at0 v k≠0):zYc v=iF (k:Int):=by
 unfold zYc;have:=zX (body:=zNI v) (r:=.inr (k:Int)) (fun i=>(i:Int)) k (fun i hi=>by
  unfold zNI zYb;rw[yT (by omega),zM,yQ (by omega),bs,bs,h0 i hi,bne_self_eq_false,zQ,zE (by omega) (by omega),bs,cs]) (by
  unfold zNI zYb;rw[yT hk,zM,yQ hk,bs,bs,kF h1,zM])
 grind
section
variable {p:Int} (hp:Prime p) {n:Nat} (hn:n≤100000) {R:Mx}{pv:Nat→Nat} (h:Red p n R pv) {v:List Int} (hv:Row p n v)
 include hp hn h
theorem zGH(hm:R.length≤100000):zWg R=iF (gl R.length fun i=>(pv i:Int)):=by
 have h7:=hp.pos;unfold zWg;rw[vC (body:=zNJ R) R.length (fun i=>(pv i:Int)) (fun i acc hi ha=>by
  have hr:=h.row i hi;have h1:=h.one i hi;unfold zNJ;simp only
  rw[yT hi,zM,yO [] hi,bs,zOI (k:=pv i) (by rw[hr.1];omega) (by grind) (fun j hj=>h.low i hi j hj) (by grind),bs,yI (by simp;omega),bs,zE (by omega) (by omega),bs,cs]) (fun acc=>by
  unfold zNJ;simp),bs]
 include hv
theorem zZY(hi:i<R.length):vZ p n (cl p n R pv v i) (0-at0 (cl p n R pv v i) (pv i)) (R.getD i [])=cl p n R pv v (i+1):=by
 have _:=hp;have _:=hn;have _:=h;have _:=hv;have _:=hi;rw[cl];refine yB fun j _=>?_
 generalize at0 (cl p n R pv v i) (pv i)=a
 generalize at0 (R.getD i []) j=b
 rw[Jcf,Jcf,Qr];have e:at0 (cl p n R pv v i) j+(p*b-a*b)=at0 (cl p n R pv v i) j+(0-a*b)+p*b:=by omega
 simp_all
theorem zIz{c:Int}(hm:R.length≤100000):zYd (zO.mk p c R) v=iF (cl p n R pv v R.length):=by
 have h7:=hp.pos;have:=zX (body:=zKn (zO.mk p c R) (gl R.length fun i=>(pv i:Int))) (r:=cl p n R pv v R.length) (fun i=>(cl p n R pv v i,(i:Int))) R.length (fun i hi=>by
  have hr:=zE3 hp hn h hv i;have ha:=hr.2 (pv i) (h.lt i hi);unfold zKn;simp only
  rw[wU,yT hi,zM,zAo hi,bs,yO [] hi,bs,yQ (by rw[hr.1];exact h.lt i hi),bs,zE (by omega) (by omega),bs,zBH hp hr (h.row i hi) (by omega) (by omega),bs,zE (by omega) (by omega),bs,cs,zZY hp hn h hv hi]) (by
  unfold zKn;simp)
 unfold zYd;rw[kS (by rw[hv.1];omega),bs];simp only
 rw[zGH hp hn h hm,bs];have e:zI (zKn (zO.mk p c R) (gl R.length fun i=>(pv i:Int))) (v,0)=iF (cl p n R pv v R.length):=this;rw[e,bs]
end
section
variable {p:Int} (hp:1<p) {n:Nat}{R R':Mx}{pv pv':Nat→Nat} (h:Red p n R pv) (h':Red p n R' pv') (hs:∀i,i<R.length→Sp p n R' (R.getD i []))
 include hp h h' hs
theorem Red.lt_of{i2 k2:Nat}(hii:i<i2)(fX:i2<R.length)(hk:k<R'.length)(e:pv' k=pv i)(e2:pv' k2=pv i2):k<k2:=by
 have _:=hp;have _:=hs;have h1:=h.mono i i2 hii fX;refine Classical.byContradiction fun hn=>?_
 rcases Jg k2 k with g|g
 ·have:=h'.mono k2 k g hk;omega
 grind
theorem Red.low_in:∀i,i<R.length→ ∃k,k<R'.length∧pv' k=pv i∧i≤k:=by
 intro i
 induction i with
 |zero=>intro hi;obtain⟨k,hk,e⟩:=h.piv_in hp h' hs hi;grind
 |succ i ih=>
  intro hi;obtain⟨k,hk,e,i6⟩:=ih (by omega);obtain⟨k2,fV,e2⟩:=h.piv_in hp h' hs hi;have:=h.lt_of hp h' hs (by simp) hi hk e e2
  grind
theorem Red.le_of:R.length≤R'.length:=by
 rcases Jbs R.length with g|g
 ·omega
 ·obtain⟨k,hk,_,i6⟩:=h.low_in hp h' hs (R.length-1) (by omega)
  omega
end
theorem zHc:at0 (u++v) j=if j<u.length then at0 u j else at0 v (j-u.length):=by grind
theorem zI0:at0 (v.drop c) j=at0 v (c+j):=by simp
theorem zTV(h:j<c):at0 (v.take c) j=at0 v j:=by grind
theorem zHd{f:Nat→Int}(t:Nat):∀d:Nat,S (t+d) f=S t f+S d (fun i=>f (t+i))
 |0=>by simp[S]
 |d+1=>by rw[←Qd];simp only[S];rw[zHd t d];omega
theorem zZZ{t:Nat}(ht:t≤n)(h:∀i,i<t→f i=0):S n f=S (n-t) (fun i=>f (t+i)):=by
 have e:n=t+(n-t):=by omega
 conv=>lhs;rw[e,zHd,xZ (g:=fun _=>0) h,qD]
 omega
theorem wF{F:Nat→List Int}(h:i<m):(gl m F).getD i []=F i:=by grind
def ur(N i:Nat):List Int:=mkv N fun j=>if j=i then 1 else 0
def wd(N:Nat)(A:Mx):Mx:=gl N fun i=>A.getD i []++ur N i
def Gr(p:Int)(c N:Nat)(A:Mx)(u:List Int):Prop:=∀j,j<c→at0 u j%p=(S N fun k=>at0 u (c+k)*ent A k j)%p
section
variable {p:Int} (hp:1<p) {c N:Nat}{A:Mx} (hA:∀i,i<N→Row p c (A.getD i []))
 include hA
theorem zDj:(wd N A).length=N:=by have _:=hA;exact wU
theorem zKX(hi:i<N)(hj:j<c):ent (wd N A) i j=ent A i j:=by rw[ent,wd,wF hi,zHc,(hA i hi).1,if_pos hj]
theorem zBJ{l:Nat}(hi:i<N)(hl:l<N):ent (wd N A) i (c+l)=if l=i then 1 else 0:=by
 rw[ent,wd,wF hi,zHc,(hA i hi).1,if_neg (by omega),Lu,ur,yA hl]
 include hp
theorem zTW(hi:i<N):Row p (c+N) ((wd N A).getD i []):=by
 refine⟨by rw[wd,wF hi,J9,(hA i hi).1,ur,zY],fun j hj=>?_⟩;rcases Jg j c with g|g
 ·have:=(hA i hi).2 j g
  have e:=zKX hA hi g
  grind
 ·have e:=zBJ hA (l:=j-c) hi (by omega)
  grind
theorem yCr:Sp p (c+N) (wd N A) u↔Gr p c N A u:=by
 have _:=hp;constructor
 ·rintro⟨cf,fE⟩ j hj
  rw[zDj hA]at fE;rw[←fE j (by omega)];refine zAl fun k hk=>?_
  have h1:=fE (c+k) (by omega);rw[jX (k:=k) hk (fun i hi gg=>by rw[zBJ hA hi hk,if_neg (Ne.symm gg),La]),zBJ hA hk hk,if_pos rfl,Ls]at h1;rw[zKX hA hk hj,Ju,h1,←Ju]
 ·intro h
  refine⟨fun k=>at0 u (c+k),fun j hj=>?_⟩;rw[zDj hA];rcases Jg j c with g|g
  ·rw[h j g]
   refine congrArg (· %p) (xZ fun k hk=>?_);rw[zKX hA hk g]
  ·obtain⟨l,rfl⟩:∃l,j=c+l:=⟨j-c,by omega⟩
   rw[jX (k:=l) (by omega) (fun i hi gg=>by rw[zBJ hA hi (by omega),if_neg (Ne.symm gg),La]),zBJ hA (by omega) (by omega),if_pos rfl,Ls]
variable {W:Mx}{pv:Nat→Nat} (hW:Red p (c+N) W pv) (hs:jY p (c+N) W (wd N A))
 include hW
theorem yAa:∃t,t≤W.length∧(∀i,i<t→pv i<c)∧ ∀i,t≤i→i<W.length→c≤pv i:=by
 have _:=hA;have _:=hp;obtain⟨t,ht,eY⟩:=zDR (p:=fun t=>W.length≤t∨c≤pv t) ⟨W.length,.inl (Jh _)⟩;have gH:∀i,i<t→i<W.length∧pv i<c:=fun i hi=>by have:=eY i hi;exact⟨Jb5 fun h=>this (.inl h),Jb5 fun h=>this (.inr h)⟩
 refine⟨t,Nat.le_of_not_lt fun h=>?_,fun i hi=>(gH i hi).2,fun i hi fX=>?_⟩
 ·have:=(gH W.length h).1;omega
 ·rcases ht with h|h
  ·omega
  ·rcases Jg t i with g|g
   ·have:=hW.mono t i g fX;omega
   ·rw[show i=t from by omega];exact h
def nul(c t:Nat)(W:Mx):Mx:=gl (W.length-t) fun i=>(W.getD (t+i) []).drop c
 omit hp hA hW in
theorem zFr{t:Nat}(hi:t+i<W.length):ent (nul c t W) i j=ent W (t+i) (c+j):=by rw[ent,nul,wF (by omega),zI0]
variable {t:Nat} (ht:t≤W.length) (h1:∀i,i<t→pv i<c) (h2:∀i,t≤i→i<W.length→c≤pv i)
 include ht h1 h2
theorem zXk:Red p N (nul c t W) (fun i=>pv (t+i)-c):=by
 have _:=hp;have _:=hA;have _:=h1;have _:=ht;have hl:(nul c t W).length=W.length-t:=wU;have hpc:∀i,i<W.length-t→c≤pv (t+i):=by grind
 refine⟨fun i hi=>?_,fun i hi=>?_,fun i hi=>?_,fun i hi j hj=>?_,fun i k hi hk gg=>?_,fun i j gR hj=>?_⟩
 ·rw[hl]at hi
  have hr:=hW.row (t+i) (by omega);refine⟨by rw[nul,wF hi,Kr,hr.1];omega,fun j hj=>?_⟩;have:=hr.2 (c+j) (by omega)
  grind[nul]
 ·rw[hl]at hi
  have:=hW.lt (t+i) (by omega)
  grind
 ·rw[hl]at hi
  rw[zFr (by omega),show c+(pv (t+i)-c)=pv (t+i)from by grind];exact hW.one _ (by omega)
 ·rw[hl]at hi
  rw[zFr (by omega)];exact hW.low _ (by omega) _ (by omega)
 ·rw[hl]at hi hk
  rw[zFr (by omega),show c+(pv (t+i)-c)=pv (t+i)from by grind];exact hW.off _ _ (by omega) (by omega) (by omega)
 ·rw[hl]at hj
  have:=hW.mono (t+i) (t+j) (by omega) (by omega)
  grind
 include hs
theorem yCs:Sp p (c+N) W u↔Gr p c N A u:=by have _:=hW;have _:=ht;have _:=h1;have _:=h2;exact hs.iff.trans (yCr hp hA)
theorem yAb{x:List Int}:Sp p N (nul c t W) x↔ ∀j,j<c→(S N fun k=>at0 x k*ent A k j)%p=0:=by
 have hl:(nul c t W).length=W.length-t:=wU;constructor
 ·rintro⟨cf,fE⟩ j hj
  rw[hl]at fE;have e1:(S N fun k=>at0 x k*ent A k j)%p=(S N fun k=>(S (W.length-t) fun i=>cf i*ent (nul c t W) i k)*ent A k j)%p:=by grind[zAl,Ju]
  have e2:(S N fun k=>(S (W.length-t) fun i=>cf i*ent (nul c t W) i k)*ent A k j)=S (W.length-t) fun i=>cf i*S N fun k=>ent W (t+i) (c+k)*ent A k j:=by
   rw[xZ (g:=fun k=>S (W.length-t) fun i=>cf i*(ent W (t+i) (c+k)*ent A k j)) (fun k hk=>by rw[←zM7];exact xZ (by grind[zFr])),zIq]
   grind[zDg]
  have e3:(S (W.length-t) fun i=>cf i*S N fun k=>ent W (t+i) (c+k)*ent A k j)%p=(S (W.length-t) fun _=>0)%p:=zAl fun i hi=>by have h:=(yCs hp hA hW hs ht h1 h2).1 (qG (p:=p) (n:=c+N) (R:=W) (i:=t+i) (by omega)) j hj;have hz:=hW.low (t+i) (by omega) j (by grind);simp only[ent]at hz;rw[hz]at h;rw[Ju,show(S N fun k=>ent W (t+i) (c+k)*ent A k j)%p=0 from h.symm,La]
  rw[e1,e2,e3,qD];rfl
 ·intro h0
  let u:List Int:=mkv (c+N) fun j=>if j<c then 0 else at0 x (j-c)
  have cC:∀j,j<c→at0 u j=0:=fun j hj=>by rw[yA (by omega),if_pos hj]
  have cZ:∀k,k<N→at0 u (c+k)=at0 x k:=fun k hk=>by rw[yA (by omega),if_neg (by omega),Lu]
  have hg:Gr p c N A u:=fun j hj=>by rw[cC j hj,xZ (g:=fun k=>at0 x k*ent A k j) (by grind),h0 j hj];rfl
  have hx:=hW.expand ((yCs hp hA hW hs ht h1 h2).2 hg);refine⟨fun i=>at0 u (pv (t+i)),fun j hj=>?_⟩;have h3:=hx (c+j) (by omega);rw[cZ j hj,zZZ ht (by grind)]at h3;rw[hl,h3];exact congrArg (· %p) (xZ (by grind[zFr]))
end
theorem zKY(hl:v.length≤1000000):IsB (f_U v) (∀i,i<v.length→at0 v i=0):=by
 refine sZ v.length (fun i=>at0 v i=0) rfl (fun i hi _=>?_) ?_
 ·refine tC (o:=iF (at0 v i==0)) (IsB.of_bool (by simp)) (by omega) ?_
  unfold zNu;rw[yT hi,zM,yQ hi,bs,bs];rfl
 ·unfold zNu
  simp
section
variable {n D:Nat}{m:zB} (hm:MOk n m D) (hn:n≤9)
 include hm hn
def yCt(m:zB)(D:Nat)(rows:Mx):Prop:=∀i,i<rows.length→Row m.Prime D (rows.getD i [])
theorem zKZ{rows:Mx}(hl:rows.length≤1048576):IsB (yAG m rows) (yCt m D rows):=by
 have _:=hn;have h3:=hm.d3;refine sZ (body:=zNA m rows) rows.length (fun i=>Row m.Prime D (rows.getD i [])) rfl (fun i hi _=>?_) ?_
 ·refine tC (zGF hm.p (D:=D) (by omega)) (by omega) ?_
  unfold zNA;rw[yT hi,zM,yO [] hi,bs,hm.d]
 ·unfold zNA
  simp
end
structure Nul (p:Int) (c N:Nat) (A W:Mx) (pv:Nat→Nat) (t:Nat):Prop where
 row:∀i,i<N→Row p c (A.getD i [])
 len:A.length=N
 red:Red p (c+N) W pv
 sp:jY p (c+N) W (wd N A)
 le:t≤W.length
 lo:∀i,i<t→pv i<c
 hi:∀i,t≤i→i<W.length→c≤pv i
section
variable {p:Int} (hp:Prime p) {c N:Nat} (fF:c+N≤100000) {A W:Mx}{pv:Nat→Nat}{t:Nat}
 include hp fF
theorem Nul.get(hr:∀i,i<N→Row p c (A.getD i []))(hl:A.length=N):∃W pv t,Nul p c N A W pv t∧f_r p (wd N A)=iF W∧f_i p (wd N A)=iF W:=by have h7:=hp.pos;obtain⟨W,pv,r1,r2,r3,r4⟩:=jP hp (n:=c+N) fF (rows:=wd N A) (by rw[zDj hr];omega) (fun i hi=>zTW (by omega) hr (by rwa [zDj hr]at hi));obtain⟨t,t1,t2,t3⟩:=yAa (by omega) hr r3;exact⟨W,pv,t,⟨hr,hl,r3,r4,t1,t2,t3⟩,r1,r2⟩
variable (h:Nul p c N A W pv t)
 include h
theorem Nul.nred:Red p N (nul c t W) (fun i=>pv (t+i)-c):=by have _:=fF;have h7:=hp.pos;exact zXk (by omega) h.row h.red h.le h.lo h.hi
theorem Nul.nsp{x:List Int}:Sp p N (nul c t W) x↔ ∀j,j<c→(S N fun k=>at0 x k*ent A k j)%p=0:=by have _:=fF;have h7:=hp.pos;exact yAb (by omega) h.row h.red h.sp h.le h.lo h.hi
theorem Nul.full:W.length=N:=by
 have h7:=hp.pos;have g1:W.length≤(wd N A).length:=zIw hp (n:=c+N) fF (by rw[zDj h.row];omega) (fun i hi=>zTW (by omega) h.row (by rwa [zDj h.row]at hi)) h.red h.sp;rw[zDj h.row]at g1;have hl:(gl W.length fun i=>(W.getD i []).drop c).length=W.length:=wU;have hR:∀i,i<W.length→Row p N ((gl W.length fun i=>(W.getD i []).drop c).getD i []):=fun i hi=>by have hr:=h.red.row i hi;rw[wF hi];refine⟨by rw[Kr,hr.1];omega,fun j hj=>?_⟩;rw[zI0];exact hr.2 (c+j) (by omega)
 obtain⟨R3,pv3,_,_,g3,g4⟩:=jP hp (n:=N) (by omega) (rows:=gl W.length fun i=>(W.getD i []).drop c) (by omega) (by grind);have g5:=zIw hp (n:=N) (by omega) (by omega) (by grind) g3 g4;have fC:(gl N (ur N)).length=N:=wU;have bp:∀i j,i<N→j<N→ent (gl N (ur N)) i j=if j=i then 1 else 0:=fun i j hi hj=>by rw[ent,wF hi,ur,yA hj]
 have ey:Red p N (gl N (ur N)) (fun i=>i):=by
  refine⟨fun i hi=>?_,fun i hi=>by omega,fun i hi=>?_,fun i hi j hj=>?_,by grind,fun i j gR hj=>gR⟩
  ·rw[fC]at hi
   rw[wF hi];refine⟨zY _ _,fun j hj=>?_⟩
   grind
  all_goals grind
 have g6:=ey.le_of (by omega) g3 (fun i hi=>by rw[fC]at hi;refine g4.iff.2 ?_;obtain⟨cf,fE⟩:=h.sp.2 i (by rw[zDj h.row];exact hi);refine⟨cf,fun j hj=>?_⟩;have h1:=fE (c+j) (by omega);have h2:=zBJ h.row hi hj;simp only[ent]at h2;rw[h2]at h1;have h3:=bp i j hi hj;simp only[ent]at h3;rw[h3,hl,←h1];exact congrArg (· %p) (xZ (by grind)))
 omega
 omit h in
theorem zOJ{N:Nat}(hN:N≤100000):f_C (N:Int)=iF (gl N (ur N)):=by
  have _:=hp;have _:=fF;unfold f_C;rw[vC (body:=zIW (N:Int)) N (ur N) (fun i acc hi ha=>by
    unfold zIW;simp only
    rw[yT hi,zM,xF (by omega),bs,vP,Kb,if_pos hi,bs,J6,uH,qL,yI (by simp;omega),bs,zE (by omega) (by omega),bs,cs];rfl) (fun acc=>by
    unfold zIW;simp),bs]
 omit h in
theorem zRC(hr:∀i,i<N→Row p c (A.getD i []))(hl:A.length=N):zXT p A=f_r p (wd N A):=by
  unfold zXT;rw[hl,zOJ hp fF (by omega),bs,vC (body:=zN8 A (gl N (ur N))) N (fun i=>A.getD i []++ur N i) (fun i acc hi ha=>by
    unfold zN8;simp only
    rw[hl,yT hi,zM,yO [] (by omega),bs,qB (by rw[(hr i hi).1];omega),bs,zAo hi,bs,yI (by rw[(hr i hi).1,ur,zY];omega),bs,yI (by simp;omega),bs,zE (by omega) (by omega),bs,cs]) (fun acc=>by
    unfold zN8
    grind),bs]
  grind[wd]
theorem zRD:zI (zKm (c:Int) W) ([],0)=iF (nul c t W):=by
 have hf:=h.full hp fF;have hle:=h.le;have:=zX (body:=zKm (c:Int) W) (r:=nul c t W) (fun i=>(gl (i-t) (fun k=>(W.getD (t+k) []).drop c),(i:Int))) W.length (fun i hi=>by
  have hr:=h.red.row i hi;have h1:=h.red.one i hi;have gH:=h.red.lt i hi;have az:=zHb (n:=c+N) hr.1 (by omega) gH (h.red.low i hi) (by grind);unfold zKm;simp only
  rw[yT hi,zM,yO [] hi,bs,az,bs];rcases Jg i t with g|g
  ·have:=h.lo i g
   rw[iJ (by omega),zQ,zE (by omega) (by omega),bs,cs,show i-t=0 from by omega,show i+1-t=0 from by omega]
  ·have:=h.hi i g hi
   have e:yD (W.getD i []) (c:Int) ((W.getD i []).length:Int)=iF ((W.getD i []).drop c):=by unfold yD;rw[if_pos (by grind),J6,J6,Jn (by rw[Kr];omega)]
   rw[iL (by omega),zM,bs,e,bs,qB (by rw[Kr,hr.1];omega),bs,yI (by rw[wU];simp;omega),bs,zE (by omega) (by omega),bs,cs,show i+1-t=(i-t)+1 from by omega,←zBe,show t+(i-t)=i from by omega]) (by
  unfold zKm;simp only
  rw[qA,zQ];rfl)
 grind
end
theorem zQy{β:Type}{F:Nat→β}:gl (n+1) F=gl n F++[F n]:=zBe.symm
theorem zQz{β:Type}{L:Nat}{F:Nat→List β}:∀{n:Nat},(∀i,i<n→(F i).length=L)→(gl n F).flatten.length=n*L
 |0,_=>by simp[gl]
 |n+1,h=>by
  rw[zQy,Jad,J9,zQz fun i hi=>h i (by omega),K8]
  grind
theorem zTX{body:List β×Int→Option ((List β×Int)⊕List β)}(n L:Nat)(F:Nat→List β)(a0:List β)(hF:∀i,i<n→(F i).length=L)
  (h:∀i acc,i<n→acc.length=a0.length+i*L→body (acc,(i:Int))=iF (.inl (acc++F i,((i+1:Nat):Int))))(he:∀acc,body (acc,(n:Int))=iF (.inr acc)):
  zI body (a0,0)=iF (a0++(gl n F).flatten):=by
 have:=zX (body:=body) (r:=a0++(gl n F).flatten) (fun i=>(a0++(gl i F).flatten,(i:Int))) n (fun i hi=>by rw[h i _ hi (by grind[zQz]),zQy,Jad,Jj];simp) (he _)
 grind
theorem zI1{α:Type}{f:α→α}{a:α}(h:f a=a):∀k,iter k f a=a
 |0=>rfl
 |k+1=>by show iter k f (f a)=a;rw[h];exact zI1 h k
theorem zTY{p:Int}{D:Nat}{A:List Mx}:∀(v:Vec)(o:Nat)(B:Mx),o+v.length≤A.length→wM p D A (nw o v) B=img (PM p D) (A.drop o) v B
 | [],o,B,_=>by simp[nw,wM,img]
 |a::v,o,B,h=>by
  simp only[J8]at h;have e:A.drop o=A.getD o []::A.drop (o+1):=by grind[Hl]
  rw[e];simp only[nw,img];rw[zD5,zIt,zTY v (o+1) _ (by omega)]
theorem zDk:∀(k o:Nat),nw o (zeros k)=[]
 |0,_=>rfl
 |k+1,o=>by rw[show zeros (k+1)=0::zeros k from rfl];simp only[nw];rw[zDk k];rfl
section
variable {x:SPr}{m:zB}{D:Nat} (h:Pres x) (hm:zTK x.zA.length m D) (hr:zC6 x m D)
 include hm
 include h hr
theorem zQ0:∀(d k:Nat),k+d=x.zA.length→Rel (PM m.Prime D) (idM D) (suf x k) (m.zF.drop k)
 |0,k,hk=>by rw[vX (by omega),U7 (by rw[hm.len];omega)];exact rfl
 |d+1,k,bf=>by
  have h6:=h.os.1;have hk:k<x.zA.length:=by omega
  have gj:=hm.len;have e:m.zF.drop k=m.zF.getD k []::m.zF.drop (k+1):=by simp_all
  obtain⟨t1,t2,t3⟩:=h.tl k hk;obtain⟨r1,r2⟩:=hr k hk;have t9:∀v,Exp x.zA v k→wM m.Prime D m.zF (nw 0 v) (idM D)=img (PM m.Prime D) (m.zF.drop (k+1)) (v.drop (k+1)) (idM D):=fun v hv=>by
   have hl:=hv.1.1
   conv=>lhs;rw[zAA hv hk]
   rw[zD4,zDk,K0,yC,zTY _ _ _ (by grind),Ja]
  rw[yG hk,e];refine⟨?_,fun q c dd hc hd=>?_,zQ0 d (k+1) (by omega)⟩
  ·grind[pw,lvl,zIt]
  ·rw[Hq]at hc
   have hq:k+1+q<m.zF.length:=by grind
   have df:c=m.zF.getD (k+1+q) []:=by grind
   have br:dd=((x.zG.getD k []).getD q []).drop (k+1):=by grind[lvl]
   have:=r2 (k+1+q) (by omega) (by omega);rw[show k+1+q-(k+1)=q from by omega]at this;rw[df,br,this,t9 _ (t3 q (by omega))]
end
theorem zFs{p:Int}(fF:c+N≤100000)(hr:∀i,i<N→Row p c (A.getD i []))(hl:A.length=N):zXP A=iF (wd N A):=by
 unfold zXP;rw[vC (body:=zN3 A) N (fun i=>A.getD i []++ur N i) (fun i acc hi ha=>by
  have h1:=(hr i hi).1;have e:wX (J1 (c+N) (0:Int)) 0 ((A.getD i []).take (((J1 (c+N) (0:Int)).length)-0))=A.getD i []++J1 N 0:=by unfold wX;rw[Jc,Jn (l:=A.getD i []) (by omega),Kd,K0,h1,L6];simp
  have e2:ixO (A.getD i []++J1 N (0:Int)) ((c+i:Nat):Int)=iF 0:=by rw[vP,Jk (by omega),h1,Kb,if_pos (by omega)]
  unfold zN3;simp only
  rw[hl,yT hi,zM,yO [] (by omega),bs,h1,←Hi,zE (by omega) (by omega),bs,xF (by omega),bs,←Hi,zE (by omega) (by omega),bs,e,e2,bs,J6,Hp _ _ (by omega),h1,Lu,uH,qL,yI (by simp;omega),bs,zE (by omega) (by omega),bs,cs];rfl) (fun acc=>by
  unfold zN3
  grind),bs]
 rfl
theorem zMQ{p:Int}(hp:Prime p)(hn:n≤100000){R:Mx}(h:Red p n R pv):f_r p R=iF R∧f_i p R=iF R:=by
 have h7:=hp.pos;have hl:R.length≤n:=h.len_le;obtain⟨R2,pv2,r1,r2,r3,r4⟩:=jP hp hn (rows:=R) (by omega) h.row;have e:=r3.unique (by omega) h r4
 grind
section
variable {p:Int} (hp:Prime p) {c N:Nat} (fF:c+N≤100000) {A W:Mx}{pv:Nat→Nat}{t:Nat}
 include hp fF
theorem zMR(h:Nul p c N A W pv t):zI (zSk (c:Int) W) ([],0)=iF (nul c t W):=by
 have h7:=hp.pos;have hf:=h.full hp fF;have hle:=h.le;have:=zX (body:=zSk (c:Int) W) (r:=nul c t W) (fun i=>(gl (i-t) (fun k=>(W.getD (t+k) []).drop c),(i:Int))) W.length (fun i hi=>by
  have hr:=h.red.row i hi;have h1:=h.red.one i hi;have e0:yD (W.getD i []) 0 (c:Int)=iF ((W.getD i []).take c):=by unfold yD;rw[if_pos ⟨by omega,by omega,by rw[hr.1];omega⟩,J6,show(0:Int).toNat=0 from rfl,U6,Jav]
  have fN:((W.getD i []).take c).length=c:=by rw[Kk,hr.1];omega
  have hz:=zKY (v:=(W.getD i []).take c) (by omega);unfold zSk;simp only
  rw[yT hi,zM,yO [] hi,bs,e0,bs];rcases Jg i t with g|g
  ·have eF:=h.lo i g
   rcases hz with⟨_,z⟩|⟨z,_⟩
   ·grind
   ·rw[z,bs,zQ,zE (by omega) (by omega),bs,cs,show i-t=0 from by omega,show i+1-t=0 from by omega]
  ·have fD:=h.hi i g hi
   have e:yD (W.getD i []) (c:Int) ((W.getD i []).length:Int)=iF ((W.getD i []).drop c):=by unfold yD;rw[if_pos (by grind),J6,J6,Jn (by rw[Kr];omega)]
   rcases hz with⟨z,_⟩|⟨_,z⟩
   ·rw[z,bs,zM,e,bs,yI (by grind),bs,zE (by omega) (by omega),bs,cs,show i+1-t=(i-t)+1 from by omega,←zBe,show t+(i-t)=i from by omega]
   ·refine absurd (fun j hj=>?_) z
    rw[fN]at hj;rw[zTV hj];have:=h.red.low i hi j (by omega);omega) (by
  unfold zSk;simp only
  rw[qA,zQ];rfl)
 grind
theorem zGm(hr:∀i,i<N→Row p c (A.getD i []))(hl:A.length=N):∃K pk,zXU p A (c:Int)=iF K∧f_O p A (c:Int)=iF K∧Red p N K pk∧ ∀x,Sp p N K x↔ ∀j,j<c→(S N fun k=>at0 x k*ent A k j)%p=0:=by
 obtain⟨W,pv,t,h1,h2,h3⟩:=Nul.get hp fF hr hl;refine⟨nul c t W,_,?_,?_,h1.nred hp fF,fun x=>h1.nsp hp fF⟩
 ·grind[zXU,zRC,zRD]
 ·unfold f_O
  rw[zFs fF hr hl,bs,h3,bs,zMR hp fF h1,bs,(zMQ hp (by omega) (h1.nred hp fF)).2,bs]
end
section
variable {x:SPr} (h:Pres x)
 include h
theorem zTZ:∀k,k≤x.zA.length→2*((Jb k).flatMap (R2 x)).length+k*k+k=2*(x.zA.length*k)
 |0,_=>by simp
 |k+1,hk=>by
  have ih:=zTZ k (by omega);have t2:=(h.tl k (by omega)).2.1;have e:((Jb (k+1)).flatMap (R2 x)).length=((Jb k).flatMap (R2 x)).length+(x.zG.getD k []).length:=by grind[L7,R2]
  grind
theorem zRE:2*(wD x).length=x.zA.length*(x.zA.length+1):=by
 have:=zTZ h x.zA.length (Jh _)
 grind[wD]
end
theorem zFt{α:Type}{F:α→List Int}{D c:Nat}(hc:c<D):∀(L:List α)(a:Nat)(q:α),(∀q∈L,(F q).length=D)→L[a]? =iF q→at0 ((L.map F).flatten) (a*D+c)=at0 (F q) c
 | [],a,q,_,h=>by simp at h
 |y::L,0,q,hF,h=>by grind
 |y::L,a+1,q,hF,h=>by have h1:=hF y (by simp);simp only[Jcc]at h;rw[Jr,Hn,zHc,K8,if_neg (by omega),show a*D+D+c-(F y).length=a*D+c from by omega];exact zFt hc L a q (by grind) h
theorem zGn{α:Type}{F:α→List Int}{D:Nat}:∀(L:List α),(∀q∈L,(F q).length=D)→((L.map F).flatten).length=L.length*D
 | [],_=>by simp
 |y::L,h=>by
  have:=zGn L fun q hq=>h q (by simp[hq])
  grind
def zFu{α:Type}(N:Nat)(F:Nat→α→List Int)(L:List α):Mx:=gl N fun k=>(L.map (F k)).flatten
section
variable {α:Type}{p:Int}{N D:Nat}{F:Nat→α→List Int} (hF:∀k,k<N→ ∀q,Row p D (F k q))
 include hF
theorem zKf(L:List α):∀k,k<N→Row p (L.length*D) ((zFu N F L).getD k []):=by
 intro k hk;rw[zFu,wF hk];refine zKV.2 ⟨zGn L fun q _=>(hF k hk q).1,fun v hv=>?_⟩;obtain⟨r,h1,h2⟩:=Jb1.1 hv;obtain⟨q,_,rfl⟩:=Jl.1 h1
 grind[zKV]
end
def zE6(n D:Nat)(v:List Int):Mx:=gl n fun i=>mkv D fun j=>at0 v (i*D+j)
theorem zUa(h:a+D≤v.length):(v.drop a).take D=mkv D fun j=>at0 v (a+j):=by
 have hl:((v.drop a).take D).length=D:=by grind
 rw[vH hl]
 grind[yB]
theorem zGo(h:a+D≤v.length):yD v (a:Int) ((a+D:Nat):Int)=iF (mkv D fun j=>at0 v (a+j)):=by unfold yD;rw[if_pos (by omega),J6,J6,Lu,zUa h]
theorem yAc{p:Int}(hv:Row p (n*D) v):VOk n p D (zE6 n D v):=by
 refine⟨wU,fun i hi=>?_⟩;rw[zE6,wF hi];refine⟨zY _ _,fun j hj=>?_⟩;rw[yA hj];have:i*D+D≤n*D:=by
  have:=K6 D (show i+1≤n by omega)
  grind
 exact hv.2 _ (by omega)
theorem zCo(hi:i<n):i*D+D≤n*D:=by
 have:=K6 D (show i+1≤n by omega)
 grind
theorem zI2(hD:1≤D)(hl:v.length=n*D)(hs:n*D≤100000):zSb v (D:Int)=iF (zE6 n D v):=by
 have hn:n≤n*D:=Jam n hD;have:=zX (body:=zN9 v (D:Int)) (r:=zE6 n D v) (fun i=>(gl i fun i=>mkv D fun j=>at0 v (i*D+j),((i*D:Nat):Int))) n (fun i hi=>by
  have h1:=zCo (D:=D) hi;unfold zN9;simp only
  rw[iL (by omega),zM,←Hi,zE (by omega) (by omega),bs,zGo (by omega),bs,kS (by grind[zY]),bs,yI (by rw[wU];simp;omega),bs,bs,zBe,←K8]) (by
  unfold zN9;simp only
  rw[iJ (by omega),zQ];rfl)
 grind[zSb]
theorem zUb(hD:1≤D)(hD3:D≤1000)(hl:v.length=n*D)(hs:n*D≤100000):zWj v (D:Int)=iF (zE6 n D v):=by
 have hn:n≤n*D:=Jam n hD;have:=zX (body:=zNL v (D:Int)) (r:=zE6 n D v) (fun i=>(gl i fun i=>mkv D fun j=>at0 v (i*D+j),((i*D:Nat):Int))) n (fun i hi=>by
  have h1:=zCo (D:=D) hi;unfold zNL;simp only
  rw[←Hi,zE (by omega) (by omega),bs,iL (by omega),zM,bs,zGo (by omega),bs,qB (by grind[zY]),bs,yI (by rw[wU];simp;omega),bs,bs,zBe,←K8]) (by
  unfold zNL;simp only
  rw[←Hi,zE (by omega) (by omega),bs,iJ (by omega),zQ];rfl)
 grind[zWj]
section
variable {x:SPr} (h:Pres x) {m:zB}{D:Nat} (hm:MOk x.zA.length m D)
 include h hm
section
variable {vals:Mx} (hv:VOk x.zA.length m.Prime D vals)
 include hv
theorem zOK:f_t x m vals=iF ((wD x).map (dfc m D vals)):=by
 have h6:=h.os.1;have h7:=hm.p.pos;have h3:=hm.d3;have cU:=h.pl;have gC:=h.cl;have hz:=zE1 (p:=m.Prime) (D:=D) (by omega);unfold f_t;rw[hm.d,xF (by omega),bs];have e1:=vC (body:=zWl x m vals D) x.zA.length (fun i=>dfc m D vals (r1 x i)) (fun i acc hi ha=>by
  obtain⟨p1,p2⟩:=jO h.os (h.tl i hi).1;have ho:=(h.os.2 i hi).pos;unfold zWl;simp only
  rw[yT hi,zM];rw[uF (S:=Row m.Prime D) (body:=zWk x m vals (acc,(i:Int))) (fun v=>v) (fun v=>stp m D vals v i) (at0 x.zA i) (by omega) (by grind[zCm]) (fun u q hu hq=>by
   unfold zWk;simp only
   rw[yQ hi,bs,iL hq,zM,zBI hm h6 hv hu hi,bs,zE (by omega) (by omega),bs,cs]) (fun u hu=>by
   unfold zWk;simp only
   rw[yQ hi,bs,iJ (by omega),zQ]) hz,bs,zE (by omega) (by omega),bs,yO [] (by omega),bs,zGG hm h6 hv hz p1 p2,bs,←zO4]
  have e1:f_A m.Prime (ev m D vals (z0 D) (J1 (at0 x.zA i).toNat i)) (m.Prime-1) (ev m D vals (z0 D) (nw 0 (x.zV.getD i [])))=iF (dfc m D vals (r1 x i)):=by rw[tY hm.p (zE2 hm h6 hv hz _) (zE2 hm h6 hv hz _) (by omega) (by omega),zE0];rfl
  grind[yI,zE]) (fun acc=>by
  unfold zWl;simp)
 rw[e1,bs];have dc:=zIv h;have e2:=zX (body:=zWn x m vals D) (r:=(wD x).map (dfc m D vals)) (fun i=>(((Jb x.zA.length).map (fun i=>dfc m D vals (r1 x i)))++((Jb i).flatMap (R2 x)).map (dfc m D vals),(i:Int))) x.zA.length (fun i hi=>by
  have t2:=(h.tl i hi).2.1;have hfi:=dc i (by omega);unfold zWn;simp only
  rw[yT hi,zM,zE (by omega) (by omega),bs,cs];have gO:=zX (body:=zWm x m vals D (((Jb x.zA.length).map (fun i=>dfc m D vals (r1 x i)))++((Jb i).flatMap (R2 x)).map (dfc m D vals),(i:Int)))
   (r:=((Jb x.zA.length).map (fun i=>dfc m D vals (r1 x i)))++((Jb (i+1)).flatMap (R2 x)).map (dfc m D vals))
   (fun j=>(((Jb x.zA.length).map (fun i=>dfc m D vals (r1 x i)))++((Jb i).flatMap (R2 x)).map (dfc m D vals)++(Jb j).map (fun j=>dfc m D vals (r2 x i j)),((i+1+j:Nat):Int))) (x.zG.getD i []).length (fun j hj=>by
   obtain⟨c1,c2⟩:=jO h.os ((h.tl i hi).2.2 j hj);have bU:i+1+j<x.zA.length:=by omega
   have s1:=zBI hm h6 hv hz bU;have s2:=zBI hm h6 hv (zCm hm h6 hv (v:=z0 D) (w:=i+1+j)) hi;have s3:=zBI hm h6 hv hz hi;have s4:=zGG hm h6 hv (zCm hm h6 hv (v:=z0 D) (w:=i)) c1 c2;unfold zWm;simp only
   rw[yT bU,zM,s1,bs,s2,bs,s3,bs,yO [] (by omega),bs,zE (by omega) (by omega),bs,zE (by omega) (by omega),bs,show(((i+1+j:Nat):Int)-(i:Int)-1)=(j:Int)from by omega,yO [] hj,bs,s4,bs,zE (by omega) (by omega),bs];have e2:f_A m.Prime (stp m D vals (stp m D vals (z0 D) (i+1+j)) i) (m.Prime-1) (ev m D vals (stp m D vals (z0 D) i) (nw 0 ((x.zG.getD i []).getD j [])))=iF (dfc m D vals (r2 x i j)):=by
    rw[tY hm.p (zCm hm h6 hv) (by grind[zE2,zCm]) (by omega) (by omega),zE0];simp only[dfc,r2,ev,G6,List.foldl_nil]
    grind
   rw[e2,bs,yI (by grind[Jt]),bs,zE (by omega) (by omega),bs,cs,L7,Lm,Jj];rfl) (by
   unfold zWm;simp only
   rw[show i+1+(x.zG.getD i []).length=x.zA.length from by omega,qA,zQ,L7 (n:=i),Jcz,Lm,←Jj];simp[R2])
  simp_all) (by
  unfold zWn;simp only
  rw[qA,zQ];simp only[wD,Lm,Ja7];rfl)
 simp_all
end
def uv(n D k:Nat):Mx:=zE6 n D (qQ (n*D) k)
theorem zQ1:VOk x.zA.length m.Prime D (uv x.zA.length D k):=by have _:=h;have h7:=hm.p.pos;exact yAc (zR8 h7.1)
theorem zUc:∀k,k<x.zA.length*D→ ∀q,Row m.Prime D (dfc m D (uv x.zA.length D k) q):=fun k _ q=>by have _:=h;exact zAm hm.p
theorem zUd:zSb (qQ (x.zA.length*D) k) (D:Int)=iF (uv x.zA.length D k):=by have h6:=h.os.1;have h3:=hm.d3;have cJ:x.zA.length*D≤9*3:=Jm h6 h3;exact zI2 hm.d1 (zY _ _) (by omega)
theorem yAd:zWj (qQ (x.zA.length*D) k) (D:Int)=iF (uv x.zA.length D k):=by have h6:=h.os.1;have h3:=hm.d3;have cJ:x.zA.length*D≤9*3:=Jm h6 h3;exact zUb hm.d1 (by omega) (zY _ _) (by omega)
theorem zI3{vals:Mx}{L:List Rl}:((L.map (dfc m D vals)).flatten).length=L.length*D:=by have _:=h;have _:=hm;grind[zGn,zFi]
theorem zGP:zWo x m=iF (zFu (x.zA.length*D) (fun k=>dfc m D (uv x.zA.length D k)) (wD x)):=by
 have h6:=h.os.1;have h3:=hm.d3;have cJ:x.zA.length*D≤9*3:=Jm h6 h3;have cR:=zKS h hm (zQ1 h hm (k:=0));have bO:(wD x).length*D≤100*3:=Jm cR h3;unfold zWo;rw[hm.d,←Qp,zE (by omega) (by omega),bs];rw[vC (body:=zNO x m ((x.zA.length*D:Nat):Int)) (x.zA.length*D) (fun k=>((wD x).map (dfc m D (uv x.zA.length D k))).flatten) (fun k acc hk ha=>by
  unfold zNO;simp only
  rw[yT hk,zM,zC4 hk (by omega),bs,hm.d,zUd h hm,bs,zKT h hm (zQ1 h hm (k:=k)),bs,qF (by simp;omega) (by rw[zI3 h hm];omega),bs,yI (by simp;omega),bs,zE (by omega) (by omega),bs,cs]) (fun acc=>by
  unfold zNO;simp),bs]
 rfl
theorem zRF:(J1 N (0:Int)).set k 1=qQ N k:=by have _:=h;have _:=hm;rw[uH,qL,qQ]
theorem zGI:zYf x m=iF (zFu (x.zA.length*D) (fun k=>dfc m D (uv x.zA.length D k)) (wD x)):=by
 have h6:=h.os.1;have h3:=hm.d3;have cJ:x.zA.length*D≤9*3:=Jm h6 h3;have cR:=zKS h hm (zQ1 h hm (k:=0));have bO:(wD x).length*D≤100*3:=Jm cR h3;unfold zYf;rw[hm.d,←Qp,zE (by omega) (by omega),bs];rw[vC (body:=zNM x m ((x.zA.length*D:Nat):Int)) (x.zA.length*D) (fun k=>((wD x).map (dfc m D (uv x.zA.length D k))).flatten) (fun k acc hk ha=>by
  unfold zNM;simp only
  rw[yT hk,zM,xF (by omega),bs,vP,Kb,if_pos hk,bs,J6,zRF h hm,hm.d,yAd h hm,bs,zOK h hm (zQ1 h hm (k:=k)),bs,zKd (by simp;omega) (by rw[zI3 h hm];omega),bs,yI (by simp;omega),bs,zE (by omega) (by omega),bs,cs]) (fun acc=>by
  unfold zNM;simp),bs]
 rfl
end
theorem zI4:(mkv N f).drop c=mkv (N-c) fun i=>f (c+i):=by
 have hl:((mkv N f).drop c).length=N-c:=by rw[Kr,zY]
 grind[vH,yB,zI0,yA]
theorem zAp:xP n j=mkv n fun i=>if i=j then 1 else 0:=by rw[xP,show zeros n=J1 n (0:Int)from rfl,uH,qL]
theorem uV:at0 (zeros n) i=0:=by
 rcases Jg i n with g|g
 ·simp[zeros,at0,J3,g]
 ·simp[zeros,at0,J3,g]
theorem zDW.p{x:SPr}(h:zDW x)(hl:x.zA.length≤9):Pres x:=⟨⟨hl,h.os.2⟩,h.pl,h.cl,h.tl⟩
structure ExB (n D:Nat) (x:SPr) (m:zB) (T:Mx):Prop where
 hn:n≤6
 o:x.zA.length=n
 p:x.zV.length=n
 c:x.zG.length=n
 cl:∀i,i<n→(x.zG.getD i []).length=n-1-i
 t:T.length=base n n
 m:zTK n m D
theorem zKW.b{x:SPr}{m:zB}{T:Mx}(h:zKW n D x m T)(hm:MOk n m D):ExB n D x m T:=⟨h.hn,h.o,h.p,h.c,h.cl,h.t,hm.b⟩
section
variable {D:Nat}{x:SPr}{m:zB}{T:Mx} (h:Pres x) (hE:ExB x.zA.length D x m T) (hT:∀i,i<T.length→Row m.Prime D (T.getD i []))
 include h hE hT
abbrev exx(D:Nat)(x:SPr)(m:zB)(T:Mx):SPr:=ext x.zA.length D x m T
theorem wG:(exx D x m T).zA.length=x.zA.length+D:=by have _:=h;have _:=hE;have _:=hT;simp[exx,ext]
theorem tK(hi:i<x.zA.length):at0 (exx D x m T).zA i=at0 x.zA i:=by
 have _:=h;have _:=hE;have _:=hT;show at0 (x.zA++J1 D m.Prime) i=_
 grind
theorem zCp(hi:x.zA.length≤i)(h2:i<x.zA.length+D):at0 (exx D x m T).zA i=m.Prime:=by
 have _:=h;have _:=hE;have _:=hT;show at0 (x.zA++J1 D m.Prime) i=_
 grind
theorem zOL{t:List Int}(hv:v.length=x.zA.length)(hr:∀j,j<x.zA.length→0≤at0 v j∧at0 v j≤at0 x.zA j-1)(hz:∀j,j≤i→j<x.zA.length→at0 v j=0)(ht:Row m.Prime D t)(hi:i<x.zA.length):Exp (exx D x m T).zA (v++t) i:=by
 have hl:=wG h hE hT;refine⟨⟨by rw[J9,hv,ht.1,hl],fun j hj=>?_⟩,fun j hj=>?_⟩
 ·rw[J9,hv,ht.1]at hj
  rw[zHc,hv];split
  ·grind[tK]
  ·next g=>rw[zCp h hE hT (by omega) hj];exact ht.2 _ (by omega)
 grind
theorem zMS(i:Nat)(hi:i<base x.zA.length x.zA.length):Row m.Prime D (T.getD i []):=by have _:=h;exact hT i (by rw[hE.t];exact hi)
theorem zFv:zDW (exx D x m T):=by
 have hn:=hE.hn;have h3:=hE.m.d3;have h7:=hE.m.p.pos;have hl:=wG h hE hT;have hb:=wT x.zA.length (by omega);refine⟨⟨trivial,fun i hi=>?_⟩,by rw[hl];exact wU,by rw[hl];exact wU,fun i hi=>?_⟩
 ·rw[hl]at hi
  rcases Jg i x.zA.length with g|g
  ·rw[tK h hE hT g];exact h.os.2 i g
  ·rw[zCp h hE hT g hi];exact hE.m.p
 ·rw[hl]at hi
  have hP:(exx D x m T).zV.getD i []=exP x.zA.length D x T i:=wF hi;have hC:(exx D x m T).zG.getD i []=exC x.zA.length D x m T i:=by
   show(gl (x.zA.length+D) (exC x.zA.length D x m T)).getD i []=_
   grind
  refine⟨?_,?_,?_⟩
  ·rw[hP,exP]
   rcases Jg i x.zA.length with g|g
   ·rw[if_pos g]
    obtain⟨t1,_,_⟩:=h.tl i g;exact zOL h hE hT t1.1.1 (fun j hj=>t1.1.2 j (by rw[t1.1.1];exact hj)) (fun j hj _=>t1.2 j hj) (by grind[zMS]) g
   ·rw[if_neg (by omega)]
    have hz:∀j,at0 (J1 (x.zA.length+D) (0:Int)) j=0:=fun j=>uV
    refine⟨⟨by grind,fun j hj=>?_⟩,fun j _=>hz j⟩;rw[Jc]at hj;rw[hz];rcases Jg j x.zA.length with g2|g2
    ·rw[tK h hE hT g2];have:=(h.os.2 j g2).pos;omega
    grind[zCp]
  ·grind[exC,unC]
  ·rw[hC,exC]
   split
   ·next g=>
    intro j hj;rw[wU]at hj;rw[wF hj,exF];split
    ·next g2=>
     have gC:=hE.cl i g;have cL:=zBf x.zA.length (by omega) i g;obtain⟨_,_,t3⟩:=h.tl i g;have t:=t3 j (by omega);exact zOL h hE hT t.1.1 (fun q hq=>t.1.2 q (by rw[t.1.1];exact hq)) (fun q hq _=>t.2 q hq) (by grind[zMS]) g
    ·next g2=>
     have hz:∀j,at0 (J1 x.zA.length (0:Int)) j=0:=fun j=>uV
     refine zOL h hE hT (by simp) (fun q hq=>?_) (fun q _ _=>hz q) ((hE.m.mat i g).2 _ (by omega)) g;rw[hz];have:=(h.os.2 q hq).pos;omega
   ·next g=>
    intro j hj;rw[unC,wU]at hj;rw[unC,wF hj];refine⟨⟨by rw[hl];exact zY _ _,fun q hq=>?_⟩,fun q hq=>?_⟩
    ·rw[qQ,zY]at hq
     rw[qQ,yA hq];rcases Jg q x.zA.length with g2|g2
     ·rw[tK h hE hT g2];have:=(h.os.2 q g2).pos;omega
     grind[zCp]
    ·rw[qQ,yA (by omega),if_neg (by omega)]
theorem zBK(hk:k<x.zA.length):(lvl (exx D x m T) k).o=at0 x.zA k:=tK h hE hT hk
theorem zI5(hk:k<x.zA.length):(lvl (exx D x m T) k).w=(lvl x k).w++T.getD k []:=by have t1:=(h.tl k hk).1.1.1;have _:=hE;have _:=hT;show((exx D x m T).zV.getD k []).drop (k+1)=_;have hP:(exx D x m T).zV.getD k []=exP x.zA.length D x T k:=wF (by omega);rw[hP,exP,if_pos hk,Kj (by omega)];rfl
def eC1(x:SPr)(T:Mx)(k:Nat):List Vec:=gl (x.zA.length-1-k) fun j=>(lvl x k).cs.getD j []++T.getD (base x.zA.length k+j) []
def eC2(x:SPr)(m:zB)(D k:Nat):List Vec:=((gl D fun j=>(m.zF.getD k []).getD j []).map fun r=>zeros (x.zA.length-1-k)++r)
theorem zCq(hk:k<x.zA.length):(lvl (exx D x m T) k).cs=eC1 x T k++eC2 x m D k:=by
 have gC:=hE.cl k hk;have _:=hT;show((exx D x m T).zG.getD k []).map (·.drop (k+1))=_;have hC:(exx D x m T).zG.getD k []=exC x.zA.length D x m T k:=by
  show(gl (x.zA.length+D) (exC x.zA.length D x m T)).getD k []=_
  grind
 rw[hC,exC,if_pos hk];apply Km;intro j
 by_cases hj:j<x.zA.length+D-1-k
 ·have e1:((gl (x.zA.length+D-1-k) (exF x.zA.length x m T k)).map (·.drop (k+1)))[j]? =iF ((exF x.zA.length x m T k j).drop (k+1)):=by grind
  rw[e1,exF]
  by_cases g:j<x.zA.length-1-k
  ·rw[if_pos g,Kn (by grind[eC1])]
   have t:=(h.tl k hk).2.2 j (by omega);rw[Kj (by have:=t.1.1;omega)];have e2:(eC1 x T k)[j]? =iF ((lvl x k).cs.getD j []++T.getD (base x.zA.length k+j) []):=by simp[eC1,gl,g]
   rw[e2]
   congr 2
   simp only[lvl,J3,K3]
   grind
  ·rw[if_neg g,Jk (by grind[eC1]),eC1,wU]
   have e2:(eC2 x m D k)[j-(x.zA.length-1-k)]? =iF (zeros (x.zA.length-1-k)++(m.zF.getD k []).getD (j-(x.zA.length-1-k)) []):=by simp[eC2,gl,show j-(x.zA.length-1-k)<D by omega]
   rw[e2,Kj (by simp;omega),L6,show x.zA.length-(k+1)=x.zA.length-1-k from by omega];rfl
 ·rw[Ld (by grind),Ld (by simp[eC1,eC2,gl];omega)]
end
def tlv(p:Int):Nat→Pcp
 |0=>[]
 |d+1=>⟨p,zeros d,wO d⟩::tlv p d
theorem zHe{p:Int}:∀d,(tlv p d).length=d
 |0=>rfl
 |d+1=>by simp[tlv,zHe d]
theorem zEa{p:Int}:∀(d:Nat)(v:Vec),V (tlv p d) v↔Row p d v
 |0,v=>by
  constructor
  ·intro h
   obtain rfl:v=[]:=h;exact⟨rfl,fun i hi=>by omega⟩
  ·intro h
   have:=Ly h.1;subst this;exact rfl
 |d+1,v=>by
  cases v with
  |nil=>exact⟨fun h=>h.elim,fun h=>by have:=h.1;grind⟩
  |cons a v=>
   show((0≤a∧a<p)∧V (tlv p d) v)↔_;rw[zEa d v];constructor
   ·rintro⟨⟨h0,h1⟩,h2⟩
    refine⟨by simp[h2.1],fun i hi=>?_⟩;cases i with
    |zero=>grind
    |succ i=>have:=h2.2 i (by omega);grind
   ·intro h
    have h0:=h.2 0 (by omega);simp only[at0,Gj]at h0;refine⟨⟨h0.1,by omega⟩,by have:=h.1;grind,fun i hi=>?_⟩;have:=h.2 (i+1) (by omega)
    grind
abbrev adv(p:Int)(D:Nat)(u v:List Int):List Int:=mkv D fun j=>(at0 u j+at0 v j)%p
theorem qM{p:Int}(hp:0<p):Row p D (adv p D u v):=by refine⟨zY _ _,fun j hj=>?_⟩;rw[yA hj];have e1:=Kq (at0 u j+at0 v j) (show p≠0 by omega);have e2:=Kf (at0 u j+at0 v j) hp;omega
theorem zI6{p:Int}{D:Nat}{c:List Int}(hp:0<p):∀(k:Nat)(acc:List Int),Row p D acc→iter k (fun w=>adv p D w c) acc=mkv D fun j=>(at0 acc j+(k:Int)*at0 c j)%p
 |0,acc,ha=>by
  show acc=_
  conv=>lhs;rw[vH ha.1]
  refine yB fun j hj=>?_
  have:=ha.2 j hj;rw[Int.natCast_zero,Qr,Lt,Jw this.1 (by omega)]
 |k+1,acc,ha=>by
  show iter k (fun w=>adv p D w c) (adv p D acc c)=_;rw[zI6 hp k _ (qM hp)];refine yB fun j hj=>?_
  grind[yA,K9,K1]
theorem yAe:S (n+1) f=f 0+S n fun i=>f (i+1):=by
 rw[Nat.add_comm,zHd 1 n];simp only[S]
 grind
theorem zHf{p:Int}{D:Nat}(hp:0<p):∀(cs:List Vec)(v acc:Vec),v.length=cs.length→(∀i,i<v.length→0≤at0 v i)→Row p D acc→img (adv p D) cs v acc=mkv D fun j=>(at0 acc j+S cs.length fun k=>at0 v k*ent cs k j)%p
 | [],v,acc,hl,_,ha=>by
  show acc=_
  conv=>lhs;rw[vH ha.1]
  refine yB fun j hj=>?_
  have:=ha.2 j hj;simp only[Jx,S];rw[Lt,Jw this.1 (by omega)]
 |c::cs,[],acc,hl,_,_=>by simp at hl
 |c::cs,a::v,acc,hl,hv,ha=>by
  have h0:=hv 0 (by simp);simp only[at0,Gj]at h0;have eI:Row p D (iter a.toNat (fun w=>adv p D w c) acc):=vW (S:=Row p D) (fun _ _=>qM hp) _ ha;show img (adv p D) cs v (iter a.toNat (fun w=>adv p D w c) acc)=_;rw[zHf hp cs v _ (by grind) (fun i hi=>by have:=hv (i+1) (by grind);grind) eI,zI6 hp _ _ ha];refine yB fun j hj=>?_
  rw[yA hj,J8,yAe,K9,K1,←K9,Jai h0,Int.add_assoc];rfl
theorem zD8{α:Type}{S:α→Prop}{m m':α→α→α}(hm:∀a b,S a→S b→m a b=m' a b)(hc:∀a b,S a→S b→S (m' a b)):∀(cs:List α)(v:Vec)(acc:α),(∀c∈cs,S c)→S acc→img m cs v acc=img m' cs v acc
 | [],_,_,_,_=>by simp[img]
 |c::cs,[],_,_,_=>by simp[img]
 |c::cs,a::v,acc,h1,h2=>by
  have me:=h1 c (by simp);have e:∀k acc,S acc→iter k (fun w=>m w c) acc=iter k (fun w=>m' w c) acc∧S (iter k (fun w=>m' w c) acc):=by
   intro k
   induction k with
   |zero=>intro acc ha;exact⟨rfl,ha⟩
   |succ k ih=>
    intro acc ha;show iter k (fun w=>m w c) (m acc c)=iter k (fun w=>m' w c) (m' acc c)∧_;rw[hm acc c ha me];exact ih _ (hc _ _ ha me)
  show img m cs v (iter a.toNat (fun w=>m w c) acc)=img m' cs v (iter a.toNat (fun w=>m' w c) acc);rw[(e _ _ h2).1];exact zD8 hm hc cs v _ (by grind) (e _ _ h2).2
theorem zD9{d:Nat}(hk:k<d)(hj:j<d):ent (wO d) k j=if j=k then 1 else 0:=by
 have e:(wO d).getD k []=xP d k:=by grind[wO]
 rw[ent,e,zAp,yA hj]
theorem xQ{p:Int}(hp:0<p):Row p D (zeros D):=zE1 hp
theorem jC{p:Int}(hp:2≤p):∀(d:Nat)(u v:Vec),Row p d u→Row p d v→mul (tlv p d) u v=adv p d u v
 |0,u,v,hu,_=>by rfl
 |d+1,u,v,hu,hv=>by
  have ih:=jC hp d;have tn:=(zEa (d+1) u).2 hu;have mj:=(zEa (d+1) v).2 hv;cases u with
  |nil=>exact tn.elim
  |cons a u=>
   cases v with
   |nil=>exact mj.elim
   |cons b v=>
    obtain⟨⟨a0,a1⟩,cZ⟩:=tn;obtain⟨⟨b0,b1⟩,c9⟩:=mj;have hu3:=(zEa d u).1 cZ;have f7:=(zEa d v).1 c9;change a<p at a1;change b<p at b1;have ep:∀w,Row p d w→sig (tlv p d) ⟨p,zeros d,wO d⟩ w=w:=fun w hw=>by
     have dx:∀c∈wO d,Row p d c:=fun c hc=>by obtain⟨k,hk,rfl⟩:=Jl.1 hc;rw[zAp];exact⟨zY _ _,by grind[yA]⟩
     unfold sig;rw[zHe,zD8 (S:=Row p d) (m':=adv p d) (by omega) (fun _ _ _ _=>qM (by omega)) (wO d) w _ dx (xQ (by omega)),zHf (by omega) (wO d) w _ (by rw[hw.1];simp[wO]) (fun i hi=>(hw.2 i (by rw[←hw.1];exact hi)).1) (xQ (by omega))]
     conv=>rhs;rw[vH hw.1]
     refine yB fun j hj=>?_
     have fC:(wO d).length=d:=by simp[wO]
     have:=hw.2 j hj;rw[fC,uV,Lh,jX (k:=j) hj (fun k hk gg=>by rw[zD9 hk hj,if_neg (Ne.symm gg),La]),zD9 hj hj,if_pos rfl,Ls,Jw this.1 (by omega)]
    have eh:∀k,iter k (sig (tlv p d) ⟨p,zeros d,wO d⟩) u=u:=by grind[zI1]
    show mul (⟨p,zeros d,wO d⟩::tlv p d) (a::u) (b::v)=_;rw[xD,eh,ih u v hu3 f7];have hz:adv p d (zeros d) (adv p d u v)=adv p d u v:=by
     refine yB fun j hj=>?_
     rw[yA hj,uV,Lh,K1]
    rw[ih _ _ (xQ (by omega)) (qM (by omega)),hz];have aK:adv p (d+1) (a::u) (b::v)=(a+b)%p::adv p d u v:=by
     simp only[adv,mkv,Jaf,Jr,Ja7]
     congr 1
    rw[aK];split
    ·next g=>
     have g:a+b≥p:=g;have e:(a+b)%p=a+b-p:=by rw[show a+b=(a+b-p)+p from by omega,Q4,Jw (by omega) (by omega)];omega
     grind
    ·next g=>
     have g:¬a+b≥p:=g
     congr 1
     exact(Jw (by omega) (by omega)).symm
theorem zQ2{α:Type}{m:α→α→α}:∀(c1:List α)(y:Vec)(c2:List α)(u:Vec)(acc:α),c1.length=y.length→img m (c1++c2) (y++u) acc=img m c2 u (img m c1 y acc)
 | [],[],_,_,_,_=>by rfl
 | [],_::_,_,_,_,h=>by simp at h
 |_::_,[],_,_,_,h=>by simp at h
 |c::c1,a::y,c2,u,acc,h=>zQ2 c1 y c2 u _ (by grind)
theorem zFw{α β:Type}{S:α→Prop}{m:α→α→α}{n:β→β→β}(φ:α→β)(hS:∀a b,S a→S b→S (m a b))(hm:∀a b,S a→S b→φ (m a b)=n (φ a) (φ b)):∀(cs:List α)(v:Vec)(a:α),(∀c∈cs,S c)→S a→φ (img m cs v a)=img n (cs.map φ) v (φ a)
 | [],v,a,_,_=>by rfl
 |_::_,[],_,_,_=>rfl
 |c::cs,t::v,a,hc,ha=>by
  have me:=hc c (by simp);have e:∀k a,S a→φ (iter k (fun w=>m w c) a)=iter k (fun w=>n w (φ c)) (φ a)∧S (iter k (fun w=>m w c) a):=by
   intro k
   induction k with
   |zero=>intro a ha;exact⟨rfl,ha⟩
   |succ k ih=>
    intro a ha;have:=ih (m a c) (hS _ _ ha me);rw[hm a c ha me]at this;exact this
  show φ (img m cs v (iter t.toNat (fun w=>m w c) a))=img n (cs.map φ) v (iter t.toNat (fun w=>n w (φ c)) (φ a));rw[←(e _ a ha).1];exact zFw φ hS hm cs v _ (by grind) (e _ a ha).2
theorem jZ{p:Int}(hr:Row p D r):xY p D r (idM D)=r:=by
 conv=>rhs;rw[vH hr.1]
 refine yB fun j hj=>?_
 have:=hr.2 j hj;have e:∀l,l<D→ent (idM D) l j=if j=l then 1 else 0:=fun l hl=>by rw[ent,zBd hl,yA hj]
 rw[jX (k:=j) hj (by grind),e j hj,if_pos rfl,Ls,sH this]
theorem zFx{p:Int}{B:Mx}(hA:A.length=D):xY p D (xY p D r A) B=xY p D r (PM p D A B):=by
 refine yB fun j hj=>?_
 have e1:S D (fun l=>at0 (xY p D r A) l*ent B l j)%p=S D (fun l=>S D (fun i=>at0 r i*ent A i l)*ent B l j)%p:=zAl (by grind[xY,yA,Ju,K1]);have e2:S D (fun l=>at0 r l*ent (PM p D A B) l j)%p=S D (fun i=>at0 r i*S D (fun l=>ent A i l*ent B l j))%p:=zAl (by grind[zO2,Ju,K1]);rw[e1,e2]
 congr 1
 have e3:S D (fun l=>S D (fun i=>at0 r i*ent A i l)*ent B l j)=S D (fun l=>S D (fun i=>at0 r i*ent A i l*ent B l j)):=xZ (by grind[zM7]);rw[e3,zIq];refine xZ fun i _=>?_
 rw[←zDg];exact xZ (by grind)
theorem uG{p:Int}(hv:Row p D v):adv p D (zeros D) v=v:=by
 conv=>rhs;rw[vH hv.1]
 refine yB fun j hj=>?_
 rw[uV,Lh,sH (hv.2 j hj)]
theorem zAO{p:Int}(hv:Row p D v):adv p D v (zeros D)=v:=by
 conv=>rhs;rw[vH hv.1]
 refine yB fun j hj=>?_
 rw[uV,Lt,sH (hv.2 j hj)]
theorem zUe{p:Int}{acc:List Int}(hl:A.length=D):(mkv D fun j=>(at0 acc j+S A.length fun k=>at0 v k*ent A k j)%p)=adv p D acc (xY p D v A):=by grind[yB,xY,yA,Jb4]
theorem tS{p:Int}:adv p D u v=adv p D v u:=by grind
theorem zXl{p:Int}{w:List Int}(hv:Row p D v)(hw:Row p D w):adv p D u v=adv p D u w↔v=w:=by
 constructor
 ·intro h
  rw[vH hv.1,vH hw.1];refine yB fun j hj=>?_
  have e:at0 (adv p D u v) j=at0 (adv p D u w) j:=by rw[h]
  rw[adv,adv,yA hj,yA hj]at e;have h1:=hv.2 j hj;have h2:=hw.2 j hj;have h3:=Int.emod_emod_of_dvd (at0 u j+at0 v j) (Int.dvd_refl p);have e4:(at0 u j+at0 v j-at0 u j)%p=(at0 u j+at0 w j-at0 u j)%p:=by rw[Qa,e,←Qa]
  rw[show at0 u j+at0 v j-at0 u j=at0 v j from by omega,show at0 u j+at0 w j-at0 u j=at0 w j from by omega,sH h1,sH h2]at e4;exact e4
 grind
section
variable {D:Nat}{x:SPr}{m:zB}{T:Mx} (h:Pres x) (hE:ExB x.zA.length D x m T) (hT:∀i,i<T.length→Row m.Prime D (T.getD i []))
 include h hE hT
theorem zA7:∀(d k:Nat),x.zA.length≤k→k+d=x.zA.length+D→suf (exx D x m T) k=tlv m.Prime d
 |0,k,hk,hd=>by rw[vX (by grind[wG])];rfl
 |d+1,k,hk,hd=>by
  have hl:=wG h hE hT;rw[yG (by omega),zA7 d (k+1) (by omega) (by omega),tlv]
  congr 1
  have hP:(exx D x m T).zV.getD k []=exP x.zA.length D x T k:=wF (by omega);have hC:(exx D x m T).zG.getD k []=exC x.zA.length D x m T k:=by
   show(gl (x.zA.length+D) (exC x.zA.length D x m T)).getD k []=_
   grind
  unfold lvl;rw[hP,hC,exP,exC,if_neg (by omega),if_neg (by omega),zCp h hE hT hk (by omega),L6,show x.zA.length+D-(k+1)=d from by omega]
  congr 1
  rw[unC,wO,gl,Ja7,show x.zA.length+D-1-k=d from by omega];refine Uu fun j hj=>?_
  have hj:=Ln.1 hj;show(qQ (x.zA.length+D) (k+1+j)).drop (k+1)=xP d j;rw[qQ,zI4,zAp,show x.zA.length+D-(k+1)=d from by omega];simp
theorem sQ:∀(d k:Nat),k+d=x.zA.length→ ∀v,V (suf (exx D x m T) k) v↔ ∃y u,v=y++u∧V (suf x k) y∧Row m.Prime D u
 |0,k,hk,v=>by
  rw[zA7 h hE hT D k (by omega) (by omega),zEa,vX (x:=x) (k:=k) (by omega)];constructor
  ·intro g;exact⟨[],v,rfl,rfl,g⟩
  ·rintro⟨y,u,rfl,hy,hu⟩
   obtain rfl:y=[]:=hy;exact hu
 |d+1,k,hk,v=>by
  have hl:=wG h hE hT;have ih:=sQ d (k+1) (by omega);rw[yG (x:=exx D x m T) (by omega),yG (x:=x) (by omega)];cases v with
  |nil=>
   refine⟨fun g=>g.elim,?_⟩
   rintro⟨y,u,e,hy,hu⟩
   cases y with
   |nil=>exact hy.elim
   |cons a y=>simp at e
  |cons a v=>
   show((0≤a∧a<(lvl (exx D x m T) k).o)∧V (suf (exx D x m T) (k+1)) v)↔_;rw[zBK h hE hT (by omega),ih v];constructor
   ·rintro⟨g,y,u,rfl,hy,hu⟩
    exact⟨a::y,u,rfl,⟨g,hy⟩,hu⟩
   ·rintro⟨y,u,e,hy,hu⟩
    cases y with
    |nil=>exact hy.elim
    |cons b y=>
     simp only[K5,Q2.injEq]at e;obtain⟨rfl,rfl⟩:=e;exact⟨hy.1,y,u,rfl,hy.2,hu⟩
theorem zFy:∀(d k:Nat),k+d=x.zA.length→ ∀y u r,V (suf x k) y→Row m.Prime D u→Row m.Prime D r→mul (suf (exx D x m T) k) (y++u) (zeros d++r)=y++adv m.Prime D u r
 |0,k,hk,y,u,r,hy,hu,hr=>by have hp:=hE.m.p.pos;rw[vX (x:=x) (k:=k) (by omega)]at hy;obtain rfl:y=[]:=hy;rw[zA7 h hE hT D k (by omega) (by omega)];exact jC (by omega) D u r hu hr
 |d+1,k,hk,y,u,r,hy,hu,hr=>by
  have hl:=wG h hE hT;rw[yG (x:=x) (by omega)]at hy;cases y with
  |nil=>exact hy.elim
  |cons a y=>
   obtain⟨⟨a0,a1⟩,hy⟩:=hy;change a<at0 x.zA k at a1;rw[yG (x:=exx D x m T) (by omega)];show mul _ (a::(y++u)) (0::(zeros d++r))=_;rw[xD,zBK h hE hT (by omega),if_neg (by omega)];show(a+0)::mul _ (y++u) (zeros d++r)=_;rw[zFy d (k+1) (by omega) y u r hy hu hr,Lt];rfl
theorem uK(hk:k≤x.zA.length+D):Pc.Ok (suf (exx D x m T) k):=(zFv h hE hT).okAt (by grind[wG])
theorem zOM{d k:Nat}(hk:k+d=x.zA.length):∀(rs:List Vec)(v:Vec)(y u:Vec),(∀r∈rs,Row m.Prime D r)→V (suf x k) y→Row m.Prime D u→img (mul (suf (exx D x m T) k)) (rs.map fun r=>zeros d++r) v (y++u)=y++img (adv m.Prime D) rs v u
 | [],v,y,u,_,_,_=>by rfl
 |_::_,[],_,_,_,_,_=>rfl
 |c::rs,t::v,y,u,hr,hy,hu=>by
  have hp:=hE.m.p.pos;have hc:=hr c (by simp);have e:∀q u,Row m.Prime D u→iter q (fun w=>mul (suf (exx D x m T) k) w (zeros d++c)) (y++u)=y++iter q (fun w=>adv m.Prime D w c) u:=by
   intro q
   induction q with
   |zero=>intro u _;rfl
   |succ q ih=>
    intro u hu;show iter q _ (mul _ (y++u) (zeros d++c))=_;rw[zFy h hE hT d k hk y u c hy hu hc,ih _ (qM (by omega))];rfl
  show img _ (rs.map fun r=>zeros d++r) v (iter t.toNat (fun w=>mul (suf (exx D x m T) k) w (zeros d++c)) (y++u))=_;rw[e _ _ hu,zOM hk rs v y _ (by grind) hy (vW (S:=Row m.Prime D) (fun _ _=>qM (by omega)) _ hu)];rfl
theorem yAf(hk:k<x.zA.length):(gl D fun j=>(m.zF.getD k []).getD j [])=m.zF.getD k []:=by
 have _:=h;have _:=hT;have hl:=(hE.m.mat k hk).1;apply Km
 grind
def sgG(D:Nat)(x:SPr)(m:zB)(T:Mx)(k:Nat)(y:Vec):Vec:=img (mul (suf (exx D x m T) (k+1))) (eC1 x T k) y (zeros (suf (exx D x m T) (k+1)).length)
theorem jD:(eC1 x T k).length=x.zA.length-1-k:=by have _:=h;have _:=hE;have _:=hT;grind[eC1]
theorem zQ3(hk:k<x.zA.length):∀c∈eC1 x T k,V (suf (exx D x m T) (k+1)) c:=by intro c hc;have ok:=uK h hE hT (k:=k) (by omega);rw[yG (by grind[wG])]at ok;exact ok.2.2.2.1 c (by grind[zCq])
theorem zBu(hk:k≤x.zA.length):zeros (suf (exx D x m T) k).length=zeros (x.zA.length-k)++zeros D:=by grind[yS,wG,zeros,Je]
theorem zI7(hk:k<x.zA.length):V (suf (exx D x m T) (k+1)) (sgG D x m T k y):=by have ok:=uK h hE hT (k:=k+1) (by omega);exact jB (xJ ok) _ _ (zQ3 h hE hT hk) (wS ok)
theorem zCr(hk:k<x.zA.length){u:Vec}(hy:V (suf x (k+1)) y)(hu:Row m.Prime D u):
  sig (suf (exx D x m T) (k+1)) (lvl (exx D x m T) k) (y++u)=(sgG D x m T k y).take (x.zA.length-(k+1))++adv m.Prime D ((sgG D x m T k y).drop (x.zA.length-(k+1))) (xY m.Prime D u (m.zF.getD k [])):=by
 have hp:=hE.m.p.pos;have hA:=hE.m.mat k hk;have e7:=vJ h (by omega) hy;unfold sig;rw[zCq h hE hT hk,zQ2 _ _ _ _ _ (by grind[jD])];show img _ (eC2 x m D k) u (sgG D x m T k y)=_;obtain⟨y1,u1,e,fb,cC⟩:=(sQ h hE hT (x.zA.length-(k+1)) (k+1) (by omega) _).1 (zI7 h hE hT hk (y:=y));have gK:=vJ h (by omega) fb;rw[e,eC2,yAf h hE hT hk,show x.zA.length-1-k=x.zA.length-(k+1)from by omega,zOM h hE hT (by omega) _ _ _ _ (fun r hr=>?_) fb cC,zHf (by omega) _ _ _ (by rw[hA.1,hu.1]) (fun i hi=>(hu.2 i (by rw[←hu.1];exact hi)).1) cC,zUe hA.1,Jo gK,Jz gK];obtain⟨j,hj,rfl⟩:=K4.1 hr;have pU:=hA.1;have:=hA.2 j (by omega)
 grind
theorem zHg(hk:k<x.zA.length){u:Vec}(hu:Row m.Prime D u):
  sig (suf (exx D x m T) (k+1)) (lvl (exx D x m T) k) (zeros (x.zA.length-(k+1))++u)=zeros (x.zA.length-(k+1))++xY m.Prime D u (m.zF.getD k []):=by
 have hp:=hE.m.p.pos;have ok:=h.okAt (k:=k+1) (by omega);have hz:=wS ok;rw[yS]at hz;have e:sgG D x m T k (zeros (x.zA.length-(k+1)))=zeros (x.zA.length-(k+1))++zeros D:=by grind[sgG,qK,zBu]
 rw[zCr h hE hT hk hz hu,e,Jo (yC _),Jz (yC _),uG (vG (by omega))]
theorem zI8{k:Nat}(hk:k<x.zA.length):∀(q:Nat){u:Vec},Row m.Prime D u→
  iter q (sig (suf (exx D x m T) (k+1)) (lvl (exx D x m T) k)) (zeros (x.zA.length-(k+1))++u)=zeros (x.zA.length-(k+1))++iter q (fun u=>xY m.Prime D u (m.zF.getD k [])) u
 |0,u,_=>rfl
 |q+1,u,hu=>by have hp:=hE.m.p.pos;show iter q _ (sig _ _ _)=_;rw[zHg h hE hT hk hu,zI8 hk q (vG (by omega))];rfl
end
theorem zGp{p:Int}{D:Nat}{A:Mx}(hA:Mat p D A)(hp:2≤p){r:List Int}(hr:Row p D r):∀q,iter q (fun u=>xY p D u A) r=xY p D r (pw (PM p D) (idM D) A q)
 |0=>(jZ hr).symm
 |q+1=>by
  have hm:Mat p D (pw (PM p D) (idM D) A q):=vW (S:=Mat p D) (fun _ hB=>zCh (by omega) hB.1) q (tD hp);unfold pw at*
  rw[vL,vL,zGp hA hp hr q];exact zFx hm.1
theorem zUf{p:Int}(hp:0<p):iter p.toNat (fun w=>adv p D w r) (zeros D)=zeros D:=by
 rw[zI6 hp _ _ (xQ hp)];rw[show zeros D=mkv D fun _=>0 from uH D];refine yB fun j hj=>?_
 rw[yA hj,Jai (by omega),Lh,Int.mul_emod_right]
theorem zAP{p:Int}:xY p D (zeros D) A=zeros D:=by
 rw[show zeros D=mkv D fun _=>0 from uH D];refine yB fun j hj=>?_
 rw[xZ (g:=fun _=>0) fun l hl=>by rw[yA hl,Qr],qD,Int.zero_emod]
theorem zRG{p:Int}(hq:q<D)(hA:Mat p D A):xY p D (xP D q) A=A.getD q []:=by
 have hr:=hA.2 q hq
 conv=>rhs;rw[vH hr.1]
 refine yB fun j hj=>?_
 rw[zAp,jX (k:=q) hq (fun i hi gg=>by rw[yA hi,if_neg gg,Qr]),yA hq,if_pos rfl,Jbd,sH (hr.2 j hj)]
theorem sJ{p:Int}(hp:2≤p):Row p D (xP D q):=by rw[zAp];exact⟨zY _ _,by grind[yA]⟩
theorem zMT(hq:q<D):xP (N+D) (N+q)=zeros N++xP D q:=by
 rw[zBc (by omega),zBc hq,←Jj]
 grind[zeros,Je]
def aM(m:zB)(D k:Nat)(v:Vec):Mx:=img (PM m.Prime D) (m.zF.drop k) v (idM D)
theorem zUg{p:Int}(hp:2≤p):Mon (Mat p D) (PM p D) (idM D):=
 ⟨fun ha _=>zCh (by omega) ha.1,tD (by omega),fun ha hb _=>zM8 ha.1 hb.1,fun ha=>zCi ha,fun ha=>zBF ha⟩
section
variable {D:Nat}{x:SPr}{m:zB}{T:Mx} (h:Pres x) (hE:ExB x.zA.length D x m T) (hT:∀i,i<T.length→Row m.Prime D (T.getD i []))
 include h hE hT
theorem zUh(hk:k<x.zA.length):(eC1 x T k).map (·.take (x.zA.length-(k+1)))=(lvl x k).cs:=by
 have _:=hE;have _:=hT;have gC:=zAB h.w hk;apply Km;intro j
 by_cases g:j<x.zA.length-(k+1)
 ·obtain⟨c,_,_,c3,c4⟩:=zFf h hk g
  have hl:=vJ h (by omega) c3;have e1:((eC1 x T k).map (·.take (x.zA.length-(k+1))))[j]? =iF (((lvl x k).cs.getD j []++T.getD (base x.zA.length k+j) []).take (x.zA.length-(k+1))):=by simp[eC1,gl,show j<x.zA.length-1-k by omega]
  grind
 ·rw[Ld (by simp[eC1,gl];omega),Ld (by omega)]
theorem yDs{v:Vec}:Mat m.Prime D (aM m D k v):=by
 have _:=h;have _:=hT;have hp:=hE.m.p.pos;refine jB (fun ha _=>zCh (by omega) ha.1) _ _ (fun c hc=>?_) (tD (by omega));obtain⟨i,hi,rfl⟩:=K4.1 (Ja4 hc);have:=hE.m.mat i (by rw[←hE.m.len];exact hi)
 grind
theorem zMU(hk:k<x.zA.length):m.zF.drop k=m.zF.getD k []::m.zF.drop (k+1):=by
 have _:=h;have _:=hT;have hl:=hE.m.len
 grind[Hl]
theorem zXm(hk:k<x.zA.length){b:Int}:aM m D k (b::y)=PM m.Prime D (pw (PM m.Prime D) (idM D) (m.zF.getD k []) b.toNat) (aM m D (k+1) y):=by
 have M:=zUg hE.m.p.pos.1 (D:=D);unfold aM;rw[zMU h hE hT hk];refine qX M (hE.m.mat k hk) fun c hc=>?_
 obtain⟨i,hi,rfl⟩:=K4.1 (Ja4 hc);have:=hE.m.mat i (by rw[←hE.m.len];exact hi)
 grind
theorem pwM(hk:k<x.zA.length):Mat m.Prime D (pw (PM m.Prime D) (idM D) (m.zF.getD k []) q):=by have _:=h;have _:=hT;have _:=hk;have hp:=hE.m.p.pos;exact vW (S:=Mat m.Prime D) (fun _ hB=>zCh (by omega) hB.1) q (tD (by omega))
theorem zQ4:∀(d k:Nat),k+d=x.zA.length→ ∀r y v,Row m.Prime D r→V (suf x k) y→Row m.Prime D v→mul (suf (exx D x m T) k) (zeros d++r) (y++v)=y++adv m.Prime D (xY m.Prime D r (aM m D k y)) v
 |0,k,hk,r,y,v,hr,hy,hv=>by
  have hp:=hE.m.p.pos;rw[vX (x:=x) (k:=k) (by omega)]at hy;obtain rfl:y=[]:=hy;rw[zA7 h hE hT D k (by omega) (by omega)];have e:aM m D k []=idM D:=by unfold aM;cases m.zF.drop k<;>rfl
  rw[e,jZ hr];exact jC (by omega) D r v hr hv
 |d+1,k,hk,r,y,v,hr,hy,hv=>by
  have hl:=wG h hE hT;have hp:=hE.m.p.pos;have hA:=hE.m.mat k (by omega);rw[yG (x:=x) (by omega)]at hy;cases y with
  |nil=>exact hy.elim
  |cons b y=>
   obtain⟨⟨b0,b1⟩,hy⟩:=hy;change b<at0 x.zA k at b1;rw[yG (x:=exx D x m T) (by omega)];show mul _ (0::(zeros d++r)) (b::(y++v))=_;have e:=zI8 h hE hT (k:=k) (by omega) b.toNat hr;rw[show x.zA.length-(k+1)=d from by omega]at e;rw[xD,zBK h hE hT (by omega),if_neg (by omega),e,zGp hA (by omega) hr,zQ4 d (k+1) (by omega) _ y v (vG (by omega)) hy hv,Lh,zXm h hE hT (by omega),←zFx (pwM h hE hT (by omega)).1];rfl
theorem zMV(hk:k<x.zA.length)(ih:∀a b,V (suf (exx D x m T) (k+1)) a→V (suf (exx D x m T) (k+1)) b→(mul (suf (exx D x m T) (k+1)) a b).take (x.zA.length-(k+1))=mul (suf x (k+1)) (a.take (x.zA.length-(k+1))) (b.take (x.zA.length-(k+1)))){v:Vec}(hv:V (suf (exx D x m T) (k+1)) v):
  (sig (suf (exx D x m T) (k+1)) (lvl (exx D x m T) k) v).take (x.zA.length-(k+1))=sig (suf x (k+1)) (lvl x k) (v.take (x.zA.length-(k+1))):=by
 have ok:=uK h hE hT (k:=k+1) (by omega);obtain⟨y,u,rfl,hy,hu⟩:=(sQ h hE hT (x.zA.length-(k+1)) (k+1) (by omega) _).1 hv;have e7:=vJ h (by omega) hy;obtain⟨y1,u1,e,fb,cC⟩:=(sQ h hE hT (x.zA.length-(k+1)) (k+1) (by omega) _).1 (zI7 h hE hT hk (y:=y));have gK:=vJ h (by omega) fb;rw[zCr h hE hT hk hy hu,Jo (by grind),Jo e7];unfold sgG sig;rw[zFw (S:=V (suf (exx D x m T) (k+1))) (n:=mul (suf x (k+1))) (·.take (x.zA.length-(k+1))) (fun a b=>xJ ok) ih _ _ _ (zQ3 h hE hT hk) (wS ok),zUh h hE hT hk,zBu h hE hT (by omega),Jo (yC _),yS]
theorem zLa:∀(d k:Nat),k+d=x.zA.length→ ∀a b,V (suf (exx D x m T) k) a→V (suf (exx D x m T) k) b→(mul (suf (exx D x m T) k) a b).take d=mul (suf x k) (a.take d) (b.take d)
 |0,k,hk,a,b,_,_=>by rw[vX (x:=x) (by omega),Kd];rfl
 |d+1,k,hk,a,b,ha,hb=>by
  have hl:=wG h hE hT;have ih:=zLa d (k+1) (by omega);have hd:d=x.zA.length-(k+1):=by omega
  have ok:=uK h hE hT (k:=k+1) (by omega);have ok0:=uK h hE hT (k:=k) (by omega);rw[hd]at ih;have hs:=fun v hv=>zMV h hE hT (k:=k) (by omega) ih (v:=v) hv
  rw[yG (x:=exx D x m T) (by omega)]at ha hb ok0 ⊢
  rw[yG (x:=x) (by omega)];cases a with
  |nil=>rfl
  |cons a u=>
  cases b with
  |nil=>rfl
  |cons b v=>
   have eh:∀q u,V (suf (exx D x m T) (k+1)) u→(iter q (sig (suf (exx D x m T) (k+1)) (lvl (exx D x m T) k)) u).take d=iter q (sig (suf x (k+1)) (lvl x k)) (u.take d)∧V (suf (exx D x m T) (k+1)) (iter q (sig (suf (exx D x m T) (k+1)) (lvl (exx D x m T) k)) u):=by
    intro q
    induction q with
    |zero=>intro u hu;exact⟨rfl,hu⟩
    |succ q ihq=>
     intro u hu;have:=ihq _ (zCU ok0 hu);rw[hd,hs u hu]at this;rw[hd];exact this
   obtain⟨aD,fX⟩:=eh b.toNat u ha.2;have hm:=xJ ok fX hb.2;rw[xD,Lj,Lj,xD,zBK h hE hT (by omega),show(lvl x k).o=at0 x.zA k from rfl];have e1:=ih _ _ fX hb.2;rw[←hd,aD]at e1;split
   ·rw[Lj]
    have e2:=ih _ _ ok0.2.1 hm;rw[←hd,e1]at e2;rw[e2]
    congr 2
    have ht:=(h.tl k (by omega)).1;have hw:=kG ht (by omega);have hwl:(lvl x k).w.length=x.zA.length-(k+1):=vJ h (by omega) hw;rw[zI5 h hE hT (by omega),Jo (by omega)]
   grind
end
theorem zRH{p:Int}{d:Nat}(hp:2≤p):∀c∈wO d,Row p d c:=fun c hc=>by obtain⟨k,_,rfl⟩:=Jl.1 hc;exact sJ hp
theorem zXn{p:Int}(hp:2≤p){d:Nat}{w:Vec}(hw:Row p d w):sig (tlv p d) ⟨p,zeros d,wO d⟩ w=w:=by
 unfold sig;rw[zHe,zD8 (S:=Row p d) (m':=adv p d) (by grind[jC]) (fun _ _ _ _=>qM (by omega)) (wO d) w _ (zRH hp) (xQ (by omega)),zHf (by omega) (wO d) w _ (by rw[hw.1];simp[wO]) (fun i hi=>(hw.2 i (by rw[←hw.1];exact hi)).1) (xQ (by omega))]
 conv=>rhs;rw[vH hw.1]
 refine yB fun j hj=>?_
 have fC:(wO d).length=d:=by simp[wO]
 rw[fC,uV,Lh,jX (k:=j) hj (fun k hk gg=>by rw[zD9 hk hj,if_neg (Ne.symm gg),La]),zD9 hj hj,if_pos rfl,Ls,sH (hw.2 j hj)]
structure LCn (x e:SPr) (k:Nat):Prop where
 c1:∀j,k+1≤j→j<x.zA.length→pw (mul (suf e (k+1))) (zeros (suf e (k+1)).length) ((lvl e k).cs.getD (j-(k+1)) []) (at0 e.zA j).toNat=sig (suf e (k+1)) (lvl e k) ((e.zV.getD j []).drop (k+1))
 c2:∀i,k+1≤i→i<x.zA.length→ ∀j,i+1≤j→j<x.zA.length→
  mul (suf e (k+1)) ((lvl e k).cs.getD (j-(k+1)) []) ((lvl e k).cs.getD (i-(k+1)) [])=mul (suf e (k+1)) ((lvl e k).cs.getD (i-(k+1)) []) (sig (suf e (k+1)) (lvl e k) (((e.zG.getD i []).getD (j-(i+1)) []).drop (k+1)))
 c3:sig (suf e (k+1)) (lvl e k) (lvl e k).w=(lvl e k).w
 c4:∀j,k+1≤j→j<x.zA.length→mul (suf e (k+1)) (lvl e k).w (iter (lvl e k).o.toNat (sig (suf e (k+1)) (lvl e k)) (xP (e.zA.length-(k+1)) (j-(k+1))))=mul (suf e (k+1)) (xP (e.zA.length-(k+1)) (j-(k+1))) (lvl e k).w
section
variable {D:Nat}{x:SPr}{m:zB}{T:Mx} (h:Pres x) (hE:ExB x.zA.length D x m T) (hT:∀i,i<T.length→Row m.Prime D (T.getD i []))
 include h hE hT
theorem zUi(hk:k<x.zA.length)(hj:x.zA.length≤j)(h2:j<x.zA.length+D):(lvl (exx D x m T) k).cs.getD (j-(k+1)) []=zeros (x.zA.length-(k+1))++(m.zF.getD k []).getD (j-x.zA.length) []:=by
 rw[zCq h hE hT hk,J3,Jk (by grind[jD]),jD h hE hT,eC2]
 grind
theorem zI9(hk:k<x.zA.length)(hj:k+1≤j)(h2:j<x.zA.length):(lvl (exx D x m T) k).cs.getD (j-(k+1)) []=(lvl x k).cs.getD (j-(k+1)) []++T.getD (base x.zA.length k+(j-(k+1))) []:=by
 rw[zCq h hE hT hk,J3,Kn (by grind[jD]),eC1]
 grind
theorem zEb(hi:i<j)(hj:j<x.zA.length):Row m.Prime D (T.getD (base x.zA.length i+(j-(i+1))) []):=by have _:=h;have hn:=hE.hn;have hb:=zBf x.zA.length (by omega) i (by omega);exact hT _ (by rw[hE.t];omega)
theorem zCs(hi:i<x.zA.length):Row m.Prime D (T.getD i []):=by have _:=h;have hn:=hE.hn;have hb:=wT x.zA.length (by omega);exact hT _ (by rw[hE.t];omega)
theorem zE7(hj:k≤j)(h2:j<x.zA.length):((exx D x m T).zV.getD j []).drop (k+1)=(x.zV.getD j []).drop (k+1)++T.getD j []:=by have t1:=(h.tl j h2).1.1.1;have _:=hE;have _:=hT;have hP:(exx D x m T).zV.getD j []=exP x.zA.length D x T j:=wF (by omega);rw[hP,exP,if_pos h2,Kj (by omega)]
theorem yAg(hk:k<x.zA.length)(hj:x.zA.length≤j)(h2:j<x.zA.length+D):((exx D x m T).zV.getD j []).drop (k+1)=zeros (x.zA.length-(k+1))++zeros D:=by
 have _:=h;have _:=hE;have _:=hT;have hP:(exx D x m T).zV.getD j []=exP x.zA.length D x T j:=wF (by omega);rw[hP,exP,if_neg (by omega),L6]
 grind[zeros,Je]
theorem zIA(hi:i<x.zA.length+D):(exx D x m T).zG.getD i []=exC x.zA.length D x m T i:=by
 have _:=h;have _:=hE;have _:=hT;show(gl (x.zA.length+D) (exC x.zA.length D x m T)).getD i []=_
 grind
theorem zGq(hk:k≤i)(hi:i<j)(hj:j<x.zA.length):(((exx D x m T).zG.getD i []).getD (j-(i+1)) []).drop (k+1)=((x.zG.getD i []).getD (j-(i+1)) []).drop (k+1)++T.getD (base x.zA.length i+(j-(i+1))) []:=by obtain⟨_,t2,t3⟩:=h.tl i (by omega);have t:=(t3 (j-(i+1)) (by omega)).1.1;rw[zIA h hE hT (by omega),exC,if_pos (by omega),wF (by omega),exF,if_pos (by omega),Kj (by omega)]
theorem yAh(hk:k<x.zA.length)(hi:i<x.zA.length)(hj:x.zA.length≤j)(h2:j<x.zA.length+D):(((exx D x m T).zG.getD i []).getD (j-(i+1)) []).drop (k+1)=zeros (x.zA.length-(k+1))++(m.zF.getD i []).getD (j-x.zA.length) []:=by rw[zIA h hE hT (by omega),exC,if_pos (by omega),wF (by omega),exF,if_neg (by omega),Kj (by simp;omega),L6,show j-(i+1)-(x.zA.length-1-i)=j-x.zA.length from by omega];rfl
theorem yAi(hk:k<x.zA.length)(hi:x.zA.length≤i)(hj:i<j)(h2:j<x.zA.length+D):(((exx D x m T).zG.getD i []).getD (j-(i+1)) []).drop (k+1)=zeros (x.zA.length-(k+1))++xP D (j-x.zA.length):=by
 rw[zIA h hE hT (by omega),exC,if_neg (by omega),unC,wF (by omega),qQ,zI4,←zMT (by omega),zAp]
 grind
theorem zXo(hr:zC6 x m D)(hk:k<x.zA.length):pw (PM m.Prime D) (idM D) (m.zF.getD k []) (at0 x.zA k).toNat=aM m D (k+1) (lvl x k).w∧
  ∀i,k<i→i<x.zA.length→PM m.Prime D (m.zF.getD i []) (m.zF.getD k [])=PM m.Prime D (m.zF.getD k []) (aM m D (k+1) ((lvl x k).cs.getD (i-(k+1)) [])):=by
 have R:=zQ0 h hE.m hr (x.zA.length-k) k (by omega);rw[yG hk,zMU h hE hT hk]at R;obtain⟨r1,r2,_⟩:=R;refine⟨r1,fun i h1 h2=>?_⟩;have gC:=zAB h.w hk;have hl:=hE.m.len;refine r2 (i-(k+1)) _ _ ?_ ?_
 all_goals grind
theorem zv(hk:k≤x.zA.length):V (suf x k) (zeros (x.zA.length-k)):=by
 have _:=hE;have _:=hT;have:=wS (h.okAt hk)
 grind[yS]
theorem zUj(hr:zC6 x m D)(hk:k<x.zA.length)(hc:LCn x (exx D x m T) k):LC (exx D x m T) k:=by
 have hp:=hE.m.p.pos;have hl:=wG h hE hT;have hA:=hE.m.mat k hk;obtain⟨r1,r2⟩:=zXo h hE hT hr hk;have hz:=zv h hE hT (k:=k+1) (by omega);have aU:Row m.Prime D (zeros D):=xQ (by omega);have hw:=(zZU h hk).2;refine⟨fun j h1 h2=>?_,fun i h1 h2 j h3 h4=>?_,hc.c3,fun j h1 h2=>?_⟩
 ·rw[hl]at h2
  rcases Jg j x.zA.length with g|g
  ·exact hc.c1 j h1 g
  ·have hq:=hA.2 (j-x.zA.length) (by omega)
   rw[zUi h hE hT hk g h2,yAg h hE hT hk g h2,zHg h hE hT hk aU,zAP,zCp h hE hT g h2,zBu h hE hT (by omega)];have e:=zOM h hE hT (d:=x.zA.length-(k+1)) (k:=k+1) (by omega) [(m.zF.getD k []).getD (j-x.zA.length) []] [m.Prime] _ _ (by grind) hz aU;have e2:iter m.Prime.toNat (fun w=>adv m.Prime D w ((m.zF.getD k []).getD (j-x.zA.length) [])) (zeros D)=zeros D:=zUf (by omega);unfold pw;refine e.trans ?_;show zeros _++iter m.Prime.toNat (fun w=>adv m.Prime D w ((m.zF.getD k []).getD (j-x.zA.length) [])) (zeros D)=_;rw[e2]
 ·rw[hl]at h4
  rcases Jg j x.zA.length with g|g
  ·exact hc.c2 i h1 (by omega) j h3 g
  ·have hq:=hA.2 (j-x.zA.length) (by omega)
   rw[zUi h hE hT hk g h4];rcases Jg i x.zA.length with gi|gi
   ·have hAi:=hE.m.mat i gi
    have d6:=hAi.2 (j-x.zA.length) (by omega);have pJ:=(zAj h hk h1 gi).2.2;have ht:=zEb h hE hT (i:=k) (j:=i) (by omega) gi;rw[zI9 h hE hT hk h1 gi,yAh h hE hT hk gi g h4,zHg h hE hT hk d6,zQ4 h hE hT _ (k+1) (by omega) _ _ _ hq pJ ht,zFy h hE hT _ (k+1) (by omega) _ _ _ pJ ht (vG (by omega)),tS]
    congr 2
    rw[←zCg (by rw[hA.1];omega),←zCg (by rw[hAi.1];omega),r2 i (by omega) gi]
   ·have d6:=hA.2 (i-x.zA.length) (by omega)
    rw[zUi h hE hT hk gi (by omega),yAi h hE hT hk gi (by omega) h4,zHg h hE hT hk (sJ (by omega)),zRG (by omega) hA,zFy h hE hT _ (k+1) (by omega) _ _ _ hz hq d6,zFy h hE hT _ (k+1) (by omega) _ _ _ hz d6 hq,tS]
 ·rw[hl]at h2 ⊢
  rcases Jg j x.zA.length with g|g
  ·have:=hc.c4 j h1 g
   grind
  ·have ht:=zCs h hE hT hk
   have hu:Row m.Prime D (xP D (j-x.zA.length)):=sJ (by omega);rw[show x.zA.length+D-(k+1)=x.zA.length-(k+1)+D from by omega,show j-(k+1)=x.zA.length-(k+1)+(j-x.zA.length)from by omega,zMT (by omega),zBK h hE hT hk,zI8 h hE hT hk _ hu,zI5 h hE hT hk,zGp hA (by omega) hu,r1,zQ4 h hE hT _ (k+1) (by omega) _ _ _ hu hw ht,zFy h hE hT _ (k+1) (by omega) _ _ _ hw ht (vG (by omega)),tS]
theorem yAj(hk:x.zA.length≤k)(h2:k<x.zA.length+D):LC (exx D x m T) k:=by
 have hp:=hE.m.p.pos;have hl:=wG h hE hT;have hs:=zA7 h hE hT (x.zA.length+D-(k+1)) (k+1) (by omega) (by omega);have hL:=zA7 h hE hT (x.zA.length+D-(k+1)+1) k (by omega) (by omega);rw[yG (by omega),hs,tlv]at hL;have bT:lvl (exx D x m T) k=⟨m.Prime,zeros (x.zA.length+D-(k+1)),wO (x.zA.length+D-(k+1))⟩:=(Q2.inj hL).1
 generalize hd:x.zA.length+D-(k+1)=d at*
 have ep:∀w,Row m.Prime d w→sig (tlv m.Prime d) ⟨m.Prime,zeros d,wO d⟩ w=w:=by grind[zXn]
 have bH:Row m.Prime d (zeros d):=xQ (by omega);have dz:∀j,(wO d).getD j []=if j<d then xP d j else[]:=fun j=>by
  by_cases g:j<d
  ·rw[if_pos g,zIk g]
  ·rw[if_neg g,J3,Ld (by grind[wO])];rfl
 refine⟨fun j h1 h3=>?_,fun i h1 h3 j h4 h5=>?_,?_,fun j h1 h3=>?_⟩
 ·rw[hl]at h3
  have hP:(exx D x m T).zV.getD j []=exP x.zA.length D x T j:=wF (by omega);rw[hs,bT,zCp h hE hT (by omega) h3,hP,exP,if_neg (by omega),L6,hd];show pw (mul (tlv m.Prime d)) (zeros (tlv m.Prime d).length) ((wO d).getD (j-(k+1)) []) m.Prime.toNat=sig (tlv m.Prime d) ⟨m.Prime,zeros d,wO d⟩ (zeros d);rw[ep _ bH,dz,if_pos (by omega),zHe];have e:=zD8 (S:=Row m.Prime d) (m':=adv m.Prime d) (fun a b ha hb=>jC (by omega) d a b ha hb) (fun _ _ _ _=>qM (by omega)) [xP d (j-(k+1))] [m.Prime] (zeros d) (by grind[sJ]) bH;exact e.trans (zUf (by omega))
 ·rw[hl]at h3 h5
  rw[hs,bT,zIA h hE hT h3,exC,if_neg (by omega),unC,wF (by omega),qQ,zI4,hd];have e:(mkv d fun q=>if k+1+q=i+1+(j-(i+1))then(1:Int)else 0)=xP d (j-(k+1)):=by
   rw[zAp]
   grind
  rw[e,ep _ (sJ (by omega))];show mul (tlv m.Prime d) ((wO d).getD (j-(k+1)) []) ((wO d).getD (i-(k+1)) [])=mul (tlv m.Prime d) ((wO d).getD (i-(k+1)) []) (xP d (j-(k+1)));rw[dz,dz,if_pos (by omega),if_pos (by omega),jC (by omega) d _ _ (sJ (by omega)) (sJ (by omega)),jC (by omega) d _ _ (sJ (by omega)) (sJ (by omega)),tS]
 ·grind
 ·rw[hl]at h3 ⊢
  have hu:Row m.Prime d (xP d (j-(k+1))):=sJ (by omega);rw[hs,bT,hd,zI1 (ep _ hu),jC (by omega) d _ _ bH hu,jC (by omega) d _ _ hu bH,tS]
theorem zIB:∀(d k:Nat),x.zA.length≤k→k+d=x.zA.length+D→wN (suf (exx D x m T) k)
 |0,k,hk,hd=>by rw[vX (by grind[wG])];simp only[wN]
 |d+1,k,hk,hd=>(zAk (zFv h hE hT) (by rw[wG h hE hT];omega)).2 ⟨zIB d (k+1) (by omega) (by omega),by grind[yAj]⟩
theorem zLb(hr:zC6 x m D):wN (suf (exx D x m T) 0)↔ ∀k,k<x.zA.length→LCn x (exx D x m T) k:=by
 have hl:=wG h hE hT;have key:∀(d k:Nat),k+d=x.zA.length→(wN (suf (exx D x m T) k)↔ ∀i,k≤i→i<x.zA.length→LCn x (exx D x m T) i):=by
  intro d
  induction d with
  |zero=>grind[zIB]
  |succ d ih=>
   intro k hk;rw[zAk (zFv h hE hT) (by omega),ih (k+1) (by omega)];constructor
   ·rintro⟨g1,g2⟩ i h1 h2
    rcases Jg k i with g|g
    ·grind
    ·obtain rfl:i=k:=by omega
     exact⟨fun j a b=>g2.c1 j a (by omega),fun i a b j c d=>g2.c2 i a (by omega) j c (by omega),g2.c3,fun j a b=>g2.c4 j a (by omega)⟩
   grind[zUj]
 simp_all
end
def prE(x:SPr)(k:Nat)(w:Vec):zJ:=⟨fv k (w.take (x.zA.length-k)),w.drop (x.zA.length-k)⟩
theorem jE{x:SPr}{u:Vec}(hy:y.length=x.zA.length-k):prE x k (y++u)=⟨fv k y,u⟩:=by grind[prE]
theorem zCt{α α':Type}{body:α×α'×Int→Option ((α×α'×Int)⊕(α×α'))}{S:β→Prop}(e1:β→α)(e2:β→α')(g:β→β)(n:Int)(hn:0≤n)(hS:∀a,S a→S (g a))
  (h:∀a(i:Nat),S a→(i:Int)<n→body (e1 a,e2 a,(i:Int))=iF (.inl (e1 (g a),e2 (g a),((i+1:Nat):Int))))(he:∀a,S a→body (e1 a,e2 a,n)=iF (.inr (e1 a,e2 a))){a:β}(ha:S a):
  zI body (e1 a,e2 a,0)=iF (e1 (iter n.toNat g a),e2 (iter n.toNat g a)):=by
 have eh:∀k,S (iter k g a):=fun k=>vW (S:=S) hS k ha
 exact zX (body:=body) (r:=(e1 (iter n.toNat g a),e2 (iter n.toNat g a))) (fun i=>(e1 (iter i g a),e2 (iter i g a),(i:Int))) n.toNat (by grind[vL]) (by grind)
structure Mv (D n:Nat) (m0 m:zB):Prop where
 pr:m0.Prime=m.Prime
 mv:∀k,k<n→ ∀u,Row m.Prime D u→f_X m0 u (k:Int)=iF (xY m.Prime D u (m.zF.getD k []))
theorem Mv.self{m:zB}(hE:MOk n m D):Mv D n m m:=by
 refine⟨rfl,fun k hk u hu=>?_⟩;have h3:=hE.d3;have h1:=hE.d1;have hA:=hE.mat k hk;have fC:=hu.1;have hl:=hE.len;unfold f_X;have e1:zL4 m u (k:Int) ([],0)=iF (.inl (xY m.Prime D u (m.zF.getD k []),(D:Int))):=by
  unfold zL4;simp only
  rw[iL (by omega),zM,hE.d,zE (by omega) (by omega),bs,Lh];have pe:yD u 0 (D:Int)=iF u:=by
   unfold yD;rw[if_pos (by omega)]
   congr 1
   rw[show((D:Int)).toNat=D from by omega,show(0:Int).toNat=0 from rfl,U6,Jn (by omega)]
  rw[pe,bs,yO [] (by omega),bs,zCj hE.p (by omega) hu hA,bs,yI (by grind[xY,zY]),bs,bs,K0]
 have e2:zL4 m u (k:Int) (xY m.Prime D u (m.zF.getD k []),(D:Int))=iF (.inr (xY m.Prime D u (m.zF.getD k []))):=by
  unfold zL4
  simp_all
 grind[xL]
section
variable {D:Nat}{x:SPr}{m0 m:zB}{T:Mx} (h:Pres x) (hE:ExB x.zA.length D x m T) (hT:∀i,i<T.length→Row m.Prime D (T.getD i []))
def zUk(D:Nat)(x:SPr)(m0 m:zB)(T:Mx)(k:Nat)(g:zZ→Int→zJ→zJ→Option zJ):Prop:=
 ∀a b,V (suf (exx D x m T) k) a→V (suf (exx D x m T) k) b→g ⟨x,m0,T⟩ k (prE x k a) (prE x k b)=iF (prE x k (mul (suf (exx D x m T) k) a b))
def zUl(D:Nat)(x:SPr)(m0 m:zB)(T:Mx)(k:Nat)(g:zZ→Int→zJ→Option zJ):Prop:=
 ∀v,V (suf (exx D x m T) (k+1)) v→g ⟨x,m0,T⟩ k (prE x (k+1) v)=iF (prE x (k+1) (sig (suf (exx D x m T) (k+1)) (lvl (exx D x m T) k) v))
 include h hE hT
theorem zQ5(hk:k≤i)(hi:i<j)(hj:j<x.zA.length):zL3 ⟨x,m0,T⟩ (i:Int) (j:Int)=iF (prE x (k+1) ((((exx D x m T).zG.getD i []).getD (j-(i+1)) []).drop (k+1)))∧V (suf (exx D x m T) (k+1)) ((((exx D x m T).zG.getD i []).getD (j-(i+1)) []).drop (k+1)):=by
 have hn:=hE.hn;have hb:=zBf x.zA.length (by omega) i (by omega);have ht:=hE.t;obtain⟨_,t2,t3⟩:=h.tl i (by omega);have tt:=t3 (j-(i+1)) (by omega);obtain⟨e1,e2⟩:=zDd (k:=k+1) tt (by omega) (by omega);have hl:=vJ h (by omega) e2;have gC:=h.cl;have hr:=zEb h hE hT hi hj;refine⟨?_,?_⟩
 ·rw[zGq h hE hT hk hi hj,jE hl,←e1]
  unfold zL3;dsimp only
  rw[yO [] (by omega),bs,zE (by omega) (by omega),bs,zE (by omega) (by omega),bs,show(j:Int)-(i:Int)-1=((j-(i+1):Nat):Int)from by omega,yO [] (by omega),bs,zOC x.zA.length (by omega) j hj i hi,bs,yO [] (by omega),bs,show j-i-1=j-(i+1)from by omega]
 ·rw[zGq h hE hT hk hi hj]
  exact(sQ h hE hT (x.zA.length-(k+1)) (k+1) (by omega) _).2 ⟨_,_,rfl,e2,hr⟩
theorem zFz(hk:k<j)(hj:j<x.zA.length):zL3 ⟨x,m0,T⟩ (k:Int) (j:Int)=iF (prE x (k+1) ((lvl (exx D x m T) k).cs.getD (j-(k+1)) []))∧V (suf (exx D x m T) (k+1)) ((lvl (exx D x m T) k).cs.getD (j-(k+1)) []):=by
 have e:(lvl (exx D x m T) k).cs.getD (j-(k+1)) []=(((exx D x m T).zG.getD k []).getD (j-(k+1)) []).drop (k+1):=by
  have hC:((exx D x m T).zG.getD k []).length=x.zA.length+D-1-k:=by rw[zIA h hE hT (by omega),exC,if_pos (by omega),wU]
  simp only[lvl];rw[J3,K3,J5 (by omega),J3 (l:=(exx D x m T).zG.getD k []),J5 (by omega)];rfl
 rw[e];exact zQ5 h hE hT (Jh k) hk hj
theorem zLc(hk:k≤j)(hj:j<x.zA.length):zPw ⟨x,m0,T⟩ (j:Int)=iF (prE x (k+1) (((exx D x m T).zV.getD j []).drop (k+1)))∧V (suf (exx D x m T) (k+1)) (((exx D x m T).zV.getD j []).drop (k+1)):=by
 have hn:=hE.hn;have hb:=wT x.zA.length (by omega);have ht:=hE.t;have cU:=h.pl;have t1:=(h.tl j hj).1;obtain⟨e1,e2⟩:=zDd (k:=k+1) t1 (by omega) (by omega);have hl:=vJ h (by omega) e2;have hr:=zCs h hE hT hj;refine⟨?_,?_⟩
 ·rw[zE7 h hE hT hk hj,jE hl,←e1]
  grind[zPw,yO]
 ·rw[zE7 h hE hT hk hj]
  exact(sQ h hE hT (x.zA.length-(k+1)) (k+1) (by omega) _).2 ⟨_,_,rfl,e2,hr⟩
theorem zLd(hk:k≤x.zA.length)(h0:0<x.zA.length):zNE ⟨x,m0,T⟩=iF (prE x k (zeros (suf (exx D x m T) k).length)):=by
 have hn:=hE.hn;have h3:=hE.m.d3;have hb:=wT x.zA.length (by omega);have ht:=hE.t;have hr:=zCs h hE hT h0;have cR:=hr.1;unfold zNE;dsimp only
 have e0:ixO T 0=iF (T.getD 0 []):=by grind[yO]
 rw[iL (by omega),zM,e0,bs,xF (by omega),bs,xF (by omega),bs,zBu h hE hT hk,jE (yC _),cR,fv]
 grind[zeros,Je]
theorem zUm{u v:Vec}(hu:Row m.Prime D u)(hv:Row m.Prime D v):f_A m.Prime u 1 v=iF (adv m.Prime D u v):=by
 have _:=h;have _:=hT;have h3:=hE.m.d3;rw[tY hE.m.p hu hv (by omega) (by omega)]
 congr 1
 exact yB (by simp)
theorem prV(hk:k≤x.zA.length){w:Vec}(hw:V (suf (exx D x m T) k) w):∃y u,w=y++u∧V (suf x k) y∧Row m.Prime D u∧prE x k w=⟨fv k y,u⟩∧y.length=x.zA.length-k:=by obtain⟨y,u,rfl,hy,hu⟩:=(sQ h hE hT (x.zA.length-k) k (by omega) _).1 hw;have e7:=vJ h hk hy;exact⟨y,u,rfl,hy,hu,jE e7,e7⟩
variable (hM:Mv D x.zA.length m0 m)
 include hM
theorem zMW(hk:k<x.zA.length){g:zZ→Int→zJ→zJ→Option zJ}(hg:zUk D x m0 m T (k+1) g):zUl D x m0 m T k (b_h g):=by
 intro v hv;have hn:=hE.hn;have hp:=hE.m.p.pos;have ok:=uK h hE hT (k:=k+1) (by omega);have hA:=hE.m.mat k hk;obtain⟨y,u,rfl,hy,hu,co,e7⟩:=prV h hE hT (k:=k+1) (by omega) hv;obtain⟨_,hyr⟩:=zEw h.os (x.zA.length-(k+1)) (k+1) y (by omega) hy;have gC:=jD h hE hT (k:=k);have gM:=zQ3 h hE hT hk;have hcg:∀i,i<x.zA.length-(k+1)→(eC1 x T k).getD i []=(lvl (exx D x m T) k).cs.getD i []:=fun i hi=>by rw[zCq h hE hT hk,J3,J3,Kn (by omega)]
 obtain⟨A,dj⟩:∃A:Nat→Vec,∀i,A i=img (mul (suf (exx D x m T) (k+1))) ((eC1 x T k).take i) (y.take i) (zeros (suf (exx D x m T) (k+1)).length):=⟨_,fun _=>rfl⟩;have hI:∀i,V (suf (exx D x m T) (k+1)) (A i):=fun i=>by rw[dj];exact jB (xJ ok) _ _ (by grind) (wS ok)
 have hA0:A 0=zeros (suf (exx D x m T) (k+1)).length:=by grind[img]
 have hAn:A (x.zA.length-(k+1))=sgG D x m T k y:=by rw[dj,Jn (by omega),Jn (by omega)];rfl
 rw[co];unfold b_h;dsimp only
 rw[zLd h hE hT (k:=k+1) (by omega) (by omega),bs,zE (by omega) (by omega),bs,cs];have:=zX (body:=zWc g ⟨x,m0,T⟩ k ⟨fv (k+1) y,u⟩) (r:=((prE x (k+1) (sgG D x m T k y)).x,(prE x (k+1) (sgG D x m T k y)).v))
  (fun i=>((prE x (k+1) (A i)).x,(prE x (k+1) (A i)).v,((k+1+i:Nat):Int))) (x.zA.length-(k+1)) (fun i hi=>by
  have hr:=hyr i hi;obtain⟨c1,c2⟩:=zFz h hE hT (k:=k) (j:=k+1+i) (by omega) (by omega);rw[show k+1+i-(k+1)=i from by omega]at c1 c2;unfold zWc;dsimp only
  rw[iL (by grind[zDb]),zM];rw[zCt (S:=V (suf (exx D x m T) (k+1))) (fun w=>(prE x (k+1) w).x) (fun w=>(prE x (k+1) w).v) (fun w=>mul (suf (exx D x m T) (k+1)) w ((lvl (exx D x m T) k).cs.getD i [])) (at0 y i) hr.1 (by grind[xJ]) (fun w q hw hq=>by
   unfold zXX;dsimp only
   rw[fv,zM0 (by omega),bs,iL hq,zM,zE (by omega) (by omega),bs,c1,bs,cs,show(zJ.mk (prE x (k+1) w).x (prE x (k+1) w).v)=prE x (k+1) w from rfl,hg w _ hw c2,bs,zE (by omega) (by omega),bs,cs]) (fun w hw=>by
   unfold zXX;dsimp only
   rw[fv,zM0 (by omega),bs,iJ (by omega),zQ]) (hI i),bs,zE (by omega) (by omega),bs,cs]
  rw[dj (i+1),zBD _ _ _ _ (by omega) (by omega),hcg i hi,←dj];rfl) (by
  unfold zWc;dsimp only
  rw[iJ (by grind[zDb]),zQ,hAn])
 rw[hA0,Q6]at this;rw[this,bs,hM.mv k hk _ hu,bs];obtain⟨y1,u1,e,fb,cC,u9,mE⟩:=prV h hE hT (k:=k+1) (by omega) (zI7 h hE hT hk (y:=y));rw[zCr h hE hT hk hy hu,u9,e,Jo mE,Jz mE,jE mE];dsimp only
 rw[hM.pr,zUm h hE hT cC (vG (by omega)),bs]
theorem zUn(hk:k<x.zA.length){g:zZ→Int→zJ→zJ→Option zJ}{gi:zZ→Int→zJ→Option zJ}(hg:zUk D x m0 m T (k+1) g)(hi:zUl D x m0 m T k gi):zUk D x m0 m T k (b_d gi g):=by
 have _:=hM;intro a b ha hb;have hn:=hE.hn;have hl:=wG h hE hT;have hp:=(h.os.2 k hk).pos;have ok:=uK h hE hT (k:=k+1) (by omega);have ok0:=uK h hE hT (k:=k) (by omega);obtain⟨al,au,rfl,bB,hau,fS,pK⟩:=prV h hE hT (k:=k) (by omega) ha;obtain⟨bl,bu,rfl,cL,hbu,bQ,hbll⟩:=prV h hE hT (k:=k) (by omega) hb;rw[fS,bQ];rw[yG (x:=x) hk]at bB cL;rw[yG (x:=exx D x m T) (by omega)]at ok0 ⊢
 obtain⟨a0,a,rfl⟩:∃a0 a',al=a0::a':=by cases al with|nil=>grind|cons p q=>simp
 obtain⟨b0,b,rfl⟩:∃a0 a',bl=a0::a':=by cases bl with|nil=>grind|cons p q=>simp
 obtain⟨⟨a1,a2⟩,bB⟩:=bB;obtain⟨⟨b1,b2⟩,cL⟩:=cL;change a0<at0 x.zA k at a2;change b0<at0 x.zA k at b2;have iB:=vJ h (by omega) bB;have iw:=vJ h (by omega) cL;have hA:=(sQ h hE hT (x.zA.length-(k+1)) (k+1) (by omega) (a++au)).2 ⟨_,_,rfl,bB,hau⟩;have hB:=(sQ h hE hT (x.zA.length-(k+1)) (k+1) (by omega) (b++bu)).2 ⟨_,_,rfl,cL,hbu⟩;have own:∀u,V (suf x (k+1)) u→f_y (fv (k+1) u)=iF (fv (k+1) u):=by grind[qB,zDb]
 have own':∀(c:Int) u,V (suf x (k+1)) u→f_y (fv k (c::u))=iF (fv k (c::u)):=fun c u hu=>qB (by have:=vJ h (by omega) hu;rw[fv,J9,yC,J8];omega)
 have ep:∀u,V (suf (exx D x m T) (k+1)) u→V (suf (exx D x m T) (k+1)) (sig (suf (exx D x m T) (k+1)) (lvl (exx D x m T) k) u):=by grind[zCU]
 have eh:V (suf (exx D x m T) (k+1)) (iter b0.toNat (sig (suf (exx D x m T) (k+1)) (lvl (exx D x m T) k)) (a++au)):=vW ep _ hA;have ea:(⟨fv (k+1) a,au⟩:zJ)=prE x (k+1) (a++au):=(jE iB).symm;have eb:(⟨fv (k+1) b,bu⟩:zJ)=prE x (k+1) (b++bu):=(jE iw).symm;unfold b_d;dsimp only
 rw[iJ (by omega),zQ,own' _ _ bB,bs,own' _ _ cL,bs,zCZ,bs,zCZ,bs,J6,zDX,zDX,zCf,zCf];have e1:zI (zSe gi ⟨x,m0,T⟩ k ⟨fv k (b0::b),bu⟩) (zeros (k+1)++a,au,0)=iF ((prE x (k+1) (iter b0.toNat (sig (suf (exx D x m T) (k+1)) (lvl (exx D x m T) k)) (a++au))).x,(prE x (k+1) (iter b0.toNat (sig (suf (exx D x m T) (k+1)) (lvl (exx D x m T) k)) (a++au))).v):=by
  have:=zCt (body:=zSe gi ⟨x,m0,T⟩ k ⟨fv k (b0::b),bu⟩) (S:=V (suf (exx D x m T) (k+1))) (fun w=>(prE x (k+1) w).x) (fun w=>(prE x (k+1) w).v) (sig (suf (exx D x m T) (k+1)) (lvl (exx D x m T) k)) b0 b1 ep (fun w q hw hq=>by
   unfold zSe;dsimp only
   rw[zCZ,bs,iL hq,zM,show(zJ.mk (prE x (k+1) w).x (prE x (k+1) w).v)=prE x (k+1) w from rfl,hi w hw,bs,zE (by omega) (by omega),bs,cs]) (fun w hw=>by
   unfold zSe;dsimp only
   rw[zCZ,bs,iJ (by omega),zQ]) hA
  grind
 rw[e1,bs,zE (by omega) (by omega),bs,cs];dsimp only
 rw[show zeros (k+1)++b=fv (k+1) b from rfl,eb,show(zJ.mk (prE x (k+1) (iter b0.toNat (sig (suf (exx D x m T) (k+1)) (lvl (exx D x m T) k)) (a++au))).x (prE x (k+1) (iter b0.toNat (sig (suf (exx D x m T) (k+1)) (lvl (exx D x m T) k)) (a++au))).v)=prE x (k+1) (iter b0.toNat (sig (suf (exx D x m T) (k+1)) (lvl (exx D x m T) k)) (a++au))from rfl,hg _ _ eh hB,bs,bs,bs,zE (by omega) (by omega),bs,yQ hk,bs];have hm:=xJ ok eh hB;show _=iF (prE x k (mul _ (a0::(a++au)) (b0::(b++bu))));rw[xD,zBK h hE hT hk]
 generalize mul (suf (exx D x m T) (k+1)) (iter b0.toNat (sig (suf (exx D x m T) (k+1)) (lvl (exx D x m T) k)) (a++au)) (b++bu)=r at hm ⊢
 have fin:∀(c:Int) w,V (suf (exx D x m T) (k+1)) w→((f_y (prE x (k+1) w).x).bind fun r22=>(ixO r22 (k:Int)).bind fun _=>iF (zJ.mk (r22.set k c) (prE x (k+1) w).v))=iF (prE x k (c::w)):=fun c w hw=>by
  obtain⟨w1,w2,rfl,h1,h2,h3,h4⟩:=prV h hE hT (k:=k+1) (by omega) hw;have e3:prE x k (c::(w1++w2))=⟨fv k (c::w1),w2⟩:=by grind[jE]
  rw[h3,e3];dsimp only
  rw[own _ h1,bs,fv,←zCf,zCZ,bs,zDX]
 by_cases hge:a0+b0≥at0 x.zA k
 ·obtain⟨p1,p2⟩:=zLc h hE hT (k:=k) (j:=k) (Jh k) hk
  change V (suf (exx D x m T) (k+1)) (lvl (exx D x m T) k).w at p2;rw[iL hge,zM,if_pos hge,bs,zE (by omega) (by omega),bs,bs,p1,bs];have e4:=hg _ _ p2 hm;rw[show(((exx D x m T).zV.getD k []).drop (k+1))=(lvl (exx D x m T) k).w from rfl,e4,bs]
  grind[xJ]
 ·rw[iJ hge,zQ,if_neg hge]
  grind
theorem zE8:∀(d k:Nat),k+d=x.zA.length→(∀q,2*d+1≤q→zUk D x m0 m T k (zPy q))∧(1≤d→ ∀q,2*d≤q→zUl D x m0 m T k (zPx q))
 |0,k,hk=>by
  refine⟨fun q hq a b ha hb=>?_,fun h=>by omega⟩;have hn:=hE.hn;have hp:=hE.m.p.pos;obtain⟨q,rfl⟩:∃m',q=m'+1:=⟨q-1,by omega⟩;rw[zA7 h hE hT D k (by omega) (by omega)]at ha hb ⊢
  have mg:=(zEa _ _).1 ha;have f9:=(zEa _ _).1 hb;show b_d _ _ ⟨x,m0,T⟩ k _ _=_;unfold b_d;have e:∀w:Vec,prE x k w=⟨zeros k,w⟩:=fun w=>by rw[prE,show x.zA.length-k=0 from by omega,Kd,U6,fv,Jf]
  rw[e,e,e];dsimp only
  rw[iL (by omega),zM,xF (by omega),bs,hM.pr,zUm h hE hT mg f9,bs,jC (by omega) D _ _ mg f9,show x.zA.length=k from by omega];rfl
 |d+1,k,hk=>by
  obtain⟨h1,h2⟩:=zE8 d (k+1) (by omega);have hI:∀q,2*(d+1)≤q→zUl D x m0 m T k (zPx q):=fun q hq=>by obtain⟨q,rfl⟩:∃m',q=m'+1:=⟨q-1,by omega⟩;exact zMW h hE hT hM (by omega) (h1 q (by omega))
  refine⟨fun q hq=>?_,fun _=>hI⟩;obtain⟨q,rfl⟩:∃m',q=m'+1:=⟨q-1,by omega⟩;exact zUn h hE hT hM (by omega) (h1 q (by omega)) (hI q (by omega))
theorem zIC(hk:k≤x.zA.length):zUk D x m0 m T k f_d:=fun a b ha hb=>
 zBA (2*(x.zA.length-k)+1) fun q hq=>(zE8 h hE hT hM (x.zA.length-k) k (by omega)).1 q hq a b ha hb
theorem zBg(hk:k<x.zA.length):zUl D x m0 m T k f_h:=fun v hv=>
 zBA (2*(x.zA.length-k)) fun q hq=>(zE8 h hE hT hM (x.zA.length-k) k (by omega)).2 (by omega) q hq v hv
end
structure GR (p:Int) (D:Nat) (Z:Vec→Prop) (L:Mx) (N:Nat) (C:Prop):Prop where
 len:L.length≤N
 row:∀r∈L,Row p D r
 iff:(∀r∈L,Z r)↔C
theorem GR.nil{p:Int}:GR p D Z [] N True:=⟨by simp,by simp,by simp⟩
theorem GR.app{p:Int}{M:Nat}{L L':Mx}{C':Prop}(h:GR p D Z L N C)(h':GR p D Z L' M C'):GR p D Z (L++L') (N+M) (C∧C'):=by
 refine⟨by have:=h.len;have:=h'.len;grind,fun r hr=>?_,?_⟩
 ·rcases Jd.1 hr with g|g
  ·exact h.row r g
  ·exact h'.row r g
 ·rw[←h.iff,←h'.iff]
  grind
theorem GR.one{p:Int}(hr:Row p D r)(h:Z r↔C):GR p D Z [r] 1 C:=
 ⟨by simp,by grind,by grind⟩
theorem GR.to{p:Int}{M:Nat}{L:Mx}{C':Prop}(h:GR p D Z L N C)(hN:N≤M)(hc:C↔C'):GR p D Z L M C':=⟨by have:=h.len;omega,h.row,h.iff.trans hc⟩
def c1E(e:SPr)(k j:Nat):Prop:=pw (mul (suf e (k+1))) (zeros (suf e (k+1)).length) ((lvl e k).cs.getD (j-(k+1)) []) (at0 e.zA j).toNat=sig (suf e (k+1)) (lvl e k) ((e.zV.getD j []).drop (k+1))
def c2E(e:SPr)(k i j:Nat):Prop:=mul (suf e (k+1)) ((lvl e k).cs.getD (j-(k+1)) []) ((lvl e k).cs.getD (i-(k+1)) [])=mul (suf e (k+1)) ((lvl e k).cs.getD (i-(k+1)) []) (sig (suf e (k+1)) (lvl e k) (((e.zG.getD i []).getD (j-(i+1)) []).drop (k+1)))
def c4E(e:SPr)(k j:Nat):Prop:=mul (suf e (k+1)) (lvl e k).w (iter (lvl e k).o.toNat (sig (suf e (k+1)) (lvl e k)) (xP (e.zA.length-(k+1)) (j-(k+1))))=mul (suf e (k+1)) (xP (e.zA.length-(k+1)) (j-(k+1))) (lvl e k).w
def c1Q(Q:Nat→Vec→Vec→Prop)(e:SPr)(k j:Nat):Prop:=Q (k+1) (pw (mul (suf e (k+1))) (zeros (suf e (k+1)).length) ((lvl e k).cs.getD (j-(k+1)) []) (at0 e.zA j).toNat) (sig (suf e (k+1)) (lvl e k) ((e.zV.getD j []).drop (k+1)))
def c2Q(Q:Nat→Vec→Vec→Prop)(e:SPr)(k i j:Nat):Prop:=Q (k+1) (mul (suf e (k+1)) ((lvl e k).cs.getD (j-(k+1)) []) ((lvl e k).cs.getD (i-(k+1)) [])) (mul (suf e (k+1)) ((lvl e k).cs.getD (i-(k+1)) []) (sig (suf e (k+1)) (lvl e k) (((e.zG.getD i []).getD (j-(i+1)) []).drop (k+1))))
def c4Q(Q:Nat→Vec→Vec→Prop)(e:SPr)(k j:Nat):Prop:=Q (k+1) (mul (suf e (k+1)) (lvl e k).w (iter (lvl e k).o.toNat (sig (suf e (k+1)) (lvl e k)) (xP (e.zA.length-(k+1)) (j-(k+1))))) (mul (suf e (k+1)) (xP (e.zA.length-(k+1)) (j-(k+1))) (lvl e k).w)
structure LCQ (Q:Nat→Vec→Vec→Prop) (x e:SPr) (k:Nat):Prop where
 c1:∀j,k+1≤j→j<x.zA.length→c1Q Q e k j
 c2:∀i,k+1≤i→i<x.zA.length→ ∀j,i+1≤j→j<x.zA.length→c2Q Q e k i j
 c3:Q (k+1) (sig (suf e (k+1)) (lvl e k) (lvl e k).w) (lvl e k).w
 c4:∀j,k+1≤j→j<x.zA.length→c4Q Q e k j
section
variable {D:Nat}{x:SPr}{m0 m:zB}{T:Mx} (h:Pres x) (hE:ExB x.zA.length D x m T) (hT:∀i,i<T.length→Row m.Prime D (T.getD i []))
 include h hE hT
theorem zCu(hk:k≤x.zA.length){a b:Vec}(ha:V (suf (exx D x m T) k) a)(hb:V (suf (exx D x m T) k) b):(mul (suf (exx D x m T) k) a b).take (x.zA.length-k)=mul (suf x k) (a.take (x.zA.length-k)) (b.take (x.zA.length-k)):=by grind[zLa]
theorem zE9(hk:k<x.zA.length){v:Vec}(hv:V (suf (exx D x m T) (k+1)) v):(sig (suf (exx D x m T) (k+1)) (lvl (exx D x m T) k) v).take (x.zA.length-(k+1))=sig (suf x (k+1)) (lvl x k) (v.take (x.zA.length-(k+1))):=
 by grind[zMV,zLa]
theorem zGr(hk:k<x.zA.length){v:Vec}(hv:V (suf (exx D x m T) (k+1)) v):V (suf (exx D x m T) (k+1)) (sig (suf (exx D x m T) (k+1)) (lvl (exx D x m T) k) v):=by
 have gB:=uK h hE hT (k:=k) (by omega);rw[yG (x:=exx D x m T) (by grind[wG])]at gB
 grind[zCU]
theorem zLe{k:Nat}(hk:k<x.zA.length):∀(q:Nat){v:Vec},V (suf (exx D x m T) (k+1)) v→(iter q (sig (suf (exx D x m T) (k+1)) (lvl (exx D x m T) k)) v).take (x.zA.length-(k+1))=iter q (sig (suf x (k+1)) (lvl x k)) (v.take (x.zA.length-(k+1)))
 |0,_,_=>rfl
 |q+1,v,hv=>by have:=zLe hk q (zGr h hE hT hk hv);rw[zE9 h hE hT hk hv]at this;exact this
theorem zXp(hk:k≤x.zA.length):(zeros (suf (exx D x m T) k).length).take (x.zA.length-k)=zeros (suf x k).length:=by grind[zBu,yC,yS]
theorem zYJ(hk:k≤x.zA.length){c:Vec}(hc:V (suf (exx D x m T) k) c)(q:Nat):(pw (mul (suf (exx D x m T) k)) (zeros (suf (exx D x m T) k).length) c q).take (x.zA.length-k)=pw (mul (suf x k)) (zeros (suf x k).length) (c.take (x.zA.length-k)) q:=by have ok:=uK h hE hT (k:=k) (by omega);have:=zFw (S:=V (suf (exx D x m T) k)) (n:=mul (suf x k)) (·.take (x.zA.length-k)) (fun a b=>xJ ok) (by grind[zCu]) [c] [(q:Int)] (zeros (suf (exx D x m T) k).length) (by grind) (wS ok);simp only[Jr,Ub,img,J6]at this;rw[zXp h hE hT hk]at this;exact this
section
variable {k:Nat} (hk:k<x.zA.length)
 include hk
theorem zKg(h1:k+1≤j)(h2:j<x.zA.length):((lvl (exx D x m T) k).cs.getD (j-(k+1)) []).take (x.zA.length-(k+1))=(lvl x k).cs.getD (j-(k+1)) []:=by rw[zI9 h hE hT hk h1 h2,Jo (vJ h (by omega) (zAj h hk h1 h2).2.2)]
theorem zID(h1:k≤j)(h2:j<x.zA.length):(((exx D x m T).zV.getD j []).drop (k+1)).take (x.zA.length-(k+1))=(x.zV.getD j []).drop (k+1):=by
 have t1:=(h.tl j h2).1.1.1
 grind[zE7]
theorem zUo(h1:k+1≤i)(h2:i<j)(h3:j<x.zA.length):((((exx D x m T).zG.getD i []).getD (j-(i+1)) []).drop (k+1)).take (x.zA.length-(k+1))=((x.zG.getD i []).getD (j-(i+1)) []).drop (k+1):=by rw[zGq h hE hT (by omega) h2 h3,Jo (vJ h (by omega) (zTI h hk h1 h2 h3).2.2)]
theorem zUp(h1:k+1≤j)(h2:j<x.zA.length):xP ((exx D x m T).zA.length-(k+1)) (j-(k+1))=xP (x.zA.length-(k+1)) (j-(k+1))++zeros D:=by have _:=hk;grind[wG,zBc,zeros,Je]
end
variable (hM:Mv D x.zA.length m0 m) {Z:Vec→Prop}{Q:Nat→Vec→Vec→Prop} (hZ:∀k,k≤x.zA.length→ ∀a b,V (suf (exx D x m T) k) a→V (suf (exx D x m T) k) b→a.take (x.zA.length-k)=b.take (x.zA.length-k)→(Z (vZ m.Prime D (a.drop (x.zA.length-k)) (-1) (b.drop (x.zA.length-k)))↔Q k a b))
 include hM hZ
theorem zLf(hk:k≤x.zA.length){a b:Vec}(ha:V (suf (exx D x m T) k) a)(hb:V (suf (exx D x m T) k) b)(e:a.take (x.zA.length-k)=b.take (x.zA.length-k)):∃r,zNF ⟨x,m0,T⟩ (prE x k a) (prE x k b)=iF r∧Row m.Prime D r∧(Z r↔Q k a b):=by
 have h7:=hE.m.p.pos;have h3:=hE.m.d3;obtain⟨y,u,rfl,hy,hu,co,e7⟩:=prV h hE hT hk ha;obtain⟨z,v,rfl,hz,hv,u8,mh⟩:=prV h hE hT hk hb;have mD:=hZ k hk _ _ ha hb e;rw[Jz e7,Jz mh]at mD;unfold zNF;rw[co,u8];dsimp only
 rw[hM.pr,zE (by omega) (by omega),bs,tY hE.m.p hu hv (by omega) (by omega),bs,zE0];exact⟨_,rfl,zAm hE.m.p,mD⟩
section
variable {k:Nat} (hk:k<x.zA.length) (hc:LC x k)
 include hk
 include hc
theorem yDt(h1:k+1≤j)(h2:j<x.zA.length){L0 L:Mx}(hL:GR m.Prime D Z L N C)(hN:N≤1000){f:Mx→Option (Mx×Int⊕Mx)}:∃L',((zNE ⟨x,m0,T⟩).bind fun r2=>
  (zI (zSf ⟨x,m0,T⟩ (k:Int) (L0,(j:Int))) (r2.x,r2.v,0)).bind fun r8=>
  (zPw ⟨x,m0,T⟩ (j:Int)).bind fun r9=>
  (f_h ⟨x,m0,T⟩ (k:Int) r9).bind fun r10=>
  (zNF ⟨x,m0,T⟩ (zJ.mk r8.1 r8.2) r10).bind fun r11=>
  (xS L [r11]).bind f)=f L'∧GR m.Prime D Z L' (N+1) (C∧c1Q Q (exx D x m T) k j):=by
 have ok:=uK h hE hT (k:=k+1) (by omega);have hn:=hE.hn;have hp:=(h.os.2 j h2).pos;have hz:=wS ok;obtain⟨c1,c2⟩:=zFz h hE hT (k:=k) (j:=j) (by omega) h2;obtain⟨p1,p2⟩:=zLc h hE hT (k:=k) (j:=j) (by omega) h2;have hA:=zIC h hE hT hM (k:=k+1) (by omega);have hI:=zBg h hE hT hM hk;have i5:zI (zSf ⟨x,m0,T⟩ (k:Int) (L0,(j:Int))) ((prE x (k+1) (zeros (suf (exx D x m T) (k+1)).length)).x,(prE x (k+1) (zeros (suf (exx D x m T) (k+1)).length)).v,0)=iF ((prE x (k+1) (pw (mul (suf (exx D x m T) (k+1))) (zeros (suf (exx D x m T) (k+1)).length) ((lvl (exx D x m T) k).cs.getD (j-(k+1)) []) (at0 x.zA j).toNat)).x,(prE x (k+1) (pw (mul (suf (exx D x m T) (k+1))) (zeros (suf (exx D x m T) (k+1)).length) ((lvl (exx D x m T) k).cs.getD (j-(k+1)) []) (at0 x.zA j).toNat)).v):=
  zCt (S:=V (suf (exx D x m T) (k+1))) (fun w=>(prE x (k+1) w).x) (fun w=>(prE x (k+1) w).v) (fun w=>mul (suf (exx D x m T) (k+1)) w ((lvl (exx D x m T) k).cs.getD (j-(k+1)) [])) (at0 x.zA j) (by omega) (by grind[xJ]) (fun w q hw hq=>by
   unfold zSf;dsimp only
   rw[yQ h2,bs,iL hq,zM,zE (by omega) (by omega),bs,c1,bs,cs,show(zJ.mk (prE x (k+1) w).x (prE x (k+1) w).v)=prE x (k+1) w from rfl,hA w _ hw c2,bs,zE (by omega) (by omega),bs,cs]) (by grind[zSf,yQ]) hz
 have u7:V (suf (exx D x m T) (k+1)) (pw (mul (suf (exx D x m T) (k+1))) (zeros (suf (exx D x m T) (k+1)).length) ((lvl (exx D x m T) k).cs.getD (j-(k+1)) []) (at0 x.zA j).toNat):=vW (by grind[xJ]) _ hz;obtain⟨r,r1,r2,r3⟩:=zLf h hE hT hM hZ (k:=k+1) (by omega) u7 (zGr h hE hT hk p2) (by rw[zYJ h hE hT (by omega) c2,zE9 h hE hT hk p2,zKg h hE hT hk h1 h2,zID h hE hT hk (by omega) h2];exact hc.c1 j h1 h2)
 have da:=hL.len;refine⟨L++[r],?_,hL.app (GR.one r2 (r3.trans ?_))⟩
 ·rw[zLd h hE hT (k:=k+1) (by omega) (by omega),bs,i5,bs,p1,bs,hI _ p2,bs]
  dsimp only
  rw[r1,bs,yI (by simp;omega),bs]
 ·unfold c1Q;rw[tK h hE hT h2]
theorem yDu(h1:k+1≤j)(h2:j<x.zA.length){L0 L:Mx}(hL:GR m.Prime D Z L N C)(hN:N≤1000):∃L',zI (zSg ⟨x,m0,T⟩ (k:Int) (L0,(j:Int))) (L,((j+1:Nat):Int))=iF L'∧GR m.Prime D Z L' (N+(x.zA.length-(j+1))) (C∧ ∀j2,j+1≤j2→j2<x.zA.length→c2Q Q (exx D x m T) k j j2):=by
 have ok:=uK h hE hT (k:=k+1) (by omega);have hn:=hE.hn;have hA:=zIC h hE hT hM (k:=k+1) (by omega);have hI:=zBg h hE hT hM hk;refine uS (fun i(s:Mx×Int)=>s.2=((j+1+i:Nat):Int)∧GR m.Prime D Z s.1 (N+i) (C∧ ∀j2,j+1≤j2→j2<j+1+i→c2Q Q (exx D x m T) k j j2)) (x.zA.length-(j+1)) (fun i s hi ⟨hs,hg⟩=>?_) (fun s ⟨hs,hg⟩=>?_) ⟨rfl,hL.to (by omega) (by grind)⟩
 ·left
  obtain⟨L1,s2⟩:=s;dsimp only at hs hg;subst hs;have g2:j+1+i<x.zA.length:=by omega
  obtain⟨a1,a2⟩:=zFz h hE hT (k:=k) (j:=j) (by omega) h2;obtain⟨b1,b2⟩:=zFz h hE hT (k:=k) (j:=j+1+i) (by omega) g2;obtain⟨d1,d2⟩:=zQ5 h hE hT (k:=k) (i:=j) (j:=j+1+i) (by omega) (by omega) g2;have hs:=zGr h hE hT hk d2;obtain⟨r,r1,r2,r3⟩:=zLf h hE hT hM hZ (k:=k+1) (by omega) (xJ ok b2 a2) (xJ ok a2 hs) (by rw[zCu h hE hT (by omega) b2 a2,zCu h hE hT (by omega) a2 hs,zE9 h hE hT hk d2,zKg h hE hT hk h1 h2,zKg h hE hT hk (by omega) g2,zUo h hE hT hk h1 (by omega) g2];exact hc.c2 j h1 h2 (j+1+i) (by omega) g2)
  have da:=hg.len;refine⟨(L1++[r],((j+1+i+1:Nat):Int)),?_,rfl,(hg.app (GR.one r2 r3)).to (by omega) ?_⟩
  ·unfold zSg
   dsimp only
   rw[iL (by omega),zM,a1,bs,b1,bs,d1,bs,hI _ d2,bs,zE (by omega) (by omega),bs,cs,hA _ _ b2 a2,bs,bs,hA _ _ a2 hs,bs,r1,bs,yI (by simp;omega),bs,zE (by omega) (by omega),bs,cs]
  ·constructor
   ·rintro⟨⟨g1,g3⟩,g4⟩
    refine⟨g1,fun j2 e1 e2=>?_⟩;rcases Jg j2 (j+1+i)with e|e
    ·grind
    ·obtain rfl:j2=j+1+i:=by omega
     exact g4
   ·rintro⟨g1,g3⟩
    exact⟨by grind,g3 (j+1+i) (by omega) (by omega)⟩
 ·obtain⟨L1,s2⟩:=s
  dsimp only at hs hg;subst hs;refine⟨L1,?_,hg.to (Jh _) ?_⟩
  all_goals grind[zSg]
theorem yDv:∃L',zI (zWd ⟨x,m0,T⟩ (k:Int)) ([],((k+1:Nat):Int))=iF L'∧GR m.Prime D Z L' 100 (∀j,k+1≤j→j<x.zA.length→c1Q Q (exx D x m T) k j∧ ∀j2,j+1≤j2→j2<x.zA.length→c2Q Q (exx D x m T) k j j2):=by
 have hn:=hE.hn;refine uS (fun i(s:Mx×Int)=>s.2=((k+1+i:Nat):Int)∧GR m.Prime D Z s.1 (7*i) (∀j,k+1≤j→j<k+1+i→c1Q Q (exx D x m T) k j∧ ∀j2,j+1≤j2→j2<x.zA.length→c2Q Q (exx D x m T) k j j2)) (x.zA.length-(k+1)) (fun i s hi ⟨hs,hg⟩=>?_) (fun s ⟨hs,hg⟩=>?_) ⟨rfl,(GR.nil (N:=0)).to (by omega) (by grind)⟩
 ·left
  obtain⟨L1,s2⟩:=s;dsimp only at hs hg;subst hs;have g2:k+1+i<x.zA.length:=by omega
  obtain⟨L2,e2,hg2⟩:=yDt h hE hT hM hZ hk hc (j:=k+1+i) (by omega) g2 (L0:=L1) hg (by omega) (f:=fun v12=>(rng (((k+1+i:Nat):Int)+1)).bind fun v13=>
   (zI (zSg ⟨x,m0,T⟩ (k:Int) (L1,((k+1+i:Nat):Int))) (v12,v13)).bind fun r25=>
   (rng (((k+1+i:Nat):Int)+1)).bind fun v26=>iF (.inl (r25,v26)))
  obtain⟨L3,e3,hg3⟩:=yDu h hE hT hM hZ hk hc (j:=k+1+i) (by omega) g2 (L0:=L1) hg2 (by omega);refine⟨(L3,((k+1+i+1:Nat):Int)),?_,rfl,hg3.to (by omega) ?_⟩
  ·unfold zWd
   dsimp only
   rw[iL (by omega),zM,e2,zE (by omega) (by omega),bs,cs,e3,bs,bs]
  grind
 ·obtain⟨L1,s2⟩:=s
  dsimp only at hs hg;subst hs;refine⟨L1,?_,hg.to (by omega) ?_⟩
  all_goals grind[zWd]
theorem zUq(h1:k+1≤j)(h2:j<x.zA.length):∃r,zNE ⟨x,m0,T⟩=iF r∧ixO r.x (j:Int)=iF 0∧r.x.set j 1=(prE x (k+1) (xP (x.zA.length-(k+1)) (j-(k+1))++zeros D)).x∧r.v=(prE x (k+1) (xP (x.zA.length-(k+1)) (j-(k+1))++zeros D)).v:=by
 have _:=hM;have _:=hZ;have _:=hc;have hn:=hE.hn;have fC:(xP (x.zA.length-(k+1)) (j-(k+1))).length=x.zA.length-(k+1):=by rw[zAp,zY]
 refine⟨_,zLd h hE hT (k:=k+1) (by omega) (by omega),?_,?_,?_⟩
 ·rw[zBu h hE hT (by omega),jE (yC _)]
  dsimp only
  simp only[fv,zeros,Je];rw[vP,Kb,if_pos (by omega)]
 ·rw[zBu h hE hT (by omega),jE (yC _),jE fC]
  dsimp only
  have e1:fv (k+1) (zeros (x.zA.length-(k+1)))=zeros j++0::zeros (x.zA.length-(k+1)-(j-(k+1)+1)):=by
   simp only[fv,zeros];rw[←Jq,Je,Je]
   grind
  rw[e1,zDX,fv,zBc (by omega),←Jj]
  grind[zeros,Je]
 grind[zBu,jE,yC]
theorem yDw{L:Mx}(hL:GR m.Prime D Z L N C)(hN:N≤1000):∃L',zI (zSh ⟨x,m0,T⟩ (k:Int) (prE x (k+1) (((exx D x m T).zV.getD k []).drop (k+1)))) (L,((k+1:Nat):Int))=iF L'∧GR m.Prime D Z L' (N+(x.zA.length-(k+1))) (C∧ ∀j,k+1≤j→j<x.zA.length→c4Q Q (exx D x m T) k j):=by
 have hn:=hE.hn;have hpk:=(h.os.2 k hk).pos;have h7:=hE.m.p.pos;have ok:=uK h hE hT (k:=k+1) (by omega);have hA:=zIC h hE hT hM (k:=k+1) (by omega);have hI:=zBg h hE hT hM hk;obtain⟨p1,p2⟩:=zLc (m0:=m0) h hE hT (k:=k) (j:=k) (Jh k) hk;change V (suf (exx D x m T) (k+1)) (lvl (exx D x m T) k).w at p2;change∃L',zI (zSh ⟨x,m0,T⟩ (k:Int) (prE x (k+1) (lvl (exx D x m T) k).w)) (L,((k+1:Nat):Int))=iF L'∧_;have dB:(lvl (exx D x m T) k).w.take (x.zA.length-(k+1))=(lvl x k).w:=zID h hE hT hk (Jh k) hk;have ho:(lvl (exx D x m T) k).o=at0 x.zA k:=zBK h hE hT hk;refine uS (fun i(s:Mx×Int)=>s.2=((k+1+i:Nat):Int)∧GR m.Prime D Z s.1 (N+i) (C∧ ∀j,k+1≤j→j<k+1+i→c4Q Q (exx D x m T) k j)) (x.zA.length-(k+1)) (fun i s hi ⟨hs,hg⟩=>?_) (fun s ⟨hs,hg⟩=>?_) ⟨rfl,hL.to (by omega) (by grind)⟩
 ·left
  obtain⟨L1,s2⟩:=s;dsimp only at hs hg;subst hs;have g2:k+1+i<x.zA.length:=by omega
  obtain⟨r33,z1,z2,z3,z4⟩:=zUq h hE hT hM hZ hk hc (j:=k+1+i) (by omega) g2;have hue:=zUp h hE hT hk (j:=k+1+i) (by omega) g2;have hux:V (suf x (k+1)) (xP (x.zA.length-(k+1)) (k+1+i-(k+1))):=by
   have:=zCT (h.okAt (k:=k+1) (by omega)) (j:=k+1+i-(k+1)) (by grind[yS])
   grind[yS]
  have fC:=vJ h (by omega) hux;have bJ:V (suf (exx D x m T) (k+1)) (xP (x.zA.length-(k+1)) (k+1+i-(k+1))++zeros D):=(sQ h hE hT (x.zA.length-(k+1)) (k+1) (by omega) _).2 ⟨_,_,rfl,hux,xQ (by omega)⟩;have eh:V (suf (exx D x m T) (k+1)) (iter (at0 x.zA k).toNat (sig (suf (exx D x m T) (k+1)) (lvl (exx D x m T) k)) (xP (x.zA.length-(k+1)) (k+1+i-(k+1))++zeros D)):=vW (by grind[zGr]) _ bJ;have i5:zI (zWe ⟨x,m0,T⟩ (k:Int)) ((prE x (k+1) (xP (x.zA.length-(k+1)) (k+1+i-(k+1))++zeros D)).x,(prE x (k+1) (xP (x.zA.length-(k+1)) (k+1+i-(k+1))++zeros D)).v,0)=iF ((prE x (k+1) (iter (at0 x.zA k).toNat (sig (suf (exx D x m T) (k+1)) (lvl (exx D x m T) k)) (xP (x.zA.length-(k+1)) (k+1+i-(k+1))++zeros D))).x,(prE x (k+1) (iter (at0 x.zA k).toNat (sig (suf (exx D x m T) (k+1)) (lvl (exx D x m T) k)) (xP (x.zA.length-(k+1)) (k+1+i-(k+1))++zeros D))).v):=
   zCt (S:=V (suf (exx D x m T) (k+1))) (fun w=>(prE x (k+1) w).x) (fun w=>(prE x (k+1) w).v) (sig (suf (exx D x m T) (k+1)) (lvl (exx D x m T) k)) (at0 x.zA k) (by omega) (fun w hw=>zGr h hE hT hk hw) (fun w q hw hq=>by
    unfold zWe;dsimp only
    rw[yQ hk,bs,iL hq,zM,show(zJ.mk (prE x (k+1) w).x (prE x (k+1) w).v)=prE x (k+1) w from rfl,hI w hw,bs,zE (by omega) (by omega),bs,cs]) (by grind[zWe,yQ]) bJ
  obtain⟨r,r1,r2,r3⟩:=zLf h hE hT hM hZ (k:=k+1) (by omega) (xJ ok p2 eh) (xJ ok bJ p2) (by rw[zCu h hE hT (by omega) p2 eh,zCu h hE hT (by omega) bJ p2,zLe h hE hT hk _ bJ,dB,Jo fC];exact hc.c4 (k+1+i) (by omega) g2)
  have da:=hg.len;refine⟨(L1++[r],((k+1+i+1:Nat):Int)),?_,rfl,(hg.app (GR.one r2 r3)).to (by omega) ?_⟩
  ·unfold zSh
   dsimp only
   rw[iL (by omega),zM,z1,bs,z2,bs,J6,z3,z4,i5,bs,zE (by omega) (by omega),bs,cs];dsimp only
   have e1:=hA _ _ p2 eh;have e2:=hA _ _ bJ p2;rw[show∀w,(zJ.mk (prE x (k+1) w).x (prE x (k+1) w).v)=prE x (k+1) w from fun _=>rfl,show∀w,(zJ.mk (prE x (k+1) w).x (prE x (k+1) w).v)=prE x (k+1) w from fun _=>rfl,e1,bs,bs,e2,bs,r1,bs,yI (by simp;omega),bs,zE (by omega) (by omega),bs,cs]
  ·have e4:c4Q Q (exx D x m T) k (k+1+i)↔Q (k+1) (mul (suf (exx D x m T) (k+1)) (lvl (exx D x m T) k).w (iter (at0 x.zA k).toNat (sig (suf (exx D x m T) (k+1)) (lvl (exx D x m T) k)) (xP (x.zA.length-(k+1)) (k+1+i-(k+1))++zeros D))) (mul (suf (exx D x m T) (k+1)) (xP (x.zA.length-(k+1)) (k+1+i-(k+1))++zeros D) (lvl (exx D x m T) k).w):=by
    grind[c4Q]
   rw[←e4];constructor
   all_goals grind
 ·obtain⟨L1,s2⟩:=s
  dsimp only at hs hg;subst hs;refine⟨L1,?_,hg.to (Jh _) ?_⟩
  all_goals grind[zSh]
theorem yAk:∃L,f_k ⟨x,m0,T⟩ (k:Int)=iF L∧GR m.Prime D Z L 120 (LCQ Q x (exx D x m T) k):=by
 have hn:=hE.hn;have hI:=zBg h hE hT hM hk;obtain⟨p1,p2⟩:=zLc h hE hT (k:=k) (j:=k) (Jh k) hk;obtain⟨L1,e1,g1⟩:=yDv h hE hT hM hZ hk hc;have hs:=zGr h hE hT hk p2;obtain⟨r,r1,r2,r3⟩:=zLf h hE hT hM hZ (k:=k+1) (by omega) hs p2 (by rw[zE9 h hE hT hk p2,zID h hE hT hk (Jh k) hk];exact hc.c3)
 obtain⟨L2,e2,g2⟩:=yDw h hE hT hM hZ hk hc (g1.app (GR.one r2 r3)) (by omega);have da:=g1.len;refine⟨L2,?_,g2.to (by omega) ?_⟩
 ·unfold f_k
  rw[zE (by omega) (by omega),bs,cs,e1,bs,p1,bs,hI _ p2,bs,r1,bs,yI (by simp;omega),bs,bs,e2,bs]
 ·constructor
  ·rintro⟨⟨a1,a2⟩,a3⟩
   exact⟨by grind,by grind,a2,a3⟩
  ·intro a
   exact⟨⟨fun j b1 b2=>⟨a.c1 j b1 b2,fun j2 b3 b4=>a.c2 j b1 b2 j2 b3 b4⟩,a.c3⟩,a.c4⟩
end
theorem zUr(hx:wN (suf x 0)):∃L,f_P ⟨x,m0,T⟩=iF L∧GR m.Prime D Z L 1000 (∀k,k<x.zA.length→LCQ Q x (exx D x m T) k):=by
 have hn:=hE.hn;have h3:=hE.m.d3;have ba:∀k,k<x.zA.length→LC x k:=fun k hk=>((zAk h.w hk).1 (zAC hx k)).2
 obtain⟨L,e,g⟩:=uS (body:=zSi ⟨x,m0,T⟩) (Q:=fun L=>GR m.Prime D Z L 1000 (∀k,k<x.zA.length→LCQ Q x (exx D x m T) k)) (fun i(s:Mx×Int)=>s.2=(i:Int)∧GR m.Prime D Z s.1 (120*i) (∀k,k<i→LCQ Q x (exx D x m T) k)) x.zA.length (fun i s hi ⟨hs,hg⟩=>by
  left;obtain⟨L1,s2⟩:=s;dsimp only at hs hg;subst hs;obtain⟨L2,e2,g2⟩:=yAk h hE hT hM hZ hi (ba i hi);have l1:=hg.len;have l2:=g2.len;refine⟨(L1++L2,((i+1:Nat):Int)),?_,rfl,(hg.app g2).to (by omega) ?_⟩
  ·unfold zSi
   dsimp only
   rw[yT hi,zM,e2,bs,yI (by omega),bs,zE (by omega) (by omega),bs,cs]
  grind) (fun s ⟨hs,hg⟩=>by
  obtain⟨L1,s2⟩:=s;dsimp only at hs hg;subst hs;refine⟨L1,?_,hg.to (by omega) Iff.rfl⟩
  simp_all[zSi]) (s:=([],0)) ⟨rfl,(GR.nil (N:=0)).to (by omega) (by simp)⟩
 grind[f_P]
end
section
variable {D:Nat}{x:SPr}{m0 m:zB}{T:Mx} (h:Pres x) (hE:ExB x.zA.length D x m T) (hT:∀i,i<T.length→Row m.Prime D (T.getD i [])) (hM:Mv D x.zA.length m0 m)
 include h hE hT hM
theorem zXq(hx:wN (suf x 0))(hr:zC6 x m D):IsB (zWf x m0 T) (wN (suf (exx D x m T) 0)):=by
 have hn:=hE.hn;have h3:=hE.m.d3;have hp:=hE.m.p.pos;obtain⟨L,e,g⟩:=zUr h hE hT hM (Z:=fun r=>r=zeros D) (Q:=fun _ a b=>a=b) (fun k hk a b ha hb e=>by
  obtain⟨y,u,rfl,hy,hu,_,e7⟩:=prV h hE hT hk ha;obtain⟨z,v,rfl,hz,hv,_,mh⟩:=prV h hE hT hk hb;rw[Jo e7,Jo mh]at e;subst e;rw[Jz e7,Jz e7,List.append_cancel_left_eq,←zR2 (p:=m.Prime) hu hv]
  grind[uV,vH,zFi,zeros,uH,yB]) hx
 have da:=g.len;unfold zWf;rw[e,bs];refine(sZ (body:=zNG L) L.length (fun i=> ∀j,j<(L.getD i []).length→at0 (L.getD i []) j=0) rfl (fun i hi _=>?_) ?_).iff ?_
 ·have eI:=g.row (L.getD i []) (by grind)
  unfold zNG;rw[yT hi,zM,yO [] hi,bs];rcases zR3 (v:=L.getD i []) (by rw[eI.1];omega)with⟨z1,z2⟩|⟨z1,z2⟩
  ·left
   rw[z1,bs,Ji,zQ,zE (by omega) (by omega),bs,cs]
   grind
  grind
 ·simp_all[zNG]
 ·rw[zLb h hE hT hr,show(∀k,k<x.zA.length→LCn x (exx D x m T) k)↔(∀k,k<x.zA.length→LCQ (fun _ a b=>a=b) x (exx D x m T) k)from⟨fun a k hk=>⟨(a k hk).c1,(a k hk).c2,(a k hk).c3,(a k hk).c4⟩,fun a k hk=>⟨(a k hk).c1,(a k hk).c2,(a k hk).c3,(a k hk).c4⟩⟩,←g.iff]
  constructor
  ·intro a r hr
   obtain⟨i,hi,rfl⟩:=K4.1 hr;have a:=a i hi;rw[J3,J5 hi]at a;have eI:=g.row _ hr;rw[vH eI.1,show zeros D=mkv D fun _=>0 from uH D]
   grind
  grind[Jy,uV]
end
theorem zDL{x:SPr}(h:Pres x):∃s:Nat,f_V x=iF (s:Int)∧(s=0↔wN (suf x 0)):=by
 have h6:=h.os.1;unfold f_V;obtain⟨r,r1,r2⟩:=uS (body:=zNw x) (Q:=fun r=> ∃s:Nat,r=(s:Int)∧wN (suf x s)∧(s=0∨ ¬wN (suf x (s-1)))) (fun i s=>i≤x.zA.length∧s=((x.zA.length-i:Nat):Int)∧wN (suf x (x.zA.length-i))) x.zA.length (fun i s hi ⟨_,hs,gM⟩=>by
   subst hs;have hk:x.zA.length-i-1<x.zA.length:=by omega
   have e9:x.zA.length-(i+1)=x.zA.length-i-1:=by omega
   rw[e9];have e8:i+1≤x.zA.length:=by omega
   rw[show x.zA.length-i=x.zA.length-i-1+1 from by omega]at gM ⊢
   have pF:=zIn h hk gM;have pH:=zAk h.w hk
   generalize x.zA.length-i-1=k at*
   unfold zNw;rw[iL (by omega),zM,zE (by omega) (by omega),bs,show(((k+1:Nat):Int)-1)=(k:Int)from by omega];rcases pF with⟨g1,g2⟩|⟨r,g1,g2,g3⟩
   ·simp_all
   grind) (fun s ⟨_,hs,gM⟩=>by
   rw[Ke]at hs gM;subst hs;unfold zNw
   grind) (s:=(x.zA.length:Int)) ⟨by omega,by rfl,by rw[Jav,vX (by omega)];simp only[wN]⟩
 obtain⟨s,rfl,gM,hs⟩:=r2;rw[r1,bs];refine⟨s,rfl,by grind,fun g=>?_⟩
 grind[zAC]
section
variable {x:SPr}{m:zB}{T:Mx}{D:Nat} (hx:zAi x) (hm:MOk x.zA.length m D) (hT:T.length≤1048576)
 include hx hm hT
def zCv(x:SPr)(m:zB)(D:Nat)(T:Mx):Prop:=T.length=base x.zA.length x.zA.length∧yCt m D T
theorem zMX:IsB (zXW x m T) (zCv x m D T):=by
 have h6:=hx.n6;unfold zXW;rw[zE5 rfl h6,bs]
 by_cases g:T.length=base x.zA.length x.zA.length
 ·rw[show((T.length:Int)==((base x.zA.length x.zA.length:Nat):Int))=iH from by simp[g],zM]
  exact(IsB.b (zKZ hm (by omega) hT)).iff ⟨fun q=>⟨g,q⟩,fun q=>q.2⟩
 ·rw[show((T.length:Int)==((base x.zA.length x.zA.length:Nat):Int))=iI from by simp;omega,zQ]
  exact .inr ⟨rfl,fun q=>g q.1⟩
theorem zMY:IsB (zXY x m T) (zCv x m D T):=by
 have h6:=hx.n6;have h3:=hm.d3;unfold zXY;rw[zIy rfl h6,bs]
 by_cases g:T.length=base x.zA.length x.zA.length
 ·rw[show((T.length:Int)==((base x.zA.length x.zA.length:Nat):Int))=iH from by simp[g],zM]
  exact(IsB.b (zR4 hm.p hm.d (by omega) hT)).iff ⟨fun q=>⟨g,q⟩,fun q=>q.2⟩
 ·rw[show((T.length:Int)==((base x.zA.length x.zA.length:Nat):Int))=iI from by simp;omega,zQ]
  exact .inr ⟨rfl,fun q=>g q.1⟩
 omit hT in
theorem yCu(ht:zCv x m D T):zKW x.zA.length D x m T:=by
  have h3:=hm.d3;exact zKW.of hx hm ht.1 (zOF fun i hi=>by have:=(ht.2 i hi).1;omega)
 omit hT in
theorem zQ6(ht:zCv x m D T):IsB (zXZ x m T) (wN (suf (exx D x m T) 0)):=by
  have hE:=yCu hx hm ht;unfold zXZ;rw[zTT hE,bs];obtain⟨s,s1,s2⟩:=zDL ((zFv hx.toPres (hE.b hm) ht.2).p (by rw[wG hx.toPres (hE.b hm) ht.2];have:=hm.d3;have:=hE.hn;omega))
  grind[IsB.of_bool]
end
theorem zIE{x:SPr}(h:Pres x)(_:x.zA.length≤6):(wD x).length=base x.zA.length x.zA.length:=by grind[zRE,base]
abbrev tT(x:SPr)(m:zB)(D:Nat):Mx:=zFu (x.zA.length*D) (fun k=>dfc m D (uv x.zA.length D k)) (wD x)
section
variable {x:SPr}{m:zB}{D:Nat} (hx:zAi x) (hD:MOk x.zA.length m D)
 include hx hD
theorem zON:∃R pv,zNN x m=iF R∧zWo x m=iF (tT x m D)∧f_i m.Prime (tT x m D)=iF R∧Red m.Prime (base x.zA.length x.zA.length*D) R pv∧R.length≤63∧base x.zA.length x.zA.length*D≤63:=by have h6:=hx.n6;have h3:=hD.d3;have hb:=wT x.zA.length (by omega);have hl:=zIE hx.toPres h6;have cJ:x.zA.length*D≤6*3:=Jm h6 h3;have bO:base x.zA.length x.zA.length*D≤21*3:=Jm hb.2.1 h3;have cU:(tT x m D).length=x.zA.length*D:=wU;obtain⟨R,pv,r1,r2,r3,_⟩:=jP hD.p (n:=(wD x).length*D) (by grind) (rows:=tT x m D) (by omega) (by rw[cU];exact zKf (zUc hx.toPres hD) (wD x));rw[hl]at r3;have hR:=r3.len_le;refine⟨R,pv,?_,zGP hx.toPres hD,r2,r3,by omega,bO⟩;unfold zNN;rw[zGI hx.toPres hD,bs,r1,bs]
theorem zOO{T:Mx}(ht:zCv x m D T):Row m.Prime (base x.zA.length x.zA.length*D) T.flatten∧zWh T=iF T.flatten∧f_q T=iF T.flatten:=by
 have h6:=hx.n6;have h3:=hD.d3;have hb:=wT x.zA.length (by omega);have bO:base x.zA.length x.zA.length*D≤21*3:=Jm hb.2.1 h3;have h:=zTR (p:=m.Prime) (D:=D) (xs:=T) fun r hr=>by
  obtain⟨i,hi,rfl⟩:=K4.1 hr;have:=ht.2 i hi
  grind
 rw[ht.1]at h;have hl:=ht.1;exact⟨h,zKd (by omega) (by rw[h.1];omega),qF (by omega) (by rw[h.1];omega)⟩
end
section
variable {x:SPr}{m:zB}{D:Nat} (hx:zAi x) (hD:MOk x.zA.length m D)
 include hx hD
theorem zMZ:∃R pv,zNN x m=iF R∧Red m.Prime (base x.zA.length x.zA.length*D) R pv∧(∀v,Sp m.Prime (base x.zA.length x.zA.length*D) R v↔Sp m.Prime (base x.zA.length x.zA.length*D) (tT x m D) v)∧R.length≤63:=by have h6:=hx.n6;have h3:=hD.d3;have hb:=wT x.zA.length (by omega);have hl:=zIE hx.toPres h6;have cJ:x.zA.length*D≤6*3:=Jm h6 h3;have bO:base x.zA.length x.zA.length*D≤21*3:=Jm hb.2.1 h3;have cU:(tT x m D).length=x.zA.length*D:=wU;obtain⟨R,pv,r1,r2,r3,r4⟩:=jP hD.p (n:=(wD x).length*D) (by grind) (rows:=tT x m D) (by omega) (by rw[cU];exact zKf (zUc hx.toPres hD) (wD x));rw[hl]at r3 r4;have hR:=r3.len_le;refine⟨R,pv,?_,r3,fun v=>r4.iff,by omega⟩;unfold zNN;rw[zGI hx.toPres hD,bs,r1,bs]
end
abbrev zEA:=Nat×List Nat×List Nat
section
variable (x:SPr)
abbrev yL(a:Nat):Nat:=(at0 x.zA a).toNat
abbrev lcj(i j:Nat):List Int:=(x.zG.getD i []).getD (j-(i+1)) []
def swp:List Nat→Option zEA
 |a::b::s=>if b<a then iF (base x.zA.length b+(a-(b+1)),s,b::(nw 0 (lcj x b a)++s))else iG
 |_=>iG
def pws:List Nat→Option zEA
 |a::w=>if(a::w).take (yL x a)=J1 (yL x a) a then iF (a,(a::w).drop (yL x a),nw 0 (x.zV.getD a [])++(a::w).drop (yL x a))else iG
 | []=>iG
def hdS(w:List Nat):Option zEA:=match swp x w with
 |some r=>iF r
 |none=>pws x w
def stS:List Nat→Option zEA
 | []=>iG
 |a::w=>match hdS x (a::w)with
  |some r=>iF r
  |none=>(stS w).map fun r=>(r.1,r.2.1,a::r.2.2)
end
section
variable {x:SPr}
theorem zXr{w:List Nat}{r:zEA}(h:swp x w=iF r):swp x (w++s)=iF (r.1,r.2.1++s,r.2.2++s):=by
 match w,h with
 | [],h=>cases h
 | [_],h=>cases h
 |a::b::w,h=>
  simp only[swp]at h
  by_cases g:b<a
  ·rw[if_pos g]at h
   cases h;simp only[K5,swp,if_pos g,Jj]
  grind
theorem zBL{w:List Nat}{o:Nat}(h:w.take o=J1 o a):o≤w.length:=by
 have:=congrArg Jb2 h
 grind
theorem zXs{w:List Nat}{r:zEA}(h:pws x w=iF r):pws x (w++s)=iF (r.1,r.2.1++s,r.2.2++s):=by
 match w,h with
 | [],h=>cases h
 |a::w,h=>
  simp only[pws]at h
  by_cases g:(a::w).take (yL x a)=J1 (yL x a) a
  ·rw[if_pos g]at h
   cases h;have hl:=zBL g;have e1:(a::(w++s)).take (yL x a)=(a::w).take (yL x a):=by grind
   have e2:(a::(w++s)).drop (yL x a)=(a::w).drop (yL x a)++s:=by grind
   simp only[K5,pws]
   grind
  grind
theorem zF0{b:Nat}{s2:List Nat}(h:swp x (a::b::s)=iG):swp x (a::b::s2)=iG:=by
 simp only[swp]at h ⊢
 grind
theorem zQ7{w:List Nat}(h:hdS x w=iG):swp x w=iG∧pws x w=iG:=by
 unfold hdS at h
 grind
theorem zUs{w:List Nat}(h1:swp x w=iG)(h2:pws x w=iG):hdS x w=iG:=by grind[hdS]
theorem yAl{w:List Nat}(hw:∀a∈w,2≤yL x a){r:zEA}(h:hdS x w=iF r):hdS x (w++s)=iF (r.1,r.2.1++s,r.2.2++s):=by
 unfold hdS at h ⊢
 cases e:swp x w with
 |some q=>
  grind[zXr]
 |none=>
  rw[e]at h;have e2:swp x (w++s)=iG:=by
   match w,h with
   | [],h=>cases h
   | [a],h=>
    have h2:=hw a (by simp);simp only[pws]at h
    by_cases g:[a].take (yL x a)=J1 (yL x a) a
    ·have h4:=zBL g;grind
    grind
   |a::b::w,h=>exact zF0 e
  grind[zXs]
theorem zEB{k a:Nat}(hk:k<yL x a):∀j,j≤k→ ∀{w:List Nat},(∀b,w.head? =iF b→a<b)→stS x (J1 j a++w)=(stS x w).map fun r=>(r.1,r.2.1,J1 j a++r.2.2)
 |0,_,w,_=>by simp
 |j+1,hj,w,hw=>by
  have ih:=zEB hk j (by omega) hw;rw[Jq,K5];have h1:swp x (a::(J1 j a++w))=iG:=by
   cases j with
   |succ j=>simp only[Jq,K5,swp,if_neg (Jcy a)]
   |zero=>
    simp only[Lv,K0];cases w with
    |nil=>rfl
    |cons b w=>
     have:=hw b rfl;simp only[swp,if_neg (show¬b<a by omega)]
  have h2:pws x (a::(J1 j a++w))=iG:=by
   simp only[pws];refine if_neg fun g=>?_
   have hl:=zBL g;have:=congrArg (fun l=>l[j+1]?) g;rw[Ja9 (by omega),←K5,←Jq,Jk (by simp),Jc,Ke,Q0 (by omega)]at this
   grind[List.head?_eq_getElem?]
  simp only[stS];rw[zUs h1 h2,ih];cases stS x w with
  |none=>rfl
  |some r=>rfl
theorem yAm(hk:k<yL x a):stS x (J1 k a)=iG:=by
 have:=zEB hk k (Jh _) (w:=[]) (by simp)
 grind[stS]
theorem zLg:∀{u s:List Nat},(∀a∈u,2≤yL x a)→ ∀{r:zEA},stS x u=iF r→stS x (u++s)=iF (r.1,r.2.1++s,r.2.2++s)
 | [],_,_,_,h=>by cases h
 |a::w,s,hu,r,h=>by
  simp only[stS]at h;rw[K5];simp only[stS];cases e:hdS x (a::w)with
  |some q=>
   grind[yAl]
  |none=>
   rw[e]at h;cases e2:stS x w with
   |none=>grind
   |some q=>
    rw[e2]at h;cases h;obtain⟨n1,n2⟩:=zQ7 e;have m1:swp x (a::(w++s))=iG:=by
     cases w with
     |nil=>cases e2
     |cons b w=>exact zF0 n1
    have m2:pws x (a::(w++s))=iG:=by
     simp only[pws]at n2 ⊢
     refine if_neg fun g=>?_
     by_cases hl:yL x a≤(a::w).length
     ·grind
     ·have:a::w=J1 (a::w).length a:=by
       have g':=congrArg (Jb0 (a::w).length) g
       grind
      grind[yAm]
    rw[zUs m1 m2,zLg (s:=s) (by grind) e2];rfl
theorem zGJ{u:List Nat}(hu:∀a∈u,2≤yL x a)(h:stS x (u++s)=iG):stS x u=iG:=by
 cases e:stS x u with
 |none=>rfl
 |some r=>grind[zLg]
theorem zUt:∀{u:List Nat}{l i:Nat}{z:List Nat},(∀a∈u,i<a)→i<l→stS x (u++[l])=iG→stS x (u++l::i::z)=iF (base x.zA.length i+(l-(i+1)),z,u++i::(nw 0 (lcj x i l)++z))
 | [],l,i,z,_,hl,_=>by simp only[K0,stS,hdS,swp,if_pos hl]
 |a::u,l,i,z,hu,hl,hn=>by
  rw[K5]at hn ⊢
  simp only[stS]at hn ⊢
  cases e:hdS x (a::(u++[l]))with
  |some q=>grind
  |none=>
   rw[e]at hn;have b8:stS x (u++[l])=iG:=by simp_all
   obtain⟨n1,n2⟩:=zQ7 e;have m1:swp x (a::(u++l::i::z))=iG:=by
    cases u with
    |nil=>exact zF0 n1
    |cons b u=>exact zF0 n1
   have m2:pws x (a::(u++l::i::z))=iG:=by
    simp only[pws]at n2 ⊢
    refine if_neg fun g=>?_
    have ea:a::(u++l::i::z)=(a::(u++[l]))++i::z:=by simp
    by_cases ho:yL x a≤(a::(u++[l])).length
    ·grind
    ·have g':=congrArg (fun w=>w[(a::(u++[l])).length]?) g
     rw[Ja9 (by omega),ea,Jk (Jh _),Ke,Q0 (by omega)]at g';have:i=a:=by grind
     simp_all
   rw[zUs m1 m2,zUt (by grind) hl b8];rfl
theorem zYK(ha:2≤yL x a)(w:List Nat):stS x (J1 (yL x a) a++w)=iF (a,w,nw 0 (x.zV.getD a [])++w):=by
 obtain⟨k,hk⟩:∃k,yL x a=k+2:=⟨yL x a-2,by omega⟩;have e:J1 (yL x a) a++w=a::a::(J1 k a++w):=by grind
 have h1:swp x (J1 (yL x a) a++w)=iG:=by rw[e];simp only[swp,if_neg (Jcy a)]
 have h2:pws x (J1 (yL x a) a++w)=iF (a,w,nw 0 (x.zV.getD a [])++w):=by
  have et:(J1 (yL x a) a++w).take (yL x a)=J1 (yL x a) a:=by simp
  have ed:(J1 (yL x a) a++w).drop (yL x a)=w:=by simp
  rw[e]at et ed ⊢
  simp only[pws]
  grind
 have h3:hdS x (J1 (yL x a) a++w)=iF (a,w,nw 0 (x.zV.getD a [])++w):=by grind[hdS]
 grind[stS]
end
theorem zDA{p:Int}{w:List Int}:adv p D (adv p D u v) w=adv p D u (adv p D v w):=by
 refine yB fun j hj=>?_
 grind[yA,Jb4]
theorem zF1{p:Int}:xY p D (adv p D u v) A=adv p D (xY p D u A) (xY p D v A):=by
 refine yB fun j hj=>?_
 rw[xY,xY,yA hj,yA hj,←K9,←zDf];refine zAl fun l hl=>?_
 rw[yA hl,←Int.add_mul,Ju,K1,←Ju]
theorem zNa{α:Type}(m:α→α→α)(z:α):∀(cs:List α)(j n:Nat)(acc:α),j<cs.length→j<n→img m cs (xP n j) acc=m acc (cs.getD j z)
 | [],_,_,_,h,_=>by simp at h
 |c::cs,0,n+1,acc,_,_=>by grind[zD0,img,iter,qK]
 |c::cs,j+1,n+1,acc,h,h2=>by rw[zFZ];show img m cs (xP n j) (iter (0:Int).toNat (fun v=>m v c) acc)=_;rw[show iter (0:Int).toNat (fun v=>m v c) acc=acc from rfl,zNa m z cs j n acc (by grind) (by omega),List.getD_cons_succ]
 |_::_,0,0,_,_,h=>by omega
 |_::_,_+1,0,_,_,h=>by omega
theorem zGs(n d:Nat):zeros (n+d)=zeros n++zeros d:=by grind[zeros,Je]
theorem zUu{d:Nat}(hj:j<n):xP (n+d) j=xP n j++zeros d:=by grind[xP,zGs,yC]
def fo(e:SPr)(k:Nat)(u:Vec)(w:List Nat):Vec:=w.foldl (fun u a=>mul (suf e k) u (xP (e.zA.length-k) (a-k))) u
theorem zDl{e:SPr}{u:Vec}{v w:List Nat}:fo e k u (v++w)=fo e k (fo e k u v) w:=by simp[fo,Gl]
theorem sS{e:SPr}{u:Vec}{w:List Nat}:fo e k u (a::w)=fo e k (mul (suf e k) u (xP (e.zA.length-k) (a-k))) w:=rfl
theorem yAn{e:SPr}(ha:k<a)(hn:a<e.zA.length){b:Int}(hb:b<at0 e.zA k):mul (suf e k) (b::y) (xP (e.zA.length-k) (a-k))=b::mul (suf e (k+1)) y (xP (e.zA.length-(k+1)) (a-(k+1))):=by obtain⟨t,ht⟩:∃t,a-k=t+1:=⟨a-(k+1),by omega⟩;obtain⟨s,hs⟩:∃s,e.zA.length-k=s+1:=⟨e.zA.length-(k+1),by omega⟩;rw[yG (x:=e) (by omega),ht,hs,zFZ,xD,if_neg (by show¬(b+0≥at0 e.zA k);omega),show a-(k+1)=t from by omega,show e.zA.length-(k+1)=s from by omega,Lt];rfl
theorem yAo{e:SPr}(hn:k<e.zA.length){b:Int}:mul (suf e k) (b::y) (xP (e.zA.length-k) (k-k))=if b+1≥at0 e.zA k then(b+1-at0 e.zA k)::mul (suf e (k+1)) (lvl e k).w (mul (suf e (k+1)) (sig (suf e (k+1)) (lvl e k) y) (zeros (e.zA.length-(k+1))))else(b+1)::mul (suf e (k+1)) (sig (suf e (k+1)) (lvl e k) y) (zeros (e.zA.length-(k+1))):=by obtain⟨s,hs⟩:∃s,e.zA.length-k=s+1:=⟨e.zA.length-(k+1),by omega⟩;rw[yG (x:=e) hn,hs,Ke,zD0,xD,show e.zA.length-(k+1)=s from by omega];rfl
section
variable {D:Nat}{x:SPr}{m:zB}{T:Mx} (h:Pres x) (hE:ExB x.zA.length D x m T) (hT:∀i,i<T.length→Row m.Prime D (T.getD i []))
 include h hE hT
theorem yAp(hk:k≤x.zA.length)(he:V (suf (exx D x m T) k) e):mul (suf (exx D x m T) k) e (zeros ((exx D x m T).zA.length-k))=e:=by have hp:=hE.m.p.pos;obtain⟨y,u,rfl,hy,hu⟩:=(sQ h hE hT (x.zA.length-k) k (by omega) _).1 he;have:=zFy h hE hT (x.zA.length-k) k (by omega) y u (zeros D) hy hu (xQ (by omega));rw[zAO hu]at this;rw[wG h hE hT,show x.zA.length+D-k=(x.zA.length-k)+D from by omega,zGs];exact this
def adK(p:Int)(D N:Nat)(e d:Vec):Vec:=e.take N++adv p D (e.drop N) d
theorem zLh(hk:k≤x.zA.length)(he:V (suf (exx D x m T) k) e)(hd:Row m.Prime D d):adK m.Prime D (x.zA.length-k) e d=mul (suf (exx D x m T) k) e (zeros (x.zA.length-k)++d):=by
 obtain⟨y,u,rfl,hy,hu⟩:=(sQ h hE hT (x.zA.length-k) k (by omega) _).1 he
 grind[vJ,zFy,adK]
theorem yAq(hk:k≤x.zA.length)(he:V (suf (exx D x m T) k) e):V (suf (exx D x m T) k) (adK m.Prime D (x.zA.length-k) e d):=by have hp:=hE.m.p.pos;obtain⟨y,u,rfl,hy,hu⟩:=(sQ h hE hT (x.zA.length-k) k (by omega) _).1 he;have e7:=vJ h (by omega) hy;rw[adK,Jo e7,Jz e7];exact(sQ h hE hT (x.zA.length-k) k (by omega) _).2 ⟨y,_,rfl,hy,qM (by omega)⟩
theorem zYL(hk:k≤x.zA.length){d':Vec}(he:V (suf (exx D x m T) k) e):adK m.Prime D (x.zA.length-k) (adK m.Prime D (x.zA.length-k) e d) d'=adK m.Prime D (x.zA.length-k) e (adv m.Prime D d d'):=by obtain⟨y,u,rfl,hy,hu⟩:=(sQ h hE hT (x.zA.length-k) k (by omega) _).1 he;have e7:=vJ h (by omega) hy;simp only[adK,Jo e7,Jz e7,zDA]
theorem zBh(hk:k<x.zA.length){b:Int}:adK m.Prime D (x.zA.length-k) (b::e) d=b::adK m.Prime D (x.zA.length-(k+1)) e d:=by have _:=h;have _:=hE;have _:=hT;rw[show x.zA.length-k=x.zA.length-(k+1)+1 from by omega];rfl
theorem zD(hk:k≤x.zA.length)(hd:Row m.Prime D d):V (suf (exx D x m T) k) (zeros (x.zA.length-k)++d):=
 (sQ h hE hT (x.zA.length-k) k (by omega) _).2 ⟨_,d,rfl,zv h hE hT hk,hd⟩
theorem zYM(hk:k≤a)(ha:a<x.zA.length):V (suf x k) (xP (x.zA.length-k) (a-k)):=by
 have _:=hE;have _:=hT;have:=zCT (h.okAt (k:=k) (by omega)) (j:=a-k) (by grind[yS])
 grind[yS]
theorem zRI(hk:k≤a)(ha:a<x.zA.length):xP ((exx D x m T).zA.length-k) (a-k)=xP (x.zA.length-k) (a-k)++zeros D:=by rw[wG h hE hT,show x.zA.length+D-k=x.zA.length-k+D from by omega,zUu (by omega)]
theorem zDm(hk:k≤a)(ha:a<x.zA.length):V (suf (exx D x m T) k) (xP ((exx D x m T).zA.length-k) (a-k)):=by have hp:=hE.m.p.pos;rw[zRI h hE hT hk ha];exact(sQ h hE hT (x.zA.length-k) k (by omega) _).2 ⟨_,_,rfl,zYM h hE hT hk ha,xQ (by omega)⟩
theorem zXt(hk:k≤a)(ha:a<x.zA.length):aM m D k (xP (x.zA.length-k) (a-k))=m.zF.getD a []:=by have _:=h;have _:=hT;have hA:=hE.m.mat a ha;have hl:=hE.m.len;unfold aM;rw[zNa (PM m.Prime D) [] _ _ _ _ (by grind) (by omega),J3,Hq,show k+(a-k)=a from by omega,←J3,zCi hA]
variable {k:Nat} (hk:k<x.zA.length) (hc:wN (suf (exx D x m T) (k+1)))
 include hk hc
theorem zYN(h1:k+1≤a)(ha:a<x.zA.length)(he:V (suf (exx D x m T) (k+1)) e)(hd:Row m.Prime D d):
  mul (suf (exx D x m T) (k+1)) (adK m.Prime D (x.zA.length-(k+1)) e d) (xP ((exx D x m T).zA.length-(k+1)) (a-(k+1)))=adK m.Prime D (x.zA.length-(k+1)) (mul (suf (exx D x m T) (k+1)) e (xP ((exx D x m T).zA.length-(k+1)) (a-(k+1)))) (xY m.Prime D d (m.zF.getD a [])):=by
 have hp:=hE.m.p.pos;have gB:=uK h hE hT (k:=k+1) (by omega);have G:=(zCV _ gB hc).toMon;have hg:=zDm h hE hT h1 ha;have hgv:=zYM h hE hT h1 ha;have hz:=zD h hE hT (k:=k+1) (by omega) hd;have eS:=zD h hE hT (k:=k+1) (by omega) (vG (p:=m.Prime) (D:=D) (r:=d) (B:=m.zF.getD a []) (by omega));rw[zLh h hE hT (by omega) he hd,G.assoc he hz hg,zRI h hE hT h1 ha,zQ4 h hE hT _ (k+1) (by omega) _ _ _ hd hgv (xQ (by omega)),zAO (vG (by omega)),zXt h hE hT h1 ha,←zRI h hE hT h1 ha,zLh h hE hT (by omega) (G.cl he hg) (vG (by omega)),G.assoc he hg eS,zRI h hE hT h1 ha,zFy h hE hT _ (k+1) (by omega) _ _ _ hgv (xQ (by omega)) (vG (by omega)),uG (vG (by omega))]
 omit hc in
theorem zIF(he:V (suf (exx D x m T) (k+1)) e)(_hd:Row m.Prime D d):
    sig (suf (exx D x m T) (k+1)) (lvl (exx D x m T) k) (adK m.Prime D (x.zA.length-(k+1)) e d)=adK m.Prime D (x.zA.length-(k+1)) (sig (suf (exx D x m T) (k+1)) (lvl (exx D x m T) k) e) (xY m.Prime D d (m.zF.getD k [])):=by
  have hp:=hE.m.p.pos;obtain⟨y,u,rfl,hy,hu⟩:=(sQ h hE hT (x.zA.length-(k+1)) (k+1) (by omega) _).1 he;have e7:=vJ h (by omega) hy;obtain⟨y1,u1,e,fb,cC⟩:=(sQ h hE hT (x.zA.length-(k+1)) (k+1) (by omega) _).1 (zI7 h hE hT hk (y:=y));have gK:=vJ h (by omega) fb;have e0:adK m.Prime D (x.zA.length-(k+1)) (y++u) d=y++adv m.Prime D u d:=by grind[adK]
  rw[e0,zCr h hE hT hk hy (qM (by omega)),zCr h hE hT hk hy hu,e,Jo gK,Jz gK,adK,Jo gK,Jz gK,zF1,zDA]
theorem zNb{z:Vec}(hz:V (suf (exx D x m T) (k+1)) z)(hd:Row m.Prime D d){w:Vec}(hw:V (suf (exx D x m T) (k+1)) w):
  mul (suf (exx D x m T) (k+1)) w (adK m.Prime D (x.zA.length-(k+1)) z d)=adK m.Prime D (x.zA.length-(k+1)) (mul (suf (exx D x m T) (k+1)) w z) d:=by
 have gB:=uK h hE hT (k:=k+1) (by omega);have G:=(zCV _ gB hc).toMon;rw[zLh h hE hT (by omega) hz hd,zLh h hE hT (by omega) (G.cl hw hz) hd,G.assoc hw hz (by grind[zD])]
 omit hc in
theorem zRJ:V (suf (exx D x m T) (k+1)) (lvl (exx D x m T) k).w:=by
  have gB:=uK h hE hT (k:=k) (by omega);rw[yG (x:=exx D x m T) (by grind[wG])]at gB;exact gB.2.1
 omit hc in
theorem zAQ(he:V (suf (exx D x m T) (k+1)) e):V (suf (exx D x m T) (k+1)) (sig (suf (exx D x m T) (k+1)) (lvl (exx D x m T) k) e):=by
  have gB:=uK h hE hT (k:=k) (by omega);rw[yG (x:=exx D x m T) (by grind[wG])]at gB
  grind[zCU]
theorem zGK{b:Int}(he:V (suf (exx D x m T) (k+1)) e):mul (suf (exx D x m T) k) (b::e) (xP ((exx D x m T).zA.length-k) (k-k))=if b+1≥at0 x.zA k then(b+1-at0 x.zA k)::mul (suf (exx D x m T) (k+1)) (lvl (exx D x m T) k).w (sig (suf (exx D x m T) (k+1)) (lvl (exx D x m T) k) e)else(b+1)::sig (suf (exx D x m T) (k+1)) (lvl (exx D x m T) k) e:=by have _:=hc;rw[yAo (by grind[wG]),yAp h hE hT (by omega) (zAQ h hE hT hk he),tK h hE hT hk]
theorem zNc(h1:k<a)(ha:a<x.zA.length){b:Int}(hb:b<at0 x.zA k):mul (suf (exx D x m T) k) (b::e) (xP ((exx D x m T).zA.length-k) (a-k))=b::mul (suf (exx D x m T) (k+1)) e (xP ((exx D x m T).zA.length-(k+1)) (a-(k+1))):=by have _:=hc;grind[yAn,wG,tK]
theorem yDx(h1:k≤a)(ha:a<x.zA.length){b:Int}(hb:b<at0 x.zA k)(he:V (suf (exx D x m T) (k+1)) e)(hd:Row m.Prime D d):
  mul (suf (exx D x m T) k) (b::adK m.Prime D (x.zA.length-(k+1)) e d) (xP ((exx D x m T).zA.length-k) (a-k))=adK m.Prime D (x.zA.length-k) (mul (suf (exx D x m T) k) (b::e) (xP ((exx D x m T).zA.length-k) (a-k))) (xY m.Prime D d (m.zF.getD a [])):=by
 have hp:=hE.m.p.pos;rcases Jg k a with g|g
 ·rw[zNc h hE hT hk hc g ha hb,zNc h hE hT hk hc g ha hb,zYN h hE hT hk hc g ha he hd,zBh h hE hT hk]
 ·obtain rfl:a=k:=by omega
  rw[zGK h hE hT hk hc (by grind[yAq]),zGK h hE hT hk hc he,zIF h hE hT hk he hd];split
  ·rw[zNb h hE hT hk hc (zAQ h hE hT hk he) (vG (by omega)) (zRJ h hE hT hk),zBh h hE hT hk]
  grind[zBh]
theorem yCv(h1:k≤a)(ha:a<x.zA.length)(he:V (suf (exx D x m T) k) e):V (suf (exx D x m T) k) (mul (suf (exx D x m T) k) e (xP ((exx D x m T).zA.length-k) (a-k))):=by have _:=hc;grind[xJ,uK,zDm]
theorem yDy:∀{w:List Nat},(∀a∈w,k≤a∧a<x.zA.length)→ ∀{e:Vec},V (suf (exx D x m T) k) e→V (suf (exx D x m T) k) (fo (exx D x m T) k e w)
 | [],_,_,he=>he
 |a::w,hw,e,he=>by rw[sS];exact yDy (by grind) (by grind[yCv])
theorem zQ8:∀{w:List Nat},(∀a∈w,k≤a∧a<x.zA.length)→ ∀{e d:Vec},V (suf (exx D x m T) k) e→Row m.Prime D d→fo (exx D x m T) k (adK m.Prime D (x.zA.length-k) e d) w=adK m.Prime D (x.zA.length-k) (fo (exx D x m T) k e w) (xY m.Prime D d (wM m.Prime D m.zF w (idM D)))
 | [],_,e,d,_,hd=>by show adK _ _ _ e d=adK _ _ _ e (xY m.Prime D d (idM D));rw[jZ hd]
 |a::w,hw,e,d,he,hd=>by
  have hp:=hE.m.p.pos;obtain⟨a1,a2⟩:=hw a (by simp);have hA:=hE.m.mat a a2;have ij:=he;rw[yG (x:=exx D x m T) (by grind[wG])]at ij;cases e with
  |nil=>exact ij.elim
  |cons b e=>
   obtain⟨⟨b0,b1⟩,he1⟩:=ij;have b2:b<at0 x.zA k:=by rw[←tK h hE hT hk];exact b1
   rw[sS,sS,zBh h hE hT hk,yDx h hE hT hk hc a1 a2 b2 he1 hd,zQ8 (by grind) (by grind[yCv]) (vG (by omega)),zFx hA.1]
   congr 2
   show PM _ _ _ (wM m.Prime D m.zF w (idM D))=wM m.Prime D m.zF w (PM m.Prime D (idM D) (m.zF.getD a []));rw[←zIu (by omega) hA.1 w (tD (by omega)),zBF hA,zCi hA]
end
inductive Col (x:SPr) (k:Nat):List Nat→List (Nat×List Nat)→List Nat→Prop where
 |refl (w:List Nat):Col x k w [] w
 |step {w w1 w' s:List Nat}{r:Nat}{tr:List (Nat×List Nat)} (hw:∀a∈w,k≤a∧a<x.zA.length) (hs:stS x w=iF (r,s,w1)) (h:Col x k w1 tr w'):Col x k w ((r,s)::tr) w'
theorem Col.trans{x:SPr}{w:List Nat}(h:Col x k w t1 w1)(h2:Col x k w1 t2 w2):Col x k w (t1++t2) w2:=by
 induction h with
 |refl w=>exact h2
 |step hw hs _ ih=>exact .step hw hs (ih h2)
def tv(p:Int)(D:Nat)(m:zB)(T:Mx):List (Nat×List Nat)→Vec
 | []=>zeros D
 |(r,s)::t=>adv p D (xY p D (T.getD r []) (wM p D m.zF s (idM D))) (tv p D m T t)
section
variable {p:Int}{D:Nat}{m:zB}{T:Mx} (hp:2≤p)
 include hp
theorem zLi:∀t,Row p D (tv p D m T t)
 | []=>xQ (by omega)
 |(_,_)::_=>qM (by omega)
theorem zIG:∀t u,tv p D m T (t++u)=adv p D (tv p D m T t) (tv p D m T u)
 | [],u=>(uG (zLi hp u)).symm
 |(r,s)::t,u=>by show adv p D _ (tv p D m T (t++u))=adv p D (adv p D _ _) _;rw[zIG t u,zDA]
theorem yAr{A:List Mx}{u v:List Nat}:wM p D A (u++v) (idM D)=PM p D (wM p D A u (idM D)) (wM p D A v (idM D)):=by have hu:=zCk (D:=D) (A:=A) (show 0<p by omega) u (tD hp);rw[zD5,←zIu (by omega) hu.1 v (tD hp),zBF hu]
theorem zF2{A:List Mx}{u v:List Nat}{r:Vec}:xY p D r (wM p D A (u++v) (idM D))=xY p D (xY p D r (wM p D A u (idM D))) (wM p D A v (idM D)):=by have hu:=zCk (D:=D) (A:=A) (show 0<p by omega) u (tD hp);rw[yAr hp,zFx hu.1]
theorem zUv(z:List Nat):∀t,tv p D m T (t.map fun q=>(q.1,q.2++z))=xY p D (tv p D m T t) (wM p D m.zF z (idM D))
 | []=>zAP.symm
 |(r,s)::t=>by show adv p D (xY p D (T.getD r []) (wM p D m.zF (s++z) (idM D))) (tv p D m T (t.map fun q=>(q.1,q.2++z)))=xY p D (adv p D _ (tv p D m T t)) _;rw[zUv z t,zF1,zF2 hp]
end
section
variable {x:SPr} (h:Pres x)
 include h
theorem zNd(ha:a<x.zA.length):2≤yL x a:=by
 have:=(h.os.2 a ha).pos
 grind
theorem tE(hv:Exp x.zA v i)(hi:i<x.zA.length):nw 0 v=nw (i+1) (v.drop (i+1))∧ ∀a∈nw 0 v,i+1≤a∧a<x.zA.length:=by
 have _:=h;have e:=zAA hv hi;have e1:nw 0 v=nw (i+1) (v.drop (i+1)):=by rw[e,zD4,zDk,yC,K0,Ja,Jz (by rw[yC])]
 refine⟨e1,fun a ha=>?_⟩;rw[e1]at ha;refine⟨?_,zMD (n:=x.zA.length) (i+1) _ (by rw[Kr,hv.1.1];omega) a ha⟩
 clear e e1 hv
 generalize v.drop (i+1)=y at ha
 generalize i+1=o at ha ⊢
 clear hi
 induction y generalizing o with
 |nil=>grind[nw]
 |cons b y ih=>
  grind[nw]
theorem uI(hi:i<j)(hj:j<x.zA.length):Exp x.zA (lcj x i j) i:=by have g:=(h.tl i (by omega)).2.1;exact(h.tl i (by omega)).2.2 (j-(i+1)) (by omega)
theorem qN(hi:i<x.zA.length):Exp x.zA (x.zV.getD i []) i:=(h.tl i hi).1
theorem zUw:∀(o:Nat)(y:Vec),∀a∈nw o y,o≤a
 |_,[],a,ha=>by grind[nw]
 |o,b::y,a,ha=>by
  have _:=h;simp only[nw,Jd]at ha;rcases ha with ha|ha
  ·grind
  ·have:=zUw (o+1) y a ha;omega
theorem zQ9(hk:k≤x.zA.length)(hy:V (suf x k) y):∀a∈nw k y,k≤a∧a<x.zA.length:=fun a ha=>
 ⟨zUw h k y a ha,zMD (n:=x.zA.length) k y (by grind[vJ]) a ha⟩
theorem zGt:∀(d k:Nat),k+d=x.zA.length→ ∀y,V (suf x k) y→stS x (nw k y)=iG
 |0,k,hk,y,hy=>by rw[vX (x:=x) (k:=k) (by omega)]at hy;obtain rfl:y=[]:=hy;rfl
 |d+1,k,hk,y,hy=>by
  rw[yG (x:=x) (by omega)]at hy;cases y with
  |nil=>rfl
  |cons b y=>
   obtain⟨⟨b0,b1⟩,hy⟩:=hy;change b<at0 x.zA k at b1;simp only[nw];have gH:b.toNat<yL x k:=by grind
   rw[zEB gH b.toNat (Jh _) fun a ha=>?_,zGt d (k+1) (by omega) y hy]
   ·rfl
   ·have:=zUw h (k+1) y a (by grind[Jap])
    omega
theorem Col.ctx(hi:i<x.zA.length)(ha:a<yL x i)(hs:∀b∈s,i≤b∧b<x.zA.length){w w':List Nat}{tr:List (Nat×List Nat)}(hc:Col x (i+1) w tr w'):
  Col x i (J1 a i++(w++s)) (tr.map fun q=>(q.1,q.2++s)) (J1 a i++(w'++s)):=by
 induction hc with
 |refl w=>exact .refl _
 | @step w w1 w' s1 r tr hw gF _ ih=>
  refine .step (fun b hb=>?_) ?_ ih
  ·grind
  ·rw[zEB ha a (Jh _) fun b hb=>?_,zLg (by grind[zNd]) gF]
   ·rfl
   ·cases w with
    |nil=>cases gF
    |cons c w=>
     simp only[K5,Jcb,Hu.injEq]at hb;have:=hw c (by simp);omega
def cwd(x:SPr)(i:Nat):List Nat→List Nat
 | []=>[]
 |l::ur=>cwd x i ur++nw 0 (lcj x i l)
def mtr(x:SPr)(i:Nat):List Nat→List Nat→List (Nat×List Nat)
 | [],_=>[]
 |l::ur,z=>(base x.zA.length i+(l-(i+1)),z)::mtr x i ur (nw 0 (lcj x i l)++z)
theorem zLj{i:Nat}:∀{ur:List Nat},(∀b∈ur,i+1≤b∧b<x.zA.length)→ ∀b∈cwd x i ur,i+1≤b∧b<x.zA.length
 | [],_,b,hb=>by grind[cwd]
 |l::ur,hu,b,hb=>by
  simp only[cwd,Jd]at hb;obtain⟨l1,l2⟩:=hu l (by simp);rcases hb with hb|hb
  ·exact zLj (by grind) b hb
  ·exact(tE h (uI h (by omega) l2) (by omega)).2 b hb
theorem Col.move{i a:Nat}(hi:i<x.zA.length)(ha:a<yL x i):∀{ur:List Nat},(∀b∈ur,i+1≤b∧b<x.zA.length)→stS x ur.reverse=iG→ ∀{z:List Nat},(∀b∈z,i≤b∧b<x.zA.length)→
  Col x i (J1 a i++(ur.reverse++i::z)) (mtr x i ur z) (J1 (a+1) i++(cwd x i ur++z))
 | [],_,_,z,_=>by
  have e:J1 a i++(([]:List Nat).reverse++i::z)=J1 (a+1) i++(cwd x i []++z):=by grind[Lo,cwd]
  rw[e];exact .refl _
 |l::ur,hu,hn,z,hz=>by
  obtain⟨l1,l2⟩:=hu l (by simp);have cZ:∀b∈ur,i+1≤b∧b<x.zA.length:=by grind
  have p6:=tE h (uI h (show i<l by omega) l2) hi;rw[Uw]at hn ⊢
  have b8:=zGJ (by grind[zNd]) hn;have eS:∀b∈nw 0 (lcj x i l)++z,i≤b∧b<x.zA.length:=by grind
  have ih:=Col.move hi ha cZ b8 eS;rw[show cwd x i (l::ur)++z=cwd x i ur++(nw 0 (lcj x i l)++z)from by simp[cwd]];have e1:ur.reverse++[l]++i::z=ur.reverse++l::i::z:=by simp
  rw[e1];refine .step (fun b hb=>?_) ?_ ih
  ·simp only[Jd,J7,List.mem_reverse]at hb
   rcases hb with hb|hb|hb|hb|hb
   ·grind
   ·grind
   ·omega
   all_goals grind
  ·rw[zEB ha a (Jh _) fun b hb=>?_,zUt (by grind) (by omega) hn]
   ·rfl
   ·have:b∈ur.reverse++l::i::z:=by grind[Jap]
    cases e:ur.reverse with
    |nil=>grind
    |cons c t=>
     grind
end
theorem zIH{α:Type}(m:α→α→α)(c:Nat→α)(z:α):∀(cs:List α)(v:Vec)(o:Nat)(acc:α),(∀j,j<cs.length→cs.getD j z=c (o+j))→v.length≤cs.length→img m cs v acc=(nw o v).foldl (fun acc j=>m acc (c j)) acc
 |cs,[],o,acc,_,_=>by cases cs<;>rfl
 | [],_::_,_,_,_,h=>by simp at h
 |a::cs,b::v,o,acc,hc,hl=>by
  have h0:=hc 0 (by simp);simp only[Gj,Q6]at h0;have e:∀(k:Nat)(u:α),(J1 k o).foldl (fun acc j=>m acc (c j)) u=iter k (fun v=>m v a) u:=by
   intro k
   induction k with
   |zero=>intro u;rfl
   |succ k ih=>intro u;rw[Jq,G6,ih,h0];rfl
  show img m cs v (iter b.toNat (fun v=>m v a) acc)=_;simp only[nw,Gl];rw[e,zIH m c z cs v (o+1) _ (fun j hj=>by have:=hc (j+1) (by grind);grind) (by grind)]
theorem map_drop{l:List (List Int)}:(l.map (·.drop n)).getD i []=(l.getD i []).drop n:=by grind
section
variable {D:Nat}{x:SPr}{m:zB}{T:Mx} (h:Pres x) (hE:ExB x.zA.length D x m T) (hT:∀i,i<T.length→Row m.Prime D (T.getD i []))
 include h hE hT
theorem zXu(hk:k<x.zA.length)(hc:wN (suf (exx D x m T) k)):wN (suf (exx D x m T) (k+1)):=by rw[yG (x:=exx D x m T) (by grind[wG])]at hc;exact hc.1
theorem zOP(hk:k≤x.zA.length):V (suf (exx D x m T) k) (zeros ((exx D x m T).zA.length-k)):=by grind[wS,uK,yS]
theorem zII(hk:k≤x.zA.length):zeros ((exx D x m T).zA.length-k)=zeros (x.zA.length-k)++zeros D:=by rw[wG h hE hT,show x.zA.length+D-k=x.zA.length-k+D from by omega,zGs]
theorem zDM(hk:k≤x.zA.length){u:Vec}(hy:V (suf x k) y)(hu:Row m.Prime D u):V (suf (exx D x m T) k) (y++u):=
 (sQ h hE hT (x.zA.length-k) k (by omega) _).2 (by grind)
theorem kT(hk:k≤x.zA.length){u:Vec}(hy:V (suf x k) y):adK m.Prime D (x.zA.length-k) (y++u) d=y++adv m.Prime D u d:=by have _:=hE;have _:=hT;have e7:=vJ h hk hy;rw[adK,Jo e7,Jz e7]
theorem zIJ:∀(d k:Nat),k+d=x.zA.length→wN (suf (exx D x m T) k)→ ∀y,V (suf x k) y→fo (exx D x m T) k (zeros ((exx D x m T).zA.length-k)) (nw k y)=y++zeros D
 |0,k,hk,_,y,hy=>by rw[vX (x:=x) (k:=k) (by omega)]at hy;obtain rfl:y=[]:=hy;rw[zII h hE hT (by omega),show x.zA.length-k=0 from by omega];rfl
 |d+1,k,hk,hc,y,hy=>by
  have fI:=zXu h hE hT (by omega) hc;have ih:=zIJ d (k+1) (by omega) fI;rw[yG (x:=x) (by omega)]at hy;cases y with
  |nil=>exact hy.elim
  |cons b y=>
   obtain⟨⟨b0,b1⟩,hy⟩:=hy;change b<at0 x.zA k at b1;have pR:k<x.zA.length:=by omega
   have hz:=zOP h hE hT (k:=k+1) (by omega);simp only[nw];rw[zDl];have e1:∀c:Nat,(c:Int)<at0 x.zA k→fo (exx D x m T) k (zeros ((exx D x m T).zA.length-k)) (J1 c k)=(c:Int)::zeros ((exx D x m T).zA.length-(k+1)):=by
    intro c
    induction c with
    |zero=>
     intro _;have hl:=wG h hE hT;rw[show(exx D x m T).zA.length-k=(exx D x m T).zA.length-(k+1)+1 from by omega];rfl
    |succ c ihc=>
     intro gC;rw[Lo,zDl,ihc (by omega)];show mul _ _ _=_;rw[zGK h hE hT pR fI hz,if_neg (by omega)];have:sig (suf (exx D x m T) (k+1)) (lvl (exx D x m T) k) (zeros ((exx D x m T).zA.length-(k+1)))=zeros ((exx D x m T).zA.length-(k+1)):=by grind[sig,qK,yS]
     grind
   have e2:∀(w:List Nat)(e:Vec),(∀a∈w,k+1≤a∧a<x.zA.length)→fo (exx D x m T) k (b::e) w=b::fo (exx D x m T) (k+1) e w:=by
    intro w
    induction w with
    |nil=>intro e _;rfl
    |cons a w ihw=>
     intro e hw;rw[sS,zNc h hE hT pR fI (hw a (by simp)).1 (hw a (by simp)).2 b1,ihw _ (by grind)];rfl
   have:=e1 b.toNat (by omega);rw[this,show((b.toNat:Nat):Int)=b from by omega,e2 _ _ fun a ha=>zQ9 h (by omega) hy a ha,ih y hy];rfl
variable {k:Nat} (hk:k<x.zA.length) (hc:wN (suf (exx D x m T) (k+1)))
 include hk hc
theorem zIK{b:Int}(hb:b<at0 x.zA k):∀(w:List Nat)(e:Vec),(∀a∈w,k+1≤a∧a<x.zA.length)→fo (exx D x m T) k (b::e) w=b::fo (exx D x m T) (k+1) e w
 | [],e,_=>rfl
 |a::w,e,hw=>by rw[sS,zNc h hE hT hk hc (hw a (by simp)).1 (hw a (by simp)).2 hb,zIK hb w _ (by grind)];rfl
 omit hc in
theorem zRK:∀{w:List Nat},(∀a∈w,k+1≤a∧a<x.zA.length)→ ∀{e:Vec},V (suf (exx D x m T) (k+1)) e→V (suf (exx D x m T) (k+1)) (fo (exx D x m T) (k+1) e w)
  | [],_,_,he=>he
  |a::w,hw,e,he=>by rw[sS];exact zRK (fun b hb=>hw b (by simp[hb])) (xJ (uK h hE hT (by omega)) he (zDm h hE hT (hw a (by simp)).1 (hw a (by simp)).2))
theorem zUx:∀{w:List Nat},(∀a∈w,k+1≤a∧a<x.zA.length)→ ∀{e d:Vec},V (suf (exx D x m T) (k+1)) e→Row m.Prime D d→fo (exx D x m T) (k+1) (adK m.Prime D (x.zA.length-(k+1)) e d) w=adK m.Prime D (x.zA.length-(k+1)) (fo (exx D x m T) (k+1) e w) (xY m.Prime D d (wM m.Prime D m.zF w (idM D)))
 | [],_,e,d,_,hd=>by show adK _ _ _ e d=adK _ _ _ e (xY m.Prime D d (idM D));rw[jZ hd]
 |a::w,hw,e,d,he,hd=>by
  have hp:=hE.m.p.pos;obtain⟨a1,a2⟩:=hw a (by simp);have hA:=hE.m.mat a a2;rw[sS,sS,zYN h hE hT hk hc a1 a2 he hd,zUx (by grind) (by grind[xJ,uK,zDm]) (vG (by omega)),zFx hA.1]
  congr 2
  show PM _ _ _ (wM m.Prime D m.zF w (idM D))=wM m.Prime D m.zF w (PM m.Prime D (idM D) (m.zF.getD a []));rw[←zIu (by omega) hA.1 w (tD (by omega)),zBF hA,zCi hA]
theorem zUy:∀{w:List Nat},(∀a∈w,k+1≤a∧a<x.zA.length)→ ∀{e f:Vec},V (suf (exx D x m T) (k+1)) e→V (suf (exx D x m T) (k+1)) f→fo (exx D x m T) (k+1) (mul (suf (exx D x m T) (k+1)) e f) w=mul (suf (exx D x m T) (k+1)) e (fo (exx D x m T) (k+1) f w)
 | [],_,_,_,_,_=>rfl
 |a::w,hw,e,f,he,hf=>by have gB:=uK h hE hT (k:=k+1) (by omega);have G:=(zCV _ gB hc).toMon;have hg:=zDm h hE hT (hw a (by simp)).1 (hw a (by simp)).2;rw[sS,sS,G.assoc he hf hg,zUy (by grind) he (G.cl hf hg)]
theorem zIL{w:List Nat}(hw:∀a∈w,k+1≤a∧a<x.zA.length)(he:V (suf (exx D x m T) (k+1)) e):fo (exx D x m T) (k+1) e w=mul (suf (exx D x m T) (k+1)) e (fo (exx D x m T) (k+1) (zeros ((exx D x m T).zA.length-(k+1))) w):=by rw[←zUy h hE hT hk hc hw he (by grind[zOP]),yAp h hE hT (by omega) he]
def dm(p:Int)(D:Nat)(x:SPr)(m:zB)(T:Mx)(k:Nat):List Nat→Vec
 | []=>zeros D
 |l::ur=>adv p D (xY p D (dm p D x m T k ur) (wM p D m.zF (nw 0 (lcj x k l)) (idM D))) (T.getD (base x.zA.length k+(l-(k+1))) [])
 omit h hE hT hk hc in
theorem zOQ(hp:2≤m.Prime):∀ur,Row m.Prime D (dm m.Prime D x m T k ur)
  | []=>xQ (by omega)
  |_::_=>qM (by omega)
 omit h hE hT hk hc in
theorem zOR(hp:2≤m.Prime):∀(ur:List Nat)(z:List Nat),tv m.Prime D m T (mtr x k ur z)=xY m.Prime D (dm m.Prime D x m T k ur) (wM m.Prime D m.zF z (idM D))
  | [],z=>zAP.symm
  |l::ur,z=>by show adv m.Prime D _ (tv m.Prime D m T (mtr x k ur (nw 0 (lcj x k l)++z)))=xY m.Prime D (adv m.Prime D _ _) _;rw[zOR hp ur,zF1,zF2 hp,tS]
theorem zUz:∀{ur:List Nat},(∀b∈ur,k+1≤b∧b<x.zA.length)→ur.reverse.foldl (fun acc j=>mul (suf (exx D x m T) (k+1)) acc ((lvl (exx D x m T) k).cs.getD (j-(k+1)) [])) (zeros ((exx D x m T).zA.length-(k+1)))=
  adK m.Prime D (x.zA.length-(k+1)) (fo (exx D x m T) (k+1) (zeros ((exx D x m T).zA.length-(k+1))) (cwd x k ur)) (dm m.Prime D x m T k ur)
 | [],_=>by have hp:=hE.m.p.pos;show zeros _=adK _ _ _ (zeros _) (zeros D);rw[zII h hE hT (by omega),kT h hE hT (by omega) (by grind[zv]),uG (xQ (by omega))]
 |l::ur,hu=>by
  have hp:=hE.m.p.pos;obtain⟨l1,l2⟩:=hu l (by simp);have cZ:∀b∈ur,k+1≤b∧b<x.zA.length:=by grind
  have gB:=uK h hE hT (k:=k+1) (by omega);have G:=(zCV _ gB hc).toMon;have hz:=zOP h hE hT (k:=k+1) (by omega);have pS:=zLj h cZ;have hF:=zRK h hE hT hk pS hz;have p6:=tE h (uI h (show k<l by omega) l2) hk;have gC:V (suf x (k+1)) ((lcj x k l).drop (k+1)):=by grind[kG,uI]
  have ba:(lvl x k).cs.getD (l-(k+1)) []=(lcj x k l).drop (k+1):=map_drop;have ht:=zEb h hE hT (show k<l by omega) l2;have hd:=zOQ (D:=D) (x:=x) (m:=m) (T:=T) (k:=k) (by omega) ur;have ib:=zIJ h hE hT (x.zA.length-(k+1)) (k+1) (by omega) hc _ gC;have cK:=zDM h hE hT (k:=k+1) (by omega) gC (xQ (p:=m.Prime) (D:=D) (by omega));rw[Uw,Gl,zUz cZ];show mul _ (adK _ _ _ _ _) ((lvl (exx D x m T) k).cs.getD (l-(k+1)) [])=_;rw[zI9 h hE hT hk l1 l2,ba];have e1:(lcj x k l).drop (k+1)++T.getD (base x.zA.length k+(l-(k+1))) []=adK m.Prime D (x.zA.length-(k+1)) ((lcj x k l).drop (k+1)++zeros D) (T.getD (base x.zA.length k+(l-(k+1))) []):=by grind[kT,uG]
  have gO:∀b∈nw (k+1) ((lcj x k l).drop (k+1)),k+1≤b∧b<x.zA.length:=by grind
  have fa:=yAq h hE hT (k:=k+1) (by omega) hF (d:=dm m.Prime D x m T k ur);rw[e1,zNb h hE hT hk hc cK ht fa,←ib,←zIL h hE hT hk hc gO fa,zUx h hE hT hk hc gO hF hd,zYL h hE hT (by omega) (zRK h hE hT hk gO hF),←zDl,←p6.1];rfl
theorem zQA(hy:V (suf x (k+1)) y):sig (suf (exx D x m T) (k+1)) (lvl (exx D x m T) k) (y++zeros D)=adK m.Prime D (x.zA.length-(k+1)) (fo (exx D x m T) (k+1) (zeros ((exx D x m T).zA.length-(k+1))) (cwd x k (nw (k+1) y).reverse)) (dm m.Prime D x m T k (nw (k+1) y).reverse):=by have hp:=hE.m.p.pos;have e7:=vJ h (by omega) hy;have gO:=zQ9 h (by omega) hy;rw[←zUz h hE hT hk hc (by grind),Kh,zCr h hE hT hk hy (xQ (by omega)),zAP];obtain⟨y1,u1,e,fb,cC⟩:=(sQ h hE hT (x.zA.length-(k+1)) (k+1) (by omega) _).1 (zI7 h hE hT hk (y:=y));have gK:=vJ h (by omega) fb;rw[e,Jo gK,Jz gK,zAO cC,←e];unfold sgG;rw[yS];refine zIH _ (fun j=>(lvl (exx D x m T) k).cs.getD (j-(k+1)) []) [] _ _ _ _ (fun j hj=>?_) (by grind[jD]);rw[jD h hE hT]at hj;rw[show k+1+j-(k+1)=j from by omega,zCq h hE hT hk,J3,J3,Kn (by grind[jD])]
end
section
variable {x:SPr} (h:Pres x)
 include h
theorem zNe{m:zB}{T:Mx}(hE:ExB x.zA.length D x m T)(hT:∀i,i<T.length→Row m.Prime D (T.getD i []))(hk:k≤x.zA.length)(hc:wN (suf (exx D x m T) k)):wN (suf (exx D x m T) (k+1)):=by have hl:=wG h hE hT;have:=hE.m.d1;rw[yG (x:=exx D x m T) (by omega)]at hc;exact hc.1
structure qU (x:SPr) (k:Nat) (z:List Nat) (tr:List (Nat×List Nat)) (y:Vec):Prop where
 col:Col x k z tr (nw k y)
 v:V (suf x k) y
 val:∀(D:Nat)(m:zB)(T:Mx),ExB x.zA.length D x m T→(∀i,i<T.length→Row m.Prime D (T.getD i []))→wN (suf (exx D x m T) (k+1))→fo (exx D x m T) k (zeros ((exx D x m T).zA.length-k)) z=y++tv m.Prime D m T tr
theorem zQB{k:Nat}(hk:k<x.zA.length)(P:∀v:List Nat,(∀a∈v,k+1≤a∧a<x.zA.length)→ ∃tr y,qU x (k+1) v tr y):∀(z:List Nat),(∀a∈z,k≤a∧a<x.zA.length)→ ∀(a:Nat),a<yL x k→ ∀(v:List Nat),(∀a∈v,k+1≤a∧a<x.zA.length)→
  ∃tr y,Col x k (J1 a k++(v++z)) tr (nw k y)∧V (suf x k) y∧ ∀(D:Nat)(m:zB)(T:Mx),ExB x.zA.length D x m T→(∀i,i<T.length→Row m.Prime D (T.getD i []))→wN (suf (exx D x m T) (k+1))→
   fo (exx D x m T) k ((a:Int)::fo (exx D x m T) (k+1) (zeros ((exx D x m T).zA.length-(k+1))) v) z=y++tv m.Prime D m T tr
 | [],_,a,ha,v,hv=>by
  obtain⟨tr,y,c1,c2,c3⟩:=P v hv;have hc:=Col.ctx h hk ha (s:=[]) (by simp) c1;rw[show(fun q:Nat×List Nat=>(q.1,q.2++[]))=id from by grind,List.map_id,Jf,Jf]at hc;refine⟨tr,(a:Int)::y,?_,?_,fun D m T hE hT hc=>?_⟩
  ·grind[nw]
  ·rw[yG hk]
   refine⟨⟨by omega,?_⟩,c2⟩;show(a:Int)<at0 x.zA k
   grind
  ·rw[c3 D m T hE hT (by grind[zNe])];rfl
 |l::z,hz,a,ha,v,hv=>by
  have eS:∀b∈z,k≤b∧b<x.zA.length:=by grind
  obtain⟨l1,l2⟩:=hz l (by simp);have mg:(a:Int)<at0 x.zA k:=by grind
  rcases Jg k l with g|g
  ·obtain⟨tr,y,c1,c2,c3⟩:=zQB hk P z eS a ha (v++[l]) (by grind)
   refine⟨tr,y,by grind,c2,fun D m T hE hT hc=>?_⟩;rw[←c3 D m T hE hT hc,sS,zNc h hE hT hk hc g l2 mg,zDl];rfl
  ·obtain rfl:l=k:=by omega
   obtain⟨tr1,y1,c1,c2,c3⟩:=P v hv;have gO:=zQ9 h (by omega) c2;have pG:∀b∈(nw (l+1) y1).reverse,l+1≤b∧b<x.zA.length:=by grind
   have k1:=Col.ctx h hk ha (s:=l::z) hz c1;have k2:=Col.move h hk ha pG (by rw[Kh];exact zGt h _ _ (by omega:l+1+(x.zA.length-(l+1))=x.zA.length) y1 c2) eS;rw[Kh]at k2;have pS:=zLj h pG;have val:∀(D:Nat)(m:zB)(T:Mx)(hE:ExB x.zA.length D x m T)(hT:∀i,i<T.length→Row m.Prime D (T.getD i []))(hc:wN (suf (exx D x m T) (l+1))),
     fo (exx D x m T) l ((a:Int)::fo (exx D x m T) (l+1) (zeros ((exx D x m T).zA.length-(l+1))) v) (l::z)=adK m.Prime D (x.zA.length-l) (fo (exx D x m T) l (mul (suf (exx D x m T) l) ((a:Int)::(y1++zeros D)) (xP ((exx D x m T).zA.length-l) (l-l))) z) (tv m.Prime D m T (tr1.map fun q=>(q.1,q.2++l::z))):=by
    intro D m T hE hT hc;have hp:=hE.m.p.pos;have ht:=zLi (D:=D) (m:=m) (T:=T) (p:=m.Prime) (by omega) tr1;have t6:=zDM h hE hT (k:=l+1) (by omega) c2 (xQ (p:=m.Prime) (D:=D) (by omega));have aQ:V (suf (exx D x m T) l) ((a:Int)::(y1++zeros D)):=by rw[yG (x:=exx D x m T) (by rw[wG h hE hT];omega)];refine⟨⟨by omega,?_⟩,t6⟩;show(a:Int)<at0 (exx D x m T).zA l;rw[tK h hE hT hk];exact mg
    rw[c3 D m T hE hT (zNe h hE hT (by omega) hc),show y1++tv m.Prime D m T tr1=adK m.Prime D (x.zA.length-(l+1)) (y1++zeros D) (tv m.Prime D m T tr1)from by rw[kT h hE hT (by omega) c2,uG ht],←zBh h hE hT hk,zQ8 h hE hT hk hc hz aQ ht,zUv (by omega)];rfl
   have foV:∀(D:Nat)(m:zB)(T:Mx)(hE:ExB x.zA.length D x m T)(hT:∀i,i<T.length→Row m.Prime D (T.getD i []))(_hc:wN (suf (exx D x m T) (l+1))),V (suf (exx D x m T) (l+1)) (fo (exx D x m T) (l+1) (zeros ((exx D x m T).zA.length-(l+1))) (cwd x l (nw (l+1) y1).reverse)):=fun D m T hE hT _hc=>zRK h hE hT hk pS (zOP h hE hT (by omega))
   rcases Jg (a+1) (yL x l)with g2|g2
   ·obtain⟨tr2,y2,d1,d2,d3⟩:=zQB hk P z eS (a+1) g2 (cwd x l (nw (l+1) y1).reverse) pS
    refine⟨_,y2,k1.trans (k2.trans d1),d2,fun D m T hE hT hc=>?_⟩;have hp:=hE.m.p.pos;have t6:=zDM h hE hT (k:=l+1) (by omega) c2 (xQ (p:=m.Prime) (D:=D) (by omega));have g3:(a:Int)+1<at0 x.zA l:=by have:a+1<(at0 x.zA l).toNat:=g2;omega
    have hF:=foV D m T hE hT hc;have aQ:V (suf (exx D x m T) l) (((a:Int)+1)::fo (exx D x m T) (l+1) (zeros ((exx D x m T).zA.length-(l+1))) (cwd x l (nw (l+1) y1).reverse)):=by rw[yG (x:=exx D x m T) (by rw[wG h hE hT];omega)];refine⟨⟨by omega,?_⟩,hF⟩;show(a:Int)+1<at0 (exx D x m T).zA l;rw[tK h hE hT hk];exact g3
    have hd:=zOQ (D:=D) (x:=x) (m:=m) (T:=T) (k:=l) (by omega) (nw (l+1) y1).reverse;have d3':=d3 D m T hE hT hc;rw[show(((a+1:Nat):Int))=(a:Int)+1 from by omega]at d3';rw[val D m T hE hT hc,zGK h hE hT hk hc t6,if_neg (by omega),zQA h hE hT hk hc c2,←zBh h hE hT hk,zQ8 h hE hT hk hc eS aQ hd,d3',kT h hE hT (by omega) d2,kT h hE hT (by omega) d2,←zOR (by omega),zIG (by omega),zIG (by omega),tS,tS (u:=tv m.Prime D m T tr2)]
   ·have g4:a+1=yL x l:=by omega
    have pP:=qN h hk;have pQ:=tE h pP hk;have aX:∀b∈nw 0 (x.zV.getD l [])++cwd x l (nw (l+1) y1).reverse,l+1≤b∧b<x.zA.length:=fun b hb=>by
     simp only[Jd]at hb;rcases hb with hb|hb
     ·exact pQ.2 b hb
     ·exact pS b hb
    obtain⟨tr2,y2,d1,d2,d3⟩:=zQB hk P z eS 0 (by omega) _ aX;rw[Lv,K0,Jj]at d1;have k3:Col x l (J1 (a+1) l++(cwd x l (nw (l+1) y1).reverse++z)) ((l,cwd x l (nw (l+1) y1).reverse++z)::tr2) (nw l y2):=by
     refine .step (fun b hb=>?_) (by rw[g4];exact zYK (zNd h hk) _) d1;simp only[Jd]at hb;rcases hb with hb|hb|hb
     ·have:=Lr hb;omega
     ·have:=pS b hb;omega
     ·exact eS b hb
    refine⟨_,y2,k1.trans (k2.trans k3),d2,fun D m T hE hT hc=>?_⟩;have hp:=hE.m.p.pos;have t6:=zDM h hE hT (k:=l+1) (by omega) c2 (xQ (p:=m.Prime) (D:=D) (by omega));have g3:(a:Int)+1=at0 x.zA l:=by have:a+1=(at0 x.zA l).toNat:=g4;omega
    have hF:=foV D m T hE hT hc;have hd:=zOQ (D:=D) (x:=x) (m:=m) (T:=T) (k:=l) (by omega) (nw (l+1) y1).reverse;have ew:=zCs h hE hT hk;have cx:V (suf x (l+1)) ((x.zV.getD l []).drop (l+1)):=kG pP hk;have pN:=zDM h hE hT (k:=l+1) (by omega) cx (xQ (p:=m.Prime) (D:=D) (by omega));have hw:(lvl (exx D x m T) l).w=adK m.Prime D (x.zA.length-(l+1)) ((x.zV.getD l []).drop (l+1)++zeros D) (T.getD l []):=by rw[zI5 h hE hT hk,kT h hE hT (by omega) cx,uG ew];rfl
    have c7:=zRJ h hE hT hk;have hFw:=zRK h hE hT hk aX (zOP h hE hT (by omega));have em:mul (suf (exx D x m T) (l+1)) (lvl (exx D x m T) l).w (fo (exx D x m T) (l+1) (zeros ((exx D x m T).zA.length-(l+1))) (cwd x l (nw (l+1) y1).reverse))=adK m.Prime D (x.zA.length-(l+1)) (fo (exx D x m T) (l+1) (zeros ((exx D x m T).zA.length-(l+1))) (nw 0 (x.zV.getD l [])++cwd x l (nw (l+1) y1).reverse)) (xY m.Prime D (T.getD l []) (wM m.Prime D m.zF (cwd x l (nw (l+1) y1).reverse) (idM D))):=by rw[←zIL h hE hT hk hc pS c7,hw,zUx h hE hT hk hc pS pN ew,←zIJ h hE hT _ (l+1) (by omega:l+1+(x.zA.length-(l+1))=x.zA.length) hc _ cx,←zDl,←pQ.1]
    have aQ:V (suf (exx D x m T) l) ((0:Int)::fo (exx D x m T) (l+1) (zeros ((exx D x m T).zA.length-(l+1))) (nw 0 (x.zV.getD l [])++cwd x l (nw (l+1) y1).reverse)):=by rw[yG (x:=exx D x m T) (by rw[wG h hE hT];omega)];refine⟨⟨by omega,?_⟩,hFw⟩;show(0:Int)<at0 (exx D x m T).zA l;rw[tK h hE hT hk];omega
    have d3':=d3 D m T hE hT hc;rw[show(((0:Nat):Int))=0 from rfl]at d3';rw[val D m T hE hT hc,zGK h hE hT hk hc t6,if_pos (by omega),zQA h hE hT hk hc c2,zNb h hE hT hk hc hF hd c7,em,zYL h hE hT (by omega) hFw,g3,Int.sub_self,←zBh h hE hT hk,zQ8 h hE hT hk hc eS aQ (qM (by omega)),d3',kT h hE hT (by omega) d2,kT h hE hT (by omega) d2,zF1,←zOR (by omega),←zF2 (by omega),zIG (by omega),zIG (by omega)];show y2++adv m.Prime D (adv m.Prime D (tv m.Prime D m T tr2) (adv m.Prime D _ _)) _=y2++adv m.Prime D _ (adv m.Prime D _ (adv m.Prime D _ (tv m.Prime D m T tr2)));rw[tS,tS (u:=tv m.Prime D m T tr2),tS (u:=xY m.Prime D (T.getD l []) _),zDA]
theorem zXv:∀(d k:Nat),k+d=x.zA.length→ ∀z:List Nat,(∀a∈z,k≤a∧a<x.zA.length)→ ∃tr y,qU x k z tr y
 |0,k,hk,z,hz=>by
  have:z=[]:=by
   cases z with
   |nil=>rfl
   |cons a z=>have:=hz a (by simp);omega
  subst this;refine⟨[],[],.refl _,by rw[vX (x:=x) (k:=k) (by omega)];rfl,fun D m T hE hT _=>?_⟩;show zeros _=[]++zeros D;rw[zII h hE hT (by omega),show x.zA.length-k=0 from by omega];rfl
 |d+1,k,hk,z,hz=>by have ho:=zNd h (show k<x.zA.length by omega);obtain⟨tr,y,c1,c2,c3⟩:=zQB h (by omega) (zXv d (k+1) (by omega)) z hz 0 (by omega) [] (by simp);refine⟨tr,y,by grind,c2,fun D m T hE hT hc=>?_⟩;rw[←c3 D m T hE hT hc];have hl:=wG h hE hT;rw[show(exx D x m T).zA.length-k=(exx D x m T).zA.length-(k+1)+1 from by omega];rfl
end
section
variable {D:Nat}{x:SPr}{m:zB}{T:Mx} (h:Pres x) (hE:ExB x.zA.length D x m T) (hT:∀i,i<T.length→Row m.Prime D (T.getD i []))
 include h hE hT
variable {k:Nat} (hk:k<x.zA.length) (hc:wN (suf (exx D x m T) (k+1)))
 include hk hc
theorem zHh(k1:qU x k w1 t1 y1)(k2:qU x k w2 t2 y2){r1 r2:Nat}{s1 s2:List Nat}{b:Int}{A1 A2:Vec}(hA1:V (suf (exx D x m T) (k+1)) A1)(hA2:V (suf (exx D x m T) (k+1)) A2)
  (v1:fo (exx D x m T) k (zeros ((exx D x m T).zA.length-k)) w1=b::A1)(v2:fo (exx D x m T) k (zeros ((exx D x m T).zA.length-k)) w2=b::A2)
  (ew:(adK m.Prime D (x.zA.length-(k+1)) A1 (xY m.Prime D (T.getD r1 []) (wM m.Prime D m.zF s1 (idM D)))).take (x.zA.length-(k+1))=(adK m.Prime D (x.zA.length-(k+1)) A2 (xY m.Prime D (T.getD r2 []) (wM m.Prime D m.zF s2 (idM D)))).take (x.zA.length-(k+1))):
  tv m.Prime D m T ((r1,s1)::t1)=tv m.Prime D m T ((r2,s2)::t2)↔adK m.Prime D (x.zA.length-(k+1)) A1 (xY m.Prime D (T.getD r1 []) (wM m.Prime D m.zF s1 (idM D)))=adK m.Prime D (x.zA.length-(k+1)) A2 (xY m.Prime D (T.getD r2 []) (wM m.Prime D m.zF s2 (idM D))):=by
 have _:=hA1;have _:=hA2;have key:∀(w:List Nat)(t:List (Nat×List Nat))(y:Vec)(A:Vec)(r:Nat)(s:List Nat),qU x k w t y→fo (exx D x m T) k (zeros ((exx D x m T).zA.length-k)) w=b::A→
   b::adK m.Prime D (x.zA.length-(k+1)) A (xY m.Prime D (T.getD r []) (wM m.Prime D m.zF s (idM D)))=y++tv m.Prime D m T ((r,s)::t):=by
  intro w t y A r s kc v;rw[←zBh h hE hT hk,←v,kc.val D m T hE hT hc,kT h hE hT (by omega) kc.v,tS];rfl
 have e1:=key w1 t1 y1 A1 r1 s1 k1 v1;have e2:=key w2 t2 y2 A2 r2 s2 k2 v2;have l1:=vJ h (by omega) k1.v;have l2:=vJ h (by omega) k2.v;have hy:y1=y2:=by
  have a1:=congrArg (Jb0 (x.zA.length-(k+1)+1)) e1;have a2:=congrArg (Jb0 (x.zA.length-(k+1)+1)) e2
  grind
 subst hy;constructor
 all_goals grind[List.append_cancel_left]
theorem zEC{v:List Nat}(hv:∀a∈v,k+1≤a∧a<x.zA.length){z:List Nat}:fo (exx D x m T) k (zeros ((exx D x m T).zA.length-k)) (v++k::z)=fo (exx D x m T) k ((1:Int)::sig (suf (exx D x m T) (k+1)) (lvl (exx D x m T) k) (fo (exx D x m T) (k+1) (zeros ((exx D x m T).zA.length-(k+1))) v)) z:=by
 have ho:=(h.os.2 k hk).pos;have hl:=wG h hE hT;have hF:=zRK h hE hT hk hv (zOP h hE hT (by omega));rw[show zeros ((exx D x m T).zA.length-k)=0::zeros ((exx D x m T).zA.length-(k+1))from by rw[show(exx D x m T).zA.length-k=(exx D x m T).zA.length-(k+1)+1 from by omega];rfl,zDl,zIK h hE hT hk hc (by omega) v _ hv,sS,zGK h hE hT hk hc hF,if_neg (by omega)];rfl
 omit hc in
theorem zF3(hy:V (suf x (k+1)) y):sig (suf (exx D x m T) (k+1)) (lvl (exx D x m T) k) (y++zeros D)=(nw (k+1) y).foldl (fun acc j=>mul (suf (exx D x m T) (k+1)) acc ((lvl (exx D x m T) k).cs.getD (j-(k+1)) [])) (zeros ((exx D x m T).zA.length-(k+1))):=by
  have hp:=hE.m.p.pos;have e7:=vJ h (by omega) hy;rw[zCr h hE hT hk hy (xQ (by omega)),zAP];obtain⟨y1,u1,e,fb,cC⟩:=(sQ h hE hT (x.zA.length-(k+1)) (k+1) (by omega) _).1 (zI7 h hE hT hk (y:=y));have gK:=vJ h (by omega) fb;rw[e,Jo gK,Jz gK,zAO cC,←e];unfold sgG;rw[yS];refine zIH _ (fun j=>(lvl (exx D x m T) k).cs.getD (j-(k+1)) []) [] _ _ _ _ (fun j hj=>?_) (by grind[jD])
  grind[zCq]
 omit hc in
theorem zNf(h1:k+1≤j)(h2:j<x.zA.length):V (suf (exx D x m T) (k+1)) ((lvl (exx D x m T) k).cs.getD (j-(k+1)) []):=by
  have gC:V (suf x (k+1)) ((lcj x k j).drop (k+1)):=by grind[kG,uI]
  rw[zI9 h hE hT hk h1 h2,show(lvl x k).cs.getD (j-(k+1)) []=(lcj x k j).drop (k+1)from map_drop]
  grind[zDM,zEb]
theorem zNg:∀{v:List Nat},(∀a∈v,k+1≤a∧a<x.zA.length)→ ∀{e f:Vec},V (suf (exx D x m T) (k+1)) e→V (suf (exx D x m T) (k+1)) f→v.foldl (fun acc j=>mul (suf (exx D x m T) (k+1)) acc ((lvl (exx D x m T) k).cs.getD (j-(k+1)) [])) (mul (suf (exx D x m T) (k+1)) e f)=mul (suf (exx D x m T) (k+1)) e (v.foldl (fun acc j=>mul (suf (exx D x m T) (k+1)) acc ((lvl (exx D x m T) k).cs.getD (j-(k+1)) [])) f)
 | [],_,_,_,_,_=>rfl
 |a::w,hw,e,f,he,hf=>by have gB:=uK h hE hT (k:=k+1) (by omega);have G:=(zCV _ gB hc).toMon;have hg:=zNf h hE hT hk (hw a (by simp)).1 (hw a (by simp)).2;simp only[G6];rw[G.assoc he hf hg,zNg (by grind) he (G.cl hf hg)]
theorem csE(h1:k+1≤j)(h2:j<x.zA.length):V (suf x (k+1)) ((lcj x k j).drop (k+1))∧(lvl (exx D x m T) k).cs.getD (j-(k+1)) []=adK m.Prime D (x.zA.length-(k+1)) ((lcj x k j).drop (k+1)++zeros D) (T.getD (base x.zA.length k+(j-(k+1))) [])∧
  fo (exx D x m T) (k+1) (zeros ((exx D x m T).zA.length-(k+1))) (nw 0 (lcj x k j))=(lcj x k j).drop (k+1)++zeros D∧(∀a∈nw 0 (lcj x k j),k+1≤a∧a<x.zA.length):=by
 have gC:V (suf x (k+1)) ((lcj x k j).drop (k+1)):=by grind[kG,uI]
 have p6:=tE h (uI h (show k<j by omega) h2) hk;refine⟨gC,?_,?_,p6.2⟩
 ·rw[zI9 h hE hT hk h1 h2,show(lvl x k).cs.getD (j-(k+1)) []=(lcj x k j).drop (k+1)from map_drop,kT h hE hT (by omega) gC,uG (zEb h hE hT (by omega) h2)]
 ·rw[p6.1];exact zIJ h hE hT _ (k+1) (by omega:k+1+(x.zA.length-(k+1))=x.zA.length) hc _ gC
theorem wE:V (suf x (k+1)) ((x.zV.getD k []).drop (k+1))∧(lvl (exx D x m T) k).w=adK m.Prime D (x.zA.length-(k+1)) ((x.zV.getD k []).drop (k+1)++zeros D) (T.getD k [])∧
  fo (exx D x m T) (k+1) (zeros ((exx D x m T).zA.length-(k+1))) (nw 0 (x.zV.getD k []))=(x.zV.getD k []).drop (k+1)++zeros D∧(∀a∈nw 0 (x.zV.getD k []),k+1≤a∧a<x.zA.length):=by
 have cx:V (suf x (k+1)) ((x.zV.getD k []).drop (k+1)):=kG (qN h hk) hk;have pQ:=tE h (qN h hk) hk;refine⟨cx,?_,?_,pQ.2⟩
 ·rw[zI5 h hE hT hk,kT h hE hT (by omega) cx,uG (zCs h hE hT hk)];rfl
 ·rw[pQ.1];exact zIJ h hE hT _ (k+1) (by omega:k+1+(x.zA.length-(k+1))=x.zA.length) hc _ cx
 omit hc in
theorem zLk(ha:a<x.zA.length):wM m.Prime D m.zF [a] (idM D)=m.zF.getD a []:=by have _:=h;have _:=hT;have _:=hk;show PM m.Prime D (idM D) (m.zF.getD a [])=_;exact zCi (hE.m.mat a ha)
theorem zYO(hL:LC x k)(k1:qU x k (nw 0 (x.zV.getD k [])++[k]) t1 y1)(k2:qU x k (k::nw 0 (x.zV.getD k [])) t2 y2):
  tv m.Prime D m T ((k,[k])::t1)=tv m.Prime D m T ((k,[])::t2)↔sig (suf (exx D x m T) (k+1)) (lvl (exx D x m T) k) (lvl (exx D x m T) k).w=(lvl (exx D x m T) k).w:=by
 have hp:=hE.m.p.pos;have ho:=(h.os.2 k hk).pos;obtain⟨w1,w2,w3,w4⟩:=wE h hE hT hk hc;have ew:=zCs h hE hT hk;have pN:=zDM h hE hT (k:=k+1) (by omega) w1 (xQ (p:=m.Prime) (D:=D) (by omega));have c7:=zRJ h hE hT hk;have v1:=zEC h hE hT hk hc w4 (z:=[]);rw[w3]at v1;have v2:=zEC h hE hT hk hc (v:=[]) (by simp) (z:=nw 0 (x.zV.getD k []));have hz:fo (exx D x m T) (k+1) (zeros ((exx D x m T).zA.length-(k+1))) []=zeros ((exx D x m T).zA.length-(k+1)):=rfl;have hs:sig (suf (exx D x m T) (k+1)) (lvl (exx D x m T) k) (zeros ((exx D x m T).zA.length-(k+1)))=zeros ((exx D x m T).zA.length-(k+1)):=by grind[sig,qK,yS]
 rw[hz,hs,zIK h hE hT hk hc (by omega) _ _ w4,w3]at v2;have e1:adK m.Prime D (x.zA.length-(k+1)) (sig (suf (exx D x m T) (k+1)) (lvl (exx D x m T) k) ((x.zV.getD k []).drop (k+1)++zeros D)) (xY m.Prime D (T.getD k []) (wM m.Prime D m.zF [k] (idM D)))=sig (suf (exx D x m T) (k+1)) (lvl (exx D x m T) k) (lvl (exx D x m T) k).w:=by grind[zLk,zIF]
 have e2:adK m.Prime D (x.zA.length-(k+1)) ((x.zV.getD k []).drop (k+1)++zeros D) (xY m.Prime D (T.getD k []) (wM m.Prime D m.zF [] (idM D)))=(lvl (exx D x m T) k).w:=by rw[show wM m.Prime D m.zF [] (idM D)=idM D from rfl,jZ ew,w2]
 have:=zHh h hE hT hk hc k1 k2 (r1:=k) (r2:=k) (s1:=[k]) (s2:=[]) (zAQ h hE hT hk pN) pN v1 v2 (by rw[e1,e2,zE9 h hE hT hk c7,zI5 h hE hT hk,Jo (by have:=vJ h (by omega) w1;exact this)];exact hL.c3)
 grind
end
theorem zYP:∀(a o:Nat)(b:Int)(c:Vec),nw o (zeros a++b::c)=J1 b.toNat (o+a)++nw (o+a+1) c
 |0,o,b,c=>rfl
 |a+1,o,b,c=>by rw[show zeros (a+1)++b::c=0::(zeros a++b::c)from rfl];simp only[nw,Gk,Lv,K0];rw[zYP a (o+1) b c,show o+1+a=o+(a+1)from by omega]
theorem zLl{os:List Int}(hv:Exp os v j)(hk:k≤j):Exp os v k:=⟨hv.1,fun i hi=>hv.2 i (by omega)⟩
section
variable {x:SPr} (h:Pres x)
 include h
theorem zYQ:∀(a k:Nat){b:Int}{c:Vec},k+a<x.zA.length→0≤b→b<at0 x.zA (k+a)→V (suf x (k+a+1)) c→V (suf x k) (zeros a++b::c)
 |0,k,b,c,ha,h0,h1,hc=>by rw[yG (x:=x) (by omega)];exact⟨⟨h0,h1⟩,hc⟩
 |a+1,k,b,c,ha,h0,h1,hc=>by
  have:=(h.os.2 k (by omega)).pos;rw[yG (x:=x) (by omega)];refine⟨⟨Int.le_refl 0,?_⟩,?_⟩
  ·show(0:Int)<at0 x.zA k
   omega
  ·exact zYQ a (k+1) (by omega) h0 (by grind) (by grind)
end
section
variable {D:Nat}{x:SPr}{m:zB}{T:Mx} (h:Pres x) (hE:ExB x.zA.length D x m T) (hT:∀i,i<T.length→Row m.Prime D (T.getD i []))
 include h hE hT
variable {k:Nat} (hk:k<x.zA.length) (hc:wN (suf (exx D x m T) (k+1)))
 include hk hc
theorem zOS(h1:k+1≤j)(h2:j<x.zA.length){b:Int}(h0:0≤b)(hb:b<at0 x.zA j){c:Vec}(pJ:V (suf x (j+1)) c):V (suf x (k+1)) (zeros (j-(k+1))++b::c)∧nw (k+1) (zeros (j-(k+1))++b::c)=J1 b.toNat j++nw (j+1) c∧
  fo (exx D x m T) (k+1) (zeros ((exx D x m T).zA.length-(k+1))) (J1 b.toNat j++nw (j+1) c)=(zeros (j-(k+1))++b::c)++zeros D:=by
 have e:k+1+(j-(k+1))=j:=by omega
 have hv:V (suf x (k+1)) (zeros (j-(k+1))++b::c):=by grind[zYQ]
 have hn:nw (k+1) (zeros (j-(k+1))++b::c)=J1 b.toNat j++nw (j+1) c:=by rw[zYP,e]
 refine⟨hv,hn,?_⟩;rw[←hn];exact zIJ h hE hT _ (k+1) (by omega:k+1+(x.zA.length-(k+1))=x.zA.length) hc _ hv
theorem zQC(he:V (suf (exx D x m T) (k+1)) e):mul (suf (exx D x m T) (k+1)) (zeros ((exx D x m T).zA.length-(k+1))) e=e:=by
 have G:=(zCV _ (uK h hE hT (k:=k+1) (by omega)) hc).toMon;have:=G.onel he
 grind[yS]
theorem zQD(h1:k+1≤j)(h2:j<x.zA.length):fo (exx D x m T) (k+1) (zeros ((exx D x m T).zA.length-(k+1))) [j]=xP ((exx D x m T).zA.length-(k+1)) (j-(k+1))∧sig (suf (exx D x m T) (k+1)) (lvl (exx D x m T) k) (xP ((exx D x m T).zA.length-(k+1)) (j-(k+1)))=(lvl (exx D x m T) k).cs.getD (j-(k+1)) []:=by
 have ho:=(h.os.2 j h2).pos;have hz:V (suf x (j+1)) (zeros (x.zA.length-(j+1))):=by have:=wS (h.okAt (k:=j+1) (by omega));grind[yS]
 obtain⟨v1,v2,v3⟩:=zOS h hE hT hk hc h1 h2 (b:=1) (by omega) (by omega) hz;have hn:nw (j+1) (zeros (x.zA.length-(j+1)))=[]:=zDk _ _;rw[hn]at v2 v3;have hf:fo (exx D x m T) (k+1) (zeros ((exx D x m T).zA.length-(k+1))) [j]=xP ((exx D x m T).zA.length-(k+1)) (j-(k+1)):=zQC h hE hT hk hc (zDm h hE hT h1 h2);refine⟨hf,?_⟩;rw[←hf];have v3':fo (exx D x m T) (k+1) (zeros ((exx D x m T).zA.length-(k+1))) [j]=_:=v3
 grind[zF3,zQC,zNf]
theorem zYR(hL:LC x k)(h1:k+1≤j)(h2:j<x.zA.length)(k1:qU x k (nw 0 (x.zV.getD j [])++[k]) t1 y1)(k2:qU x k (J1 (yL x j-1) j++k::nw 0 (lcj x k j)) t2 y2):
  tv m.Prime D m T ((j,[k])::t1)=tv m.Prime D m T ((base x.zA.length k+(j-(k+1)),[])::t2)↔c1E (exx D x m T) k j:=by
 have hp:=hE.m.p.pos;have ho:=(h.os.2 k hk).pos;have hj:=(h.os.2 j h2).pos;have pP:=zLl (qN h h2) (show k≤j by omega);have cx:V (suf x (k+1)) ((x.zV.getD j []).drop (k+1)):=kG pP hk;have pQ:=tE h pP hk;have tu:=zCs h hE hT h2;have pN:=zDM h hE hT (k:=k+1) (by omega) cx (xQ (p:=m.Prime) (D:=D) (by omega));obtain⟨c1,c2,c3,c4⟩:=csE h hE hT hk hc h1 h2;have cK:=zDM h hE hT (k:=k+1) (by omega) c1 (xQ (p:=m.Prime) (D:=D) (by omega));have hcV:=zNf h hE hT hk h1 h2;have ew:=zEb h hE hT (show k<j by omega) h2;have mD:V (suf x (j+1)) (zeros (x.zA.length-(j+1))):=by have:=wS (h.okAt (k:=j+1) (by omega));rwa [yS]at this
 obtain⟨u1,u2,u3⟩:=zOS h hE hT hk hc h1 h2 (b:=at0 x.zA j-1) (by omega) (by omega) mD;rw[zDk,Jf,show(at0 x.zA j-1).toNat=yL x j-1 from by show _=(at0 x.zA j).toNat-1;omega]at u2 u3;have gB:=uK h hE hT (k:=k+1) (by omega);have G:=(zCV _ gB hc).toMon;have v1:=zEC h hE hT hk hc pQ.2 (z:=[]);rw[pQ.1,zIJ h hE hT _ (k+1) (by omega:k+1+(x.zA.length-(k+1))=x.zA.length) hc _ cx,←pQ.1]at v1;have hr:∀a∈J1 (yL x j-1) j,k+1≤a∧a<x.zA.length:=fun a ha=>by have:=Lr ha;omega
 have v2:=zEC h hE hT hk hc hr (z:=nw 0 (lcj x k j));have u7:∀q(e:Vec),(J1 q j).foldl (fun acc j=>mul (suf (exx D x m T) (k+1)) acc ((lvl (exx D x m T) k).cs.getD (j-(k+1)) [])) e=iter q (fun v=>mul (suf (exx D x m T) (k+1)) v ((lvl (exx D x m T) k).cs.getD (j-(k+1)) [])) e:=by
  intro q
  induction q with
  |zero=>intro e;rfl
  |succ q ih=>intro e;rw[Jq,G6,ih];rfl
 have hpq:sig (suf (exx D x m T) (k+1)) (lvl (exx D x m T) k) (fo (exx D x m T) (k+1) (zeros ((exx D x m T).zA.length-(k+1))) (J1 (yL x j-1) j))=pw (mul (suf (exx D x m T) (k+1))) (zeros (suf (exx D x m T) (k+1)).length) ((lvl (exx D x m T) k).cs.getD (j-(k+1)) []) (yL x j-1):=by rw[u3,zF3 h hE hT hk u1,u2,u7,yS];rfl
 have uh:V (suf (exx D x m T) (k+1)) (pw (mul (suf (exx D x m T) (k+1))) (zeros (suf (exx D x m T) (k+1)).length) ((lvl (exx D x m T) k).cs.getD (j-(k+1)) []) (yL x j-1)):=tX G hcV _;rw[hpq,zIK h hE hT hk hc (by omega) _ _ c4,zIL h hE hT hk hc c4 uh,c3]at v2;have e1:adK m.Prime D (x.zA.length-(k+1)) (sig (suf (exx D x m T) (k+1)) (lvl (exx D x m T) k) ((x.zV.getD j []).drop (k+1)++zeros D)) (xY m.Prime D (T.getD j []) (wM m.Prime D m.zF [k] (idM D)))=sig (suf (exx D x m T) (k+1)) (lvl (exx D x m T) k) (((exx D x m T).zV.getD j []).drop (k+1)):=by rw[zLk h hE hT hk hk,zE7 h hE hT (by omega) h2,←zIF h hE hT hk pN tu,kT h hE hT (by omega) cx,uG tu]
 have e2:adK m.Prime D (x.zA.length-(k+1)) (mul (suf (exx D x m T) (k+1)) (pw (mul (suf (exx D x m T) (k+1))) (zeros (suf (exx D x m T) (k+1)).length) ((lvl (exx D x m T) k).cs.getD (j-(k+1)) []) (yL x j-1)) ((lcj x k j).drop (k+1)++zeros D)) (xY m.Prime D (T.getD (base x.zA.length k+(j-(k+1))) []) (wM m.Prime D m.zF [] (idM D)))=pw (mul (suf (exx D x m T) (k+1))) (zeros (suf (exx D x m T) (k+1)).length) ((lvl (exx D x m T) k).cs.getD (j-(k+1)) []) (at0 (exx D x m T).zA j).toNat:=by
  rw[show wM m.Prime D m.zF [] (idM D)=idM D from rfl,jZ ew,←zNb h hE hT hk hc cK ew uh,←c2,tK h hE hT h2,show(at0 x.zA j).toNat=(yL x j-1)+1 from by show _=(at0 x.zA j).toNat-1+1;omega]
  conv=>rhs;rw[pw,vL]
  rfl
 have fR:V (suf (exx D x m T) (k+1)) (((exx D x m T).zV.getD j []).drop (k+1)):=by rw[zE7 h hE hT (by omega) h2];exact zDM h hE hT (by omega) cx tu
 have:=zHh h hE hT hk hc k1 k2 (r1:=j) (r2:=base x.zA.length k+(j-(k+1))) (s1:=[k]) (s2:=[]) (zAQ h hE hT hk pN) (xJ gB uh cK) v1 v2 (by rw[e1,e2,zE9 h hE hT hk fR,zID h hE hT hk (by omega) h2,zYJ h hE hT (by omega) hcV,zKg h hE hT hk h1 h2,tK h hE hT h2];exact(hL.c1 j h1 h2).symm)
 rw[e1,e2]at this;rw[this];exact eq_comm
theorem zYS(hL:LC x k)(h1:k+1≤i)(gR:i<j)(h2:j<x.zA.length)(k1:qU x k (i::(nw 0 (lcj x i j)++[k])) t1 y1)(k2:qU x k (j::k::nw 0 (lcj x k i)) t2 y2):
  tv m.Prime D m T ((base x.zA.length i+(j-(i+1)),[k])::t1)=tv m.Prime D m T ((base x.zA.length k+(i-(k+1)),[])::t2)↔c2E (exx D x m T) k i j:=by
 have hp:=hE.m.p.pos;have ho:=(h.os.2 k hk).pos;have hi:=(h.os.2 i (by omega)).pos;have bi:=uI h gR h2;have bW:=zLl bi (show k≤i by omega);have aJ:V (suf x (k+1)) ((lcj x i j).drop (k+1)):=kG bW hk;have hci:V (suf x (i+1)) ((lcj x i j).drop (i+1)):=kG bi (by omega);have hn:=tE h bW hk;have hni:=tE h bi (by omega);have tw:=zEb h hE hT gR h2;have dn:=zDM h hE hT (k:=k+1) (by omega) aJ (xQ (p:=m.Prime) (D:=D) (by omega));obtain⟨c1,c2,c3,c4⟩:=csE h hE hT hk hc h1 (show i<x.zA.length by omega);have cK:=zDM h hE hT (k:=k+1) (by omega) c1 (xQ (p:=m.Prime) (D:=D) (by omega));have ct:=zNf h hE hT hk h1 (show i<x.zA.length by omega);have mc:=zNf h hE hT hk (show k+1≤j by omega) h2;have ew:=zEb h hE hT (show k<i by omega) (show i<x.zA.length by omega);have gB:=uK h hE hT (k:=k+1) (by omega);obtain⟨u1,u2,u3⟩:=zOS h hE hT hk hc h1 (show i<x.zA.length by omega) (b:=1) (by omega) (by omega) hci;rw[←hni.1,show J1 (1:Int).toNat i++nw 0 (lcj x i j)=i::nw 0 (lcj x i j)from rfl]at u2 u3;have hr:∀a∈i::nw 0 (lcj x i j),k+1≤a∧a<x.zA.length:=fun a ha=>by
  simp only[J7]at ha;rcases ha with rfl|ha
  ·omega
  ·exact hn.2 a ha
 have v1:=zEC h hE hT hk hc hr (z:=[]);have es:sig (suf (exx D x m T) (k+1)) (lvl (exx D x m T) k) (fo (exx D x m T) (k+1) (zeros ((exx D x m T).zA.length-(k+1))) (i::nw 0 (lcj x i j)))=mul (suf (exx D x m T) (k+1)) ((lvl (exx D x m T) k).cs.getD (i-(k+1)) []) (sig (suf (exx D x m T) (k+1)) (lvl (exx D x m T) k) ((lcj x i j).drop (k+1)++zeros D)):=by rw[u3,zF3 h hE hT hk u1,u2,G6,zQC h hE hT hk hc ct,zF3 h hE hT hk aJ,←hn.1];have:=zNg h hE hT hk hc hn.2 ct (zOP h hE hT (k:=k+1) (by omega));rw[yAp h hE hT (by omega) ct]at this;exact this
 rw[es]at v1;have v2:=zEC h hE hT hk hc (v:=[j]) (fun a ha=>by simp only[List.mem_singleton]at ha;omega) (z:=nw 0 (lcj x k i));obtain⟨g1,g2⟩:=zQD h hE hT hk hc (show k+1≤j by omega) h2;rw[g1,g2,zIK h hE hT hk hc (by omega) _ _ c4,zIL h hE hT hk hc c4 mc,c3]at v2;have p5:=zAQ h hE hT hk dn;have fw:((((exx D x m T).zG.getD i []).getD (j-(i+1)) []).drop (k+1))=adK m.Prime D (x.zA.length-(k+1)) ((lcj x i j).drop (k+1)++zeros D) (T.getD (base x.zA.length i+(j-(i+1))) []):=by rw[zGq h hE hT (by omega) gR h2,kT h hE hT (by omega) aJ,uG tw]
 have e1:adK m.Prime D (x.zA.length-(k+1)) (mul (suf (exx D x m T) (k+1)) ((lvl (exx D x m T) k).cs.getD (i-(k+1)) []) (sig (suf (exx D x m T) (k+1)) (lvl (exx D x m T) k) ((lcj x i j).drop (k+1)++zeros D))) (xY m.Prime D (T.getD (base x.zA.length i+(j-(i+1))) []) (wM m.Prime D m.zF [k] (idM D)))=mul (suf (exx D x m T) (k+1)) ((lvl (exx D x m T) k).cs.getD (i-(k+1)) []) (sig (suf (exx D x m T) (k+1)) (lvl (exx D x m T) k) ((((exx D x m T).zG.getD i []).getD (j-(i+1)) []).drop (k+1))):=by rw[zLk h hE hT hk hk,←zNb h hE hT hk hc p5 (vG (by omega)) ct,←zIF h hE hT hk dn tw,←fw]
 have e2:adK m.Prime D (x.zA.length-(k+1)) (mul (suf (exx D x m T) (k+1)) ((lvl (exx D x m T) k).cs.getD (j-(k+1)) []) ((lcj x k i).drop (k+1)++zeros D)) (xY m.Prime D (T.getD (base x.zA.length k+(i-(k+1))) []) (wM m.Prime D m.zF [] (idM D)))=mul (suf (exx D x m T) (k+1)) ((lvl (exx D x m T) k).cs.getD (j-(k+1)) []) ((lvl (exx D x m T) k).cs.getD (i-(k+1)) []):=by rw[show wM m.Prime D m.zF [] (idM D)=idM D from rfl,jZ ew,←zNb h hE hT hk hc cK ew mc,←c2]
 have aL:V (suf (exx D x m T) (k+1)) ((((exx D x m T).zG.getD i []).getD (j-(i+1)) []).drop (k+1)):=by rw[fw];exact yAq h hE hT (by omega) dn
 have:=zHh h hE hT hk hc k1 k2 (r1:=base x.zA.length i+(j-(i+1))) (r2:=base x.zA.length k+(i-(k+1))) (s1:=[k]) (s2:=[]) (xJ gB ct p5) (xJ gB mc cK) v1 v2 (by rw[e1,e2,zCu h hE hT (by omega) ct (zAQ h hE hT hk aL),zCu h hE hT (by omega) mc ct,zE9 h hE hT hk aL,zKg h hE hT hk h1 (by omega),zKg h hE hT hk (by omega) h2,zUo h hE hT hk h1 gR h2];exact(hL.c2 i h1 (by omega) j (by omega) h2).symm)
 rw[e1,e2]at this;rw[this];exact eq_comm
end
section
variable {D:Nat}{x:SPr}{m:zB}{T:Mx} (h:Pres x) (hE:ExB x.zA.length D x m T) (hT:∀i,i<T.length→Row m.Prime D (T.getD i []))
 include h hE hT
variable {k:Nat} (hk:k<x.zA.length) (hc:wN (suf (exx D x m T) (k+1)))
 include hk hc
 omit hc in
theorem zOT:∀(q:Nat){e:Vec},V (suf (exx D x m T) (k+1)) e→V (suf (exx D x m T) (k+1)) (iter q (sig (suf (exx D x m T) (k+1)) (lvl (exx D x m T) k)) e)
  |0,_,he=>he
  |q+1,_,he=>zOT q (zAQ h hE hT hk he)
 omit hc in
theorem zYT:∀(q:Nat){e d:Vec},V (suf (exx D x m T) (k+1)) e→Row m.Prime D d→iter q (sig (suf (exx D x m T) (k+1)) (lvl (exx D x m T) k)) (adK m.Prime D (x.zA.length-(k+1)) e d)=adK m.Prime D (x.zA.length-(k+1)) (iter q (sig (suf (exx D x m T) (k+1)) (lvl (exx D x m T) k)) e) (xY m.Prime D d (wM m.Prime D m.zF (J1 q k) (idM D)))
  |0,e,d,_,hd=>by show adK _ _ _ e d=adK _ _ _ e (xY m.Prime D d (idM D));rw[jZ hd]
  |q+1,e,d,he,hd=>by have hp:=hE.m.p.pos;show iter q _ (sig _ _ (adK _ _ _ e d))=adK _ _ _ (iter q _ (sig _ _ e)) _;rw[zIF h hE hT hk he hd,zYT q (zAQ h hE hT hk he) (vG (by omega)),Jq,show k::J1 q k=[k]++J1 q k from rfl,zF2 (by omega),zLk h hE hT hk hk]
theorem zU0:∀(q:Nat){c:Int}{e:Vec},0≤c→c+(q:Int)<at0 x.zA k→V (suf (exx D x m T) (k+1)) e→fo (exx D x m T) k (c::e) (J1 q k)=(c+(q:Int))::iter q (sig (suf (exx D x m T) (k+1)) (lvl (exx D x m T) k)) e
 |0,c,e,_,_,_=>by show c::e=(c+((0:Nat):Int))::e;simp
 |q+1,c,e,h0,h1,he=>by
  rw[Jq,sS,zGK h hE hT hk hc he,if_neg (by omega),zU0 q (by omega) (by omega) (zAQ h hE hT hk he)]
  grind[iter]
theorem zYU(hL:LC x k)(h1:k+1≤j)(h2:j<x.zA.length)(k1:qU x k (k::(nw 0 (lcj x k j)++J1 (yL x k-1) k)) t1 y1)(k2:qU x k (j::nw 0 (x.zV.getD k [])) t2 y2):
  tv m.Prime D m T ((base x.zA.length k+(j-(k+1)),J1 (yL x k-1) k)::t1)=tv m.Prime D m T ((k,[])::t2)↔c4E (exx D x m T) k j:=by
 have hp:=hE.m.p.pos;have ho:=(h.os.2 k hk).pos;have hon:(yL x k:Int)=at0 x.zA k:=by grind
 obtain⟨w1,w2,w3,w4⟩:=wE h hE hT hk hc;have pN:=zDM h hE hT (k:=k+1) (by omega) w1 (xQ (p:=m.Prime) (D:=D) (by omega));have c7:=zRJ h hE hT hk;have ew:=zCs h hE hT hk;obtain⟨c1,c2,c3,c4⟩:=csE h hE hT hk hc h1 h2;have cK:=zDM h hE hT (k:=k+1) (by omega) c1 (xQ (p:=m.Prime) (D:=D) (by omega));have tu:=zEb h hE hT (show k<j by omega) h2;have gB:=uK h hE hT (k:=k+1) (by omega);have hg:=zDm h hE hT h1 h2;obtain⟨g1,g2⟩:=zQD h hE hT hk hc h1 h2;have hz:fo (exx D x m T) (k+1) (zeros ((exx D x m T).zA.length-(k+1))) []=zeros ((exx D x m T).zA.length-(k+1)):=rfl;have hs:sig (suf (exx D x m T) (k+1)) (lvl (exx D x m T) k) (zeros ((exx D x m T).zA.length-(k+1)))=zeros ((exx D x m T).zA.length-(k+1)):=by grind[sig,qK,yS]
 have hl:=wG h hE hT;have v1:=zEC h hE hT hk hc (v:=[]) (by simp) (z:=nw 0 (lcj x k j)++J1 (yL x k-1) k);rw[hz,hs]at v1;have v0:=v1.trans (zDl (e:=exx D x m T) (k:=k) (u:=(1:Int)::zeros ((exx D x m T).zA.length-(k+1))) (v:=nw 0 (lcj x k j)) (w:=J1 (yL x k-1) k));rw[zIK h hE hT hk hc (by omega) _ _ c4,c3]at v0;have eh:=zOT h hE hT hk (yL x k-2) cK;have v1':fo (exx D x m T) k (zeros ((exx D x m T).zA.length-k)) (k::(nw 0 (lcj x k j)++J1 (yL x k-1) k))=0::mul (suf (exx D x m T) (k+1)) (lvl (exx D x m T) k).w (iter (yL x k-1) (sig (suf (exx D x m T) (k+1)) (lvl (exx D x m T) k)) ((lcj x k j).drop (k+1)++zeros D)):=by
  refine v0.trans ?_;rw[show yL x k-1=(yL x k-2)+1 from by omega,Lo,zDl,zU0 h hE hT hk hc (yL x k-2) (by omega) (by omega) cK];show mul _ _ _=_;rw[zGK h hE hT hk hc eh,if_pos (by omega),vL]
  grind
 have hr:∀a∈j::nw 0 (x.zV.getD k []),k+1≤a∧a<x.zA.length:=by grind
 have v2:fo (exx D x m T) k (zeros ((exx D x m T).zA.length-k)) (j::nw 0 (x.zV.getD k []))=0::mul (suf (exx D x m T) (k+1)) (xP ((exx D x m T).zA.length-(k+1)) (j-(k+1))) ((x.zV.getD k []).drop (k+1)++zeros D):=by rw[show zeros ((exx D x m T).zA.length-k)=0::zeros ((exx D x m T).zA.length-(k+1))from by rw[show(exx D x m T).zA.length-k=(exx D x m T).zA.length-(k+1)+1 from by omega];rfl,zIK h hE hT hk hc (by omega) _ _ hr,sS,zQC h hE hT hk hc hg,zIL h hE hT hk hc w4 hg,w3]
 have e1:adK m.Prime D (x.zA.length-(k+1)) (mul (suf (exx D x m T) (k+1)) (lvl (exx D x m T) k).w (iter (yL x k-1) (sig (suf (exx D x m T) (k+1)) (lvl (exx D x m T) k)) ((lcj x k j).drop (k+1)++zeros D))) (xY m.Prime D (T.getD (base x.zA.length k+(j-(k+1))) []) (wM m.Prime D m.zF (J1 (yL x k-1) k) (idM D)))=mul (suf (exx D x m T) (k+1)) (lvl (exx D x m T) k).w (iter (lvl (exx D x m T) k).o.toNat (sig (suf (exx D x m T) (k+1)) (lvl (exx D x m T) k)) (xP ((exx D x m T).zA.length-(k+1)) (j-(k+1)))):=by rw[←zNb h hE hT hk hc (zOT h hE hT hk _ cK) (vG (by omega)) c7,←zYT h hE hT hk _ cK tu,←c2,←g2,zBK h hE hT hk,show(at0 x.zA k).toNat=(yL x k-1)+1 from by omega];rfl
 have e2:adK m.Prime D (x.zA.length-(k+1)) (mul (suf (exx D x m T) (k+1)) (xP ((exx D x m T).zA.length-(k+1)) (j-(k+1))) ((x.zV.getD k []).drop (k+1)++zeros D)) (xY m.Prime D (T.getD k []) (wM m.Prime D m.zF [] (idM D)))=mul (suf (exx D x m T) (k+1)) (xP ((exx D x m T).zA.length-(k+1)) (j-(k+1))) (lvl (exx D x m T) k).w:=by rw[show wM m.Prime D m.zF [] (idM D)=idM D from rfl,jZ ew,←zNb h hE hT hk hc pN ew hg,←w2]
 have dB:(lvl (exx D x m T) k).w.take (x.zA.length-(k+1))=(lvl x k).w:=zID h hE hT hk (Jh k) hk;have fC:(xP (x.zA.length-(k+1)) (j-(k+1))).length=x.zA.length-(k+1):=by simp[xP,zeros]
 have:=zHh h hE hT hk hc k1 k2 (r1:=base x.zA.length k+(j-(k+1))) (r2:=k) (s1:=J1 (yL x k-1) k) (s2:=[]) (xJ gB c7 (zOT h hE hT hk _ cK)) (xJ gB hg pN) v1' v2 (by rw[e1,e2,zCu h hE hT (by omega) c7 (zOT h hE hT hk _ hg),zCu h hE hT (by omega) hg c7,zLe h hE hT hk _ hg,dB,zUp h hE hT hk h1 h2,Jo fC,zBK h hE hT hk];exact hL.c4 j h1 h2)
 rw[e1,e2]at this;exact this
end
structure zLm (x:SPr) (k:Nat) (r1:Nat) (s1 w1:List Nat) (r2:Nat) (s2 w2:List Nat) (t1 t2:List (Nat×List Nat)):Prop where
 a:∃u1 y1,t1=(r1,s1)::u1∧qU x k w1 u1 y1
 b:∃u2 y2,t2=(r2,s2)::u2∧qU x k w2 u2 y2
structure zYV (x:SPr) (D:Nat) (m:zB) (T:Mx):Prop where
 p1:∀k j,k<j→j<x.zA.length→ ∀t1 t2,zLm x k j [k] (nw 0 (x.zV.getD j [])++[k]) (base x.zA.length k+(j-(k+1))) [] (J1 (yL x j-1) j++k::nw 0 (lcj x k j)) t1 t2→tv m.Prime D m T t1=tv m.Prime D m T t2
 p2:∀k i j,k<i→i<j→j<x.zA.length→ ∀t1 t2,zLm x k (base x.zA.length i+(j-(i+1))) [k] (i::(nw 0 (lcj x i j)++[k])) (base x.zA.length k+(i-(k+1))) [] (j::k::nw 0 (lcj x k i)) t1 t2→tv m.Prime D m T t1=tv m.Prime D m T t2
 p3:∀k,k<x.zA.length→ ∀t1 t2,zLm x k k [k] (nw 0 (x.zV.getD k [])++[k]) k [] (k::nw 0 (x.zV.getD k [])) t1 t2→tv m.Prime D m T t1=tv m.Prime D m T t2
 p4:∀k j,k<j→j<x.zA.length→ ∀t1 t2,zLm x k (base x.zA.length k+(j-(k+1))) (J1 (yL x k-1) k) (k::(nw 0 (lcj x k j)++J1 (yL x k-1) k)) k [] (j::nw 0 (x.zV.getD k [])) t1 t2→tv m.Prime D m T t1=tv m.Prime D m T t2
section
variable {D:Nat}{x:SPr}{m:zB}{T:Mx} (h:Pres x) (hE:ExB x.zA.length D x m T) (hT:∀i,i<T.length→Row m.Prime D (T.getD i []))
 include h hE hT
theorem zKh(hk:k<x.zA.length)(hL:LC x k)(hc:wN (suf (exx D x m T) (k+1))):LCn x (exx D x m T) k↔
  (∀j,k<j→j<x.zA.length→ ∀t1 t2,zLm x k j [k] (nw 0 (x.zV.getD j [])++[k]) (base x.zA.length k+(j-(k+1))) [] (J1 (yL x j-1) j++k::nw 0 (lcj x k j)) t1 t2→tv m.Prime D m T t1=tv m.Prime D m T t2)∧
  (∀i j,k<i→i<j→j<x.zA.length→ ∀t1 t2,zLm x k (base x.zA.length i+(j-(i+1))) [k] (i::(nw 0 (lcj x i j)++[k])) (base x.zA.length k+(i-(k+1))) [] (j::k::nw 0 (lcj x k i)) t1 t2→tv m.Prime D m T t1=tv m.Prime D m T t2)∧
  (∀t1 t2,zLm x k k [k] (nw 0 (x.zV.getD k [])++[k]) k [] (k::nw 0 (x.zV.getD k [])) t1 t2→tv m.Prime D m T t1=tv m.Prime D m T t2)∧
  (∀j,k<j→j<x.zA.length→ ∀t1 t2,zLm x k (base x.zA.length k+(j-(k+1))) (J1 (yL x k-1) k) (k::(nw 0 (lcj x k j)++J1 (yL x k-1) k)) k [] (j::nw 0 (x.zV.getD k [])) t1 t2→tv m.Prime D m T t1=tv m.Prime D m T t2):=by
 have hC:=fun(w:List Nat)(hw:∀a∈w,k≤a∧a<x.zA.length)=>zXv h (x.zA.length-k) k (by omega) w hw
 have fw:∀i j,i<j→j<x.zA.length→ ∀a∈nw 0 (lcj x i j),i+1≤a∧a<x.zA.length:=fun i j hi hj=>(tE h (uI h hi hj) (by omega)).2
 have fR:∀i,i<x.zA.length→ ∀a∈nw 0 (x.zV.getD i []),i+1≤a∧a<x.zA.length:=fun i hi=>(tE h (qN h hi) hi).2
 constructor
 ·intro g
  refine⟨?_,?_,?_,?_⟩
  ·rintro j h1 h2 t1 t2 ⟨⟨u1,y1,rfl,k1⟩,⟨u2,y2,rfl,k2⟩⟩
   exact(zYR h hE hT hk hc hL (by omega) h2 k1 k2).2 (g.c1 j (by omega) h2)
  ·rintro i j h1 gR h2 t1 t2 ⟨⟨u1,y1,rfl,k1⟩,⟨u2,y2,rfl,k2⟩⟩
   exact(zYS h hE hT hk hc hL (by omega) gR h2 k1 k2).2 (g.c2 i (by omega) (by omega) j (by omega) h2)
  ·rintro t1 t2 ⟨⟨u1,y1,rfl,k1⟩,⟨u2,y2,rfl,k2⟩⟩
   exact(zYO h hE hT hk hc hL k1 k2).2 g.c3
  ·rintro j h1 h2 t1 t2 ⟨⟨u1,y1,rfl,k1⟩,⟨u2,y2,rfl,k2⟩⟩
   exact(zYU h hE hT hk hc hL (by omega) h2 k1 k2).2 (g.c4 j (by omega) h2)
 ·rintro⟨g1,g2,g3,g4⟩
  refine⟨fun j h1 h2=>?_,fun i h1 hi j gR h2=>?_,?_,fun j h1 h2=>?_⟩
  ·obtain⟨u1,y1,k1⟩:=hC (nw 0 (x.zV.getD j [])++[k]) (fun a ha=>by
    simp only[Jd,List.mem_singleton]at ha;rcases ha with ha|rfl
    ·grind
    ·omega)
   obtain⟨u2,y2,k2⟩:=hC (J1 (yL x j-1) j++k::nw 0 (lcj x k j)) (fun a ha=>by
    simp only[Jd,J7]at ha;rcases ha with ha|rfl|ha
    ·grind
    ·omega
    grind)
   exact(zYR h hE hT hk hc hL h1 h2 k1 k2).1 (g1 j (by omega) h2 _ _ ⟨⟨u1,y1,rfl,k1⟩,⟨u2,y2,rfl,k2⟩⟩)
  ·obtain⟨u1,y1,k1⟩:=hC (i::(nw 0 (lcj x i j)++[k])) (fun a ha=>by
    simp only[Jd,J7,Ut,or_false]at ha;rcases ha with rfl|ha|rfl
    ·omega
    ·grind
    ·omega)
   obtain⟨u2,y2,k2⟩:=hC (j::k::nw 0 (lcj x k i)) (fun a ha=>by
    simp only[J7]at ha;rcases ha with rfl|rfl|ha
    ·omega
    ·omega
    grind)
   exact(zYS h hE hT hk hc hL h1 (by omega) h2 k1 k2).1 (g2 i j (by omega) (by omega) h2 _ _ ⟨⟨u1,y1,rfl,k1⟩,⟨u2,y2,rfl,k2⟩⟩)
  ·obtain⟨u1,y1,k1⟩:=hC (nw 0 (x.zV.getD k [])++[k]) (fun a ha=>by
    simp only[Jd,List.mem_singleton]at ha;rcases ha with ha|rfl
    ·grind
    ·omega)
   obtain⟨u2,y2,k2⟩:=hC (k::nw 0 (x.zV.getD k [])) (fun a ha=>by
    simp only[J7]at ha;rcases ha with rfl|ha
    ·omega
    grind)
   exact(zYO h hE hT hk hc hL k1 k2).1 (g3 _ _ ⟨⟨u1,y1,rfl,k1⟩,⟨u2,y2,rfl,k2⟩⟩)
  ·obtain⟨u1,y1,k1⟩:=hC (k::(nw 0 (lcj x k j)++J1 (yL x k-1) k)) (fun a ha=>by
    simp only[Jd,J7]at ha;rcases ha with rfl|ha|ha
    ·omega
    ·grind
    grind)
   obtain⟨u2,y2,k2⟩:=hC (j::nw 0 (x.zV.getD k [])) (fun a ha=>by
    simp only[J7]at ha;rcases ha with rfl|ha
    ·omega
    grind)
   exact(zYU h hE hT hk hc hL h1 h2 k1 k2).1 (g4 j (by omega) h2 _ _ ⟨⟨u1,y1,rfl,k1⟩,⟨u2,y2,rfl,k2⟩⟩)
theorem zRL(hx:wN (suf x 0))(hr:zC6 x m D):zYV x D m T↔wN (suf (exx D x m T) 0):=by
 have hl:=wG h hE hT;have ba:∀k,k<x.zA.length→LC x k:=fun k hk=>((zAk h.w hk).1 (zAC hx k)).2
 constructor
 ·intro g
  have key:∀(d k:Nat),k+d=x.zA.length→wN (suf (exx D x m T) k):=by
   intro d
   induction d with
   |zero=>grind[zIB]
   |succ d ih=>
    intro k hk;have hc:=ih (k+1) (by omega);refine(zAk (zFv h hE hT) (by omega)).2 ⟨hc,zUj h hE hT hr (by omega) ((zKh h hE hT (by omega) (ba k (by omega)) hc).2 ⟨?_,?_,?_,?_⟩)⟩
    ·exact fun j h1 h2 t1 t2 b=>g.p1 k j h1 h2 t1 t2 b
    ·exact fun i j h1 gR h2 t1 t2 b=>g.p2 k i j h1 gR h2 t1 t2 b
    ·exact fun t1 t2 b=>g.p3 k (by omega) t1 t2 b
    ·exact fun j h1 h2 t1 t2 b=>g.p4 k j h1 h2 t1 t2 b
  simp_all
 ·intro g
  have g0:=(zLb h hE hT hr).1 g;have hck:∀k,k<x.zA.length→wN (suf (exx D x m T) (k+1)):=by grind[zAC]
  have key:=fun k(hk:k<x.zA.length)=>(zKh h hE hT hk (ba k hk) (hck k hk)).1 (g0 k hk)
  exact⟨fun k j h1 h2=>(key k (by omega)).1 j h1 h2,fun k i j h1 gR h2=>(key k (by omega)).2.1 i j h1 gR h2,fun k hk=>(key k hk).2.2.1,fun k j h1 h2=>(key k (by omega)).2.2.2 j h1 h2⟩
end
theorem Col.det{x:SPr}{k':Nat}{w:List Nat}(h1:Col x k w t1 w1)(h2:Col x k' w t2 w2)(n1:stS x w1=iG)(n2:stS x w2=iG):t1=t2∧w1=w2:=by
 induction h1 generalizing t2 with
 |refl w=>
  cases h2 with
  |refl=>simp
  |step _ hs _=>grind
 |step hw hs hc ih=>
  cases h2 with
  |refl=>grind
  |step _ pO fH=>
   grind
structure Fh (n D D2:Nat) (m m2:zB) (T T2:Mx) (φ:Vec→Vec):Prop where
 pr:m2.Prime=m.Prime
 row:∀u,Row m.Prime D u→Row m.Prime D2 (φ u)
 z:φ (zeros D)=zeros D2
 add:∀u v,Row m.Prime D u→Row m.Prime D v→φ (adv m.Prime D u v)=adv m.Prime D2 (φ u) (φ v)
 act:∀k,k<n→ ∀u,Row m.Prime D u→φ (xY m.Prime D u (m.zF.getD k []))=xY m.Prime D2 (φ u) (m2.zF.getD k [])
 t:∀r,r<base n n→φ (T.getD r [])=T2.getD r []
def Fm(φ:Vec→Vec)(N:Nat)(e:Vec):Vec:=e.take N++φ (e.drop N)
theorem zAR{φ:Vec→Vec}{u:Vec}(hy:y.length=N):Fm φ N (y++u)=y++φ u:=by grind[Fm]
theorem zHi{φ:Vec→Vec}{b:Int}:Fm φ (N+1) (b::e)=b::Fm φ N e:=by rfl
section
variable {D D2:Nat}{x:SPr}{m m2:zB}{T T2:Mx}{φ:Vec→Vec} (h:Pres x) (hE:ExB x.zA.length D x m T) (hT:∀i,i<T.length→Row m.Prime D (T.getD i [])) (gQ:ExB x.zA.length D2 x m2 T2) (hJ:∀i,i<T2.length→Row m2.Prime D2 (T2.getD i [])) (hF:Fh x.zA.length D D2 m m2 T T2 φ)
 include h hE hT gQ hJ hF
theorem yCw(hk:k≤x.zA.length):Fm φ (x.zA.length-k) (zeros (suf (exx D x m T) k).length)=zeros (suf (exx D2 x m2 T2) k).length:=by rw[zBu h hE hT hk,zBu h gQ hJ hk,zAR (yC _),hF.z]
theorem zQE(h1:k+1≤j)(h2:j<x.zA.length):Fm φ (x.zA.length-(k+1)) ((lvl (exx D x m T) k).cs.getD (j-(k+1)) [])=(lvl (exx D2 x m2 T2) k).cs.getD (j-(k+1)) []:=by
 have hn:=hE.hn;have hb:=zBf x.zA.length (by omega) k (by omega);have gC:V (suf x (k+1)) ((lcj x k j).drop (k+1)):=by grind[kG,uI]
 rw[zI9 h hE hT (by omega) h1 h2,zI9 h gQ hJ (by omega) h1 h2,show(lvl x k).cs.getD (j-(k+1)) []=(lcj x k j).drop (k+1)from map_drop,zAR (vJ h (by omega) gC),hF.t _ (by omega)]
theorem yAs(hk:k<x.zA.length):Fm φ (x.zA.length-(k+1)) (lvl (exx D x m T) k).w=(lvl (exx D2 x m2 T2) k).w:=by have hn:=hE.hn;have hb:=wT x.zA.length (by omega);have cx:V (suf x (k+1)) ((x.zV.getD k []).drop (k+1)):=kG (qN h hk) hk;rw[zI5 h hE hT hk,zI5 h gQ hJ hk,show(lvl x k).w=(x.zV.getD k []).drop (k+1)from rfl,zAR (vJ h (by omega) cx),hF.t _ (by omega)]
theorem zU1(hk:k<x.zA.length)(ih:∀a b,V (suf (exx D x m T) (k+1)) a→V (suf (exx D x m T) (k+1)) b→Fm φ (x.zA.length-(k+1)) (mul (suf (exx D x m T) (k+1)) a b)=mul (suf (exx D2 x m2 T2) (k+1)) (Fm φ (x.zA.length-(k+1)) a) (Fm φ (x.zA.length-(k+1)) b)){v:Vec}(hv:V (suf (exx D x m T) (k+1)) v):
  Fm φ (x.zA.length-(k+1)) (sig (suf (exx D x m T) (k+1)) (lvl (exx D x m T) k) v)=sig (suf (exx D2 x m2 T2) (k+1)) (lvl (exx D2 x m2 T2) k) (Fm φ (x.zA.length-(k+1)) v):=by
 have hp:=hE.m.p.pos;have ok:=uK h hE hT (k:=k+1) (by omega);obtain⟨y,u,rfl,hy,hu⟩:=(sQ h hE hT (x.zA.length-(k+1)) (k+1) (by omega) _).1 hv;have e7:=vJ h (by omega) hy;have cZ:Row m2.Prime D2 (φ u):=by rw[hF.pr];exact hF.row u hu
 have hsg:Fm φ (x.zA.length-(k+1)) (sgG D x m T k y)=sgG D2 x m2 T2 k y:=by
  unfold sgG;rw[zFw (S:=V (suf (exx D x m T) (k+1))) (n:=mul (suf (exx D2 x m2 T2) (k+1))) (Fm φ (x.zA.length-(k+1))) (fun a b=>xJ ok) ih _ _ _ (zQ3 h hE hT hk) (wS ok),yCw h hE hT gQ hJ hF (by omega)]
  congr 1
  apply Gx
  ·grind[jD]
  ·intro i h1 h2
   rw[Jt,jD h hE hT]at h1;have e1:(eC1 x T k)[i]'(by grind)=(lvl (exx D x m T) k).cs.getD (k+1+i-(k+1)) []:=by rw[show k+1+i-(k+1)=i from by omega,zCq h hE hT hk,J3,Kn (by grind),J5 (by rw[jD h hE hT];exact h1)];rfl
   have e2:(eC1 x T2 k)[i]'h2=(lvl (exx D2 x m2 T2) k).cs.getD (k+1+i-(k+1)) []:=by rw[show k+1+i-(k+1)=i from by omega,zCq h gQ hJ hk,J3,Kn h2,J5 h2];rfl
   rw[List.getElem_map,e1,e2,zQE h hE hT gQ hJ hF (by omega) (by omega)]
 obtain⟨y1,u1,e,fb,cC⟩:=(sQ h hE hT (x.zA.length-(k+1)) (k+1) (by omega) _).1 (zI7 h hE hT hk (y:=y));have gK:=vJ h (by omega) fb;rw[e,zAR gK]at hsg;rw[zCr h hE hT hk hy hu,e,Jo gK,Jz gK,zAR gK,zAR e7,zCr h gQ hJ hk hy cZ,←hsg,Jo gK,Jz gK,hF.pr,hF.add _ _ cC (vG (by omega)),hF.act k hk u hu]
theorem zLn{k:Nat}(hk:k<x.zA.length)(ih:∀a b,V (suf (exx D x m T) (k+1)) a→V (suf (exx D x m T) (k+1)) b→Fm φ (x.zA.length-(k+1)) (mul (suf (exx D x m T) (k+1)) a b)=mul (suf (exx D2 x m2 T2) (k+1)) (Fm φ (x.zA.length-(k+1)) a) (Fm φ (x.zA.length-(k+1)) b)):∀(q:Nat){v:Vec},V (suf (exx D x m T) (k+1)) v→
  Fm φ (x.zA.length-(k+1)) (iter q (sig (suf (exx D x m T) (k+1)) (lvl (exx D x m T) k)) v)=iter q (sig (suf (exx D2 x m2 T2) (k+1)) (lvl (exx D2 x m2 T2) k)) (Fm φ (x.zA.length-(k+1)) v)
 |0,_,_=>rfl
 |q+1,v,hv=>by show Fm φ _ (iter q _ (sig _ _ v))=iter q _ (sig _ _ (Fm φ _ v));rw[zLn hk ih q (zAQ h hE hT hk hv),zU1 h hE hT gQ hJ hF hk ih hv]
theorem zOU:∀(d k:Nat),k+d=x.zA.length→ ∀a b,V (suf (exx D x m T) k) a→V (suf (exx D x m T) k) b→Fm φ (x.zA.length-k) (mul (suf (exx D x m T) k) a b)=mul (suf (exx D2 x m2 T2) k) (Fm φ (x.zA.length-k) a) (Fm φ (x.zA.length-k) b)
 |0,k,hk,a,b,ha,hb=>by
  have hp:=hE.m.p.pos;have aj:=gQ.m.p.pos;rw[zA7 h hE hT D k (by omega) (by omega)]at ha hb ⊢
  rw[zA7 h gQ hJ D2 k (by omega) (by omega)];have mg:=(zEa _ _).1 ha;have f9:=(zEa _ _).1 hb;have e:∀w:Vec,Fm φ (x.zA.length-k) w=φ w:=fun w=>by rw[Fm,show x.zA.length-k=0 from by omega];rfl
  rw[e,e,e,jC (by omega) D _ _ mg f9,hF.add _ _ mg f9,hF.pr,jC (by omega) D2 _ _ (hF.row _ mg) (hF.row _ f9)]
 |d+1,k,hk,a,b,ha,hb=>by
  have pR:k<x.zA.length:=by omega
  have ih:=zOU d (k+1) (by omega);have hl:=wG h hE hT;have aB:=wG h gQ hJ;have ok:=uK h hE hT (k:=k+1) (by omega);have c7:=zRJ h hE hT pR;rw[yG (x:=exx D x m T) (by omega)]at ha hb ⊢
  rw[yG (x:=exx D2 x m2 T2) (by omega)];cases a with
  |nil=>exact ha.elim
  |cons a u=>
  cases b with
  |nil=>exact hb.elim
  |cons b v=>
   obtain⟨_,ha⟩:=ha;obtain⟨_,hb⟩:=hb;have eh:=zOT h hE hT pR b.toNat ha;have hm:=xJ ok eh hb;rw[show x.zA.length-k=x.zA.length-(k+1)+1 from by omega,zHi,zHi,xD,xD,zBK h hE hT pR,zBK h gQ hJ pR,←zLn h hE hT gQ hJ hF pR ih _ ha,←ih _ _ eh hb]
   by_cases g:a+b≥at0 x.zA k
   ·rw[if_pos g,if_pos g,zHi,ih _ _ c7 hm,yAs h hE hT gQ hJ hF pR]
   ·rw[if_neg g,if_neg g,zHi]
end
end Go.Pl
