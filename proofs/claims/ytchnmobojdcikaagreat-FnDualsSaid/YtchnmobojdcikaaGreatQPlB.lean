/- x -/
import Derived.Test.YtchnmobojdcikaaGreatQPlA
import Derived.Test.YtchnmobojdcikaaGreatQWF
import Derived.Test.YtchnmobojdcikaaGreatQAbB
open List renaming replicate→J1,getD_eq_getElem?_getD→J4,getElem?_eq_getElem→J7,mem_map→Ja,range→Jf,getElem?_append_right→Jg,append_assoc→Jh,length_append→Ji,append_nil→Jk,map_cons→Jl,take_of_length_le→Jn,mem_range→Jp,mem_iff_getElem→Js,all_eq_true→Jt,length_map→Ju,nil_append→Jy,getElem?_replicate→K0,mem_append→K6,getElem?_append→Kg,length_cons→Ki,range_succ→Kj,length_take→Kl,replicate_append_replicate→Kq,getElem_mem→Kz,replicate_succ→L1,getElem?_append_left→L6,length_set→La,length_singleton→Lf,getElem?_drop→Lg,flatten_append→Lh,map_congr_left→Lt,take_zero→Lz,length_drop→H3,length_nil→H7,map_append→Hk,mem_flatten→Hl,drop_of_length_le→Ht,set_append_right→Hx,filter_append→G6,drop_zero→G7,length_replicate→Gg,mem_filter→U4,length_range→U5,getElem?_range→Ur,drop_eq_getElem_cons→Q5,all_eq_false→Q6,ext_getElem→Qc,getElem?_cons_succ→Qy
open Bool renaming and_eq_true→J2,not_true→J5,not_false→Jr
open Int renaming mul_emod→J6,toNat_natCast→J9,emod_emod→Je,emod_eq_emod_iff_emod_sub_eq_zero→Jo,add_emod→Jv,mul_zero→Jw,emod_lt_of_pos→Jx,emod_eq_of_lt→K5,mul_one→K7,emod_nonneg→K8,mul_assoc→K9,mul_comm→Kk,one_mul→Kw,zero_mul→Ld,natCast_mul→Lj,add_zero→Lp,zero_emod→H8,tdiv_eq_ediv_of_nonneg→Hm,sub_eq_add_neg→G8,mul_sub→Gv,sub_zero→Gz,sub_emod_emod→Qd,emod_sub_emod→Qe,tdiv_nonneg→Qj,natCast_add→Qk,tmod_lt_of_pos→Qt,sub_emod→Qz
open Nat renaming zero_add→J8,le_refl→Jd,mul_le_mul→Jj,lt_or_ge→Jm,zero_le→Kd,mul_le_mul_right→Kf,succ_mul→Kx,sub_self→Ky,add_sub_cancel_left→L5,add_assoc→Ll,mul_comm→H5,lt_trichotomy→Gy,lt_of_not_le→Qg,div_lt_of_lt_mul→Qi,eq_zero_or_pos→Qp,sub_zero→Qw
open Option renaming some→Lw,getD_some→Gu
open Prod renaming mk→Ja1
open Option renaming some→dq,none→dt
open Bool renaming true→du,false→dv
namespace Go.Pl
open Go Go.Ab Go.Wk Go.Pc
def Inv(m:zC)(n D:Nat)(R:Mx):Prop:=∀r∈R,∀i,i<n→Sp m.Prime D R (yL m.Prime D r (m.zB.getD i []))
section
variable {n D:Nat}{m:zC} (hm:MOk n m D) (hn:n≤14)
 include hm hn
theorem zNy{R:Mx}{r:List Int}(hr:r∈R){i:Nat}:∀j,i<j→yL m.Prime D r (m.zB.getD i [])∈spA m D R j
 |0,h=>by have _:=hm;have _:=hn;omega
 |j+1,h=>by
  rw[spA,K6]
  by_cases e:i=j
  ·subst e;exact .inr (Ja.2 ⟨r,hr,rfl⟩)
  ·exact .inl (zNy hr j (by omega))
theorem zIc{R:Mx}{pv:Nat→Nat}(hR:Red m.Prime D R pv):∃R2 pv2,Red m.Prime D R2 pv2∧R.length≤R2.length∧(R2.length=R.length↔Inv m n D R)∧zOT m R=if R2.length=R.length then dq (.inr R)else dq (.inl R2):=by
 have h7:=hm.p.pos;have h3:=hm.d3;have pK:R.length≤D:=hR.len_le;have hH:∀r∈R,Row m.Prime D r:=fun r h=>by
  obtain⟨i,hi,rfl⟩:=Js.1 h;have:=hR.row i hi
  grind
 have gM:(zG (zHw m R) (R,0))=dq (spA m D R n):=by
  have:=zQ (body:=zHw m R) (r:=spA m D R n) (fun i=>(spA m D R i,(i:Int))) n (fun i hi=>by
   have hl:=zEa hm hn (R:=R) i;have cW:i*R.length≤14*3:=Jj (by omega) (by omega);unfold zHw;simp only
   rw[hm.len,yE hi,zI,zW [] (by rw[hm.len];exact hi),bs,hm.d,zDZ hm.p h3 (by omega) hR.row (hm.mat i hi),bs,zR (by rw[hl,yU];omega),bs,zH (by omega) (by omega),bs,cs];rfl) (by
   unfold zHw;simp only
   rw[hm.len,wS,zJ])
  exact this
 have hl:=zEa hm hn (R:=R) n;have cW:n*R.length≤14*3:=Jj (by omega) (by omega);have ba:=zEb hm hn (R:=R) (P:=Row m.Prime D) hH (by grind[uK]) n (Jd _);obtain⟨R2,pv2,g1,_,g3,g4⟩:=wG hm.p (n:=D) (by omega) (rows:=spA m D R n) (by omega) (by grind);have pP:∀i,i<R.length→Sp m.Prime D R2 (R.getD i []):=fun i hi=>g4.iff.2 (by grind[zAG,zLS])
 refine⟨R2,pv2,g3,hR.le_of (by omega) g3 pP,⟨fun gm=>?_,fun hI=>?_⟩,?_⟩
 ·have hu:=hR.eq_of (by omega) g3 pP gm.symm
  intro r hr i hi;rw[hu];exact g4.iff.2 (by grind[zAG,zNy])
 ·have ck:∀r∈spA m D R n,Sp m.Prime D R r:=zEb hm hn (R:=R) (P:=Sp m.Prime D R) (fun r h=>zAG h) (fun r h i hi=>hI r h i hi) n (Jd _)
  have:=g3.le_of (by omega) hR fun i hi=>sK (by grind) (g4.1 i hi)
  have:=hR.le_of (by omega) g3 pP;omega
 ·unfold zOT
  rw[qD (by omega) (fun i hi=>by rw[(hR.row i hi).1];omega),bs,gM,bs,g1,bs]
  grind
theorem zKv:∀(d:Nat)(R:Mx)(pv:Nat→Nat),Red m.Prime D R pv→D-R.length≤d→ ∃W,zG (zOT m) R=dq W∧R.length≤W.length∧(W.length=R.length↔Inv m n D R):=by
 intro d
 induction d with
 |zero=>
  intro R pv hR hd;have pK:R.length≤D:=hR.len_le;obtain⟨R2,pv2,g1,g2,g3,g4⟩:=zIc hm hn hR;have h2:R2.length≤D:=g1.len_le;have e:R2.length=R.length:=by omega
  rw[if_pos e]at g4;exact⟨R,by rw[yN,g4],Jd _,by grind⟩
 |succ d ih=>
  intro R pv hR hd;obtain⟨R2,pv2,g1,g2,g3,g4⟩:=zIc hm hn hR
  by_cases e:R2.length=R.length
  ·rw[if_pos e]at g4
   exact⟨R,by rw[yN,g4],Jd _,by grind⟩
  ·rw[if_neg e]at g4
   grind[yN]
end
end Go.Pl

namespace Go.Pl
open Go Go.Ab Go.Wk Go.Pc
theorem zEc{u v:List Int}{j:Nat}:at0 (u++v) j=if j<u.length then at0 u j else at0 v (j-u.length):=by grind
theorem zKw{v:List Int}{c j:Nat}:at0 (v.drop c) j=at0 v (c+j):=by simp
theorem zEd{v:List Int}{c j:Nat}(h:j<c):at0 (v.take c) j=at0 v j:=by grind
theorem zIV{f:Nat→Int}(t:Nat):∀d:Nat,S (t+d) f=S t f+S d (fun i=>f (t+i))
 |0=>by simp[S]
 |d+1=>by rw[←Ll];simp only[S];rw[zIV t d];omega
theorem zW6{f:Nat→Int}{t n:Nat}(ht:t≤n)(h:∀i,i<t→f i=0):S n f=S (n-t) (fun i=>f (t+i)):=by
 have e:n=t+(n-t):=by omega
 conv=>lhs;rw[e,zIV,yC (g:=fun _=>0) h,tF]
 omega
theorem zTt{f:Nat→Int}{t n:Nat}(ht:t≤n)(h:∀i,t≤i→i<n→f i=0):S n f=S t f:=by
 have e:n=t+(n-t):=by omega
 conv=>lhs;rw[e,zIV,yC (f:=fun i=>f (t+i)) (g:=fun _=>0) (by grind),tF]
 omega
theorem yF{F:Nat→List Int}{m i:Nat}(h:i<m):(gl m F).getD i []=F i:=by grind
def ur(N i:Nat):List Int:=mkv N fun j=>if j=i then 1 else 0
def wd(N:Nat)(A:Mx):Mx:=gl N fun i=>A.getD i []++ur N i
def Gr(p:Int)(c N:Nat)(A:Mx)(u:List Int):Prop:=∀j,j<c→at0 u j%p=(S N fun k=>at0 u (c+k)*ent A k j)%p
section
variable {p:Int} (hp:1<p) {c N:Nat}{A:Mx} (hA:∀i,i<N→Row p c (A.getD i []))
 include hA
theorem zBJ:(wd N A).length=N:=by have _:=hA;exact yG
theorem zF6{i j:Nat}(hi:i<N)(hj:j<c):ent (wd N A) i j=ent A i j:=by rw[ent,wd,yF hi,zEc,(hA i hi).1,if_pos hj]
theorem zB4{i l:Nat}(hi:i<N)(hl:l<N):ent (wd N A) i (c+l)=if l=i then 1 else 0:=by
 rw[ent,wd,yF hi,zEc,(hA i hi).1,if_neg (by omega),L5,ur,zK hl]
 include hp
theorem zQ1{i:Nat}(hi:i<N):Row p (c+N) ((wd N A).getD i []):=by
 refine⟨by rw[wd,yF hi,Ji,(hA i hi).1,ur,zO],fun j hj=>?_⟩;rcases Jm j c with g|g
 ·have:=(hA i hi).2 j g
  have e:=zF6 hA hi g
  grind
 ·have e:=zB4 hA (l:=j-c) hi (by omega)
  grind
theorem zYO{u:List Int}:Sp p (c+N) (wd N A) u↔Gr p c N A u:=by
 have _:=hp;constructor
 ·rintro⟨cf,eH⟩ j hj
  rw[zBJ hA]at eH;rw[←eH j (by omega)];refine wY fun k hk=>?_
  have h1:=eH (c+k) (by omega);rw[vH (k:=k) hk (fun i hi gf=>by rw[zB4 hA hi hk,if_neg (Ne.symm gf),Jw]),zB4 hA hk hk,if_pos rfl,K7]at h1;rw[zF6 hA hk hj,J6,h1,←J6]
 ·intro h
  refine⟨fun k=>at0 u (c+k),fun j hj=>?_⟩;rw[zBJ hA];rcases Jm j c with g|g
  ·rw[h j g]
   refine congrArg (· %p) (yC fun k hk=>?_);rw[zF6 hA hk g]
  ·obtain⟨l,rfl⟩:∃l,j=c+l:=⟨j-c,by omega⟩
   rw[vH (k:=l) (by omega) (fun i hi gf=>by rw[zB4 hA hi (by omega),if_neg (Ne.symm gf),Jw]),zB4 hA (by omega) (by omega),if_pos rfl,K7]
variable {W:Mx}{pv:Nat→Nat} (hW:Red p (c+N) W pv) (hs:tQ p (c+N) W (wd N A))
 include hW
theorem zW7:∃t,t≤W.length∧(∀i,i<t→pv i<c)∧ ∀i,t≤i→i<W.length→c≤pv i:=by
 have _:=hA;have _:=hp;obtain⟨t,ht,eK⟩:=zDa (p:=fun t=>W.length≤t∨c≤pv t) ⟨W.length,.inl (Jd _)⟩;have gF:∀i,i<t→i<W.length∧pv i<c:=fun i hi=>by have:=eK i hi;exact⟨Qg fun h=>this (.inl h),Qg fun h=>this (.inr h)⟩
 refine⟨t,Nat.le_of_not_lt fun h=>?_,fun i hi=>(gF i hi).2,fun i hi fD=>?_⟩
 ·have:=(gF W.length h).1;omega
 ·rcases ht with h|h
  ·omega
  ·rcases Jm t i with g|g
   ·have:=hW.mono t i g fD;omega
   ·rw[show i=t from by omega];exact h
def nul(c t:Nat)(W:Mx):Mx:=gl (W.length-t) fun i=>(W.getD (t+i) []).drop c
def lft(c t:Nat)(W:Mx):Mx:=gl t fun i=>(W.getD i []).take c
 omit hp hA hW in
theorem zEe{t i j:Nat}(hi:t+i<W.length):ent (nul c t W) i j=ent W (t+i) (c+j):=by
  rw[ent,nul,yF (by omega),zKw]
 omit hp hA hW in
theorem zF7{t i j:Nat}(hi:i<t)(hj:j<c):ent (lft c t W) i j=ent W i j:=by rw[ent,lft,yF hi,zEd hj]
variable {t:Nat} (ht:t≤W.length) (h1:∀i,i<t→pv i<c) (h2:∀i,t≤i→i<W.length→c≤pv i)
 include ht h1 h2
theorem zTu:Red p N (nul c t W) (fun i=>pv (t+i)-c):=by
 have _:=hp;have _:=hA;have _:=h1;have _:=ht;have hl:(nul c t W).length=W.length-t:=yG;have hpc:∀i,i<W.length-t→c≤pv (t+i):=by grind
 refine⟨fun i hi=>?_,fun i hi=>?_,fun i hi=>?_,fun i hi j hj=>?_,fun i k hi hk gf=>?_,fun i j ev hj=>?_⟩
 ·rw[hl]at hi
  have hr:=hW.row (t+i) (by omega);refine⟨by rw[nul,yF hi,H3,hr.1];omega,fun j hj=>?_⟩;have:=hr.2 (c+j) (by omega)
  grind[nul]
 ·rw[hl]at hi
  have:=hW.lt (t+i) (by omega)
  grind
 ·rw[hl]at hi
  rw[zEe (by omega),show c+(pv (t+i)-c)=pv (t+i)from by grind];exact hW.one _ (by omega)
 ·rw[hl]at hi
  rw[zEe (by omega)];exact hW.low _ (by omega) _ (by omega)
 ·rw[hl]at hi hk
  rw[zEe (by omega),show c+(pv (t+i)-c)=pv (t+i)from by grind];exact hW.off _ _ (by omega) (by omega) (by omega)
 ·rw[hl]at hj
  have:=hW.mono (t+i) (t+j) (by omega) (by omega)
  grind
 include hs
theorem zQ2{u:List Int}:Sp p (c+N) W u↔Gr p c N A u:=by have _:=hW;have _:=ht;have _:=h1;have _:=h2;exact hs.iff.trans (zYO hp hA)
theorem zW8{x:List Int}:Sp p N (nul c t W) x↔ ∀j,j<c→(S N fun k=>at0 x k*ent A k j)%p=0:=by
 have hl:(nul c t W).length=W.length-t:=yG;constructor
 ·rintro⟨cf,eH⟩ j hj
  rw[hl]at eH;have e1:(S N fun k=>at0 x k*ent A k j)%p=(S N fun k=>(S (W.length-t) fun i=>cf i*ent (nul c t W) i k)*ent A k j)%p:=by grind[wY,J6]
  have e2:(S N fun k=>(S (W.length-t) fun i=>cf i*ent (nul c t W) i k)*ent A k j)=S (W.length-t) fun i=>cf i*S N fun k=>ent W (t+i) (c+k)*ent A k j:=by
   rw[yC (g:=fun k=>S (W.length-t) fun i=>cf i*(ent W (t+i) (c+k)*ent A k j)) (fun k hk=>by rw[←zFc];exact yC (by grind[zEe])),zCs]
   grind[vK]
  have e3:(S (W.length-t) fun i=>cf i*S N fun k=>ent W (t+i) (c+k)*ent A k j)%p=(S (W.length-t) fun _=>0)%p:=wY fun i hi=>by have h:=(zQ2 hp hA hW hs ht h1 h2).1 (vU (p:=p) (n:=c+N) (R:=W) (i:=t+i) (by omega)) j hj;have hz:=hW.low (t+i) (by omega) j (by grind);simp only[ent]at hz;rw[hz]at h;rw[J6,show(S N fun k=>ent W (t+i) (c+k)*ent A k j)%p=0 from h.symm,Jw]
  rw[e1,e2,e3,tF];rfl
 ·intro h0
  let u:List Int:=mkv (c+N) fun j=>if j<c then 0 else at0 x (j-c)
  have cH:∀j,j<c→at0 u j=0:=fun j hj=>by rw[zK (by omega),if_pos hj]
  have cG:∀k,k<N→at0 u (c+k)=at0 x k:=fun k hk=>by rw[zK (by omega),if_neg (by omega),L5]
  have hg:Gr p c N A u:=fun j hj=>by rw[cH j hj,yC (g:=fun k=>at0 x k*ent A k j) (by grind),h0 j hj];rfl
  have hx:=hW.expand ((zQ2 hp hA hW hs ht h1 h2).2 hg);refine⟨fun i=>at0 u (pv (t+i)),fun j hj=>?_⟩;have h3:=hx (c+j) (by omega);rw[cG j hj,zW6 ht (by grind)]at h3;rw[hl,h3];exact congrArg (· %p) (yC (by grind[zEe]))
theorem zTv:Red p c (lft c t W) pv:=by
 have _:=hp;have _:=hA;have _:=hs;have _:=h2;have hl:(lft c t W).length=t:=yG;refine⟨fun i hi=>?_,by grind,fun i hi=>?_,fun i hi j hj=>?_,fun i k hi hk gf=>?_,fun i j ev hj=>hW.mono i j ev (by omega)⟩
 ·rw[hl]at hi
  have hr:=hW.row i (by omega);refine⟨by rw[lft,yF hi,Kl,hr.1];omega,fun j hj=>?_⟩;rw[lft,yF hi,zEd hj];exact hr.2 j (by omega)
 ·rw[hl]at hi
  rw[zF7 hi (h1 i hi)];exact hW.one _ (by omega)
 ·rw[hl]at hi
  have:=h1 i hi;rw[zF7 hi (by omega)];exact hW.low _ (by omega) _ hj
 ·rw[hl]at hi hk
  rw[zF7 hk (h1 i hi)];exact hW.off _ _ (by omega) (by omega) gf
theorem zW9(fM:A.length=N):tQ p c (lft c t W) A:=by
 have hl:(lft c t W).length=t:=yG;constructor
 ·intro i hi
  rw[hl]at hi;have hg:=(zQ2 hp hA hW hs ht h1 h2).1 (vU (p:=p) (n:=c+N) (R:=W) (i:=i) (by omega));refine⟨fun k=>ent W i (c+k),fun j hj=>?_⟩;rw[fM,lft,yF hi,zEd hj];exact(hg j hj).symm
 ·intro k hk
  rw[fM]at hk;obtain⟨cf,eH⟩:=hs.2 k (by rw[zBJ hA];exact hk);refine⟨cf,fun j hj=>?_⟩;have h3:=eH j (by omega);have e:=zF6 hA hk hj;simp only[ent]at e;rw[e,zTt ht (fun i g1 g2=>by rw[hW.low i g2 j (by grind),Jw])]at h3;rw[hl,←h3];exact congrArg (· %p) (by grind[yC,zF7])
end
end Go.Pl

namespace Go.Pl
open Go Go.Ab Go.Wk Go.Pc
def zWA(u:zF):Prop:=Prime u.Prime∧ ∃C:Nat,C≤8∧u.yW=(C:Int)∧u.Rows.length≤8∧ ∀i,i<u.Rows.length→Row u.Prime C (u.Rows.getD i [])
theorem zO2{u:zF}:IsB (f_U u) (zWA u):=by
 unfold f_U;rcases zA8 u.Prime with⟨h1,h2⟩|⟨h1,h2⟩
 ·rw[h1,bs,J5,zJ]
  rcases qA u.yW 0 8 with⟨h3,h4⟩|⟨h3,h4⟩
  ·obtain⟨C,hC⟩:∃C:Nat,u.yW=(C:Int):=⟨u.yW.toNat,by omega⟩
   rw[h3,bs,J5,zJ]
   by_cases hl:u.Rows.length≤8
   ·rw[dw (by omega),zJ]
    refine(tO (body:=zKP u) u.Rows.length (fun i=>Row u.Prime C (u.Rows.getD i [])) rfl (fun i hi _=>?_) ?_).iff ⟨fun g=>⟨h2,C,by omega,hC,hl,g⟩,fun⟨_,C',_,e,_,g⟩=>by grind⟩
    ·refine vG (zFd h2 (D:=C) (by omega)) (by omega) ?_
     unfold zKP;rw[yE hi,zI,zW [] hi,bs,hC]
    ·unfold zKP
     simp
   ·rw[dx (by omega),zI]
    exact .inr ⟨rfl,fun⟨_,_,_,_,g,_⟩=>hl g⟩
  ·rw[h3,bs,Jr,zI]
   exact .inr ⟨rfl,fun⟨_,C,g1,g2,_⟩=>h4 (by omega)⟩
 ·rw[h1,bs,Jr,zI]
  exact .inr ⟨rfl,fun g=>h2 g.1⟩
theorem zO3{u:zF}:IsB (zUg u) (zWA u):=by
 unfold zUg;rcases zA9 u.Prime with⟨h1,h2⟩|⟨h1,h2⟩
 ·rw[h1,bs,J5,zJ]
  rcases qB u.yW 0 8 with⟨h3,h4⟩|⟨h3,h4⟩
  ·obtain⟨C,hC⟩:∃C:Nat,u.yW=(C:Int):=⟨u.yW.toNat,by omega⟩
   rw[h3,bs,J5,zJ]
   by_cases hl:u.Rows.length≤8
   ·rw[dw (by omega),zJ]
    refine(tO (body:=zLf u) u.Rows.length (fun i=>Row u.Prime C (u.Rows.getD i [])) rfl (fun i hi _=>?_) ?_).iff ⟨fun g=>⟨h2,C,by omega,hC,hl,g⟩,fun⟨_,C',_,e,_,g⟩=>by grind⟩
    ·refine vG (zCt h2 (D:=C) (by omega)) (by omega) ?_
     unfold zLf;rw[yE hi,zI,zW [] hi,bs,hC]
    ·unfold zLf
     simp
   ·rw[dx (by omega),zI]
    exact .inr ⟨rfl,fun⟨_,_,_,_,g,_⟩=>hl g⟩
  ·rw[h3,bs,Jr,zI]
   exact .inr ⟨rfl,fun⟨_,C,g1,g2,_⟩=>h4 (by omega)⟩
 ·rw[h1,bs,Jr,zI]
  exact .inr ⟨rfl,fun g=>h2 g.1⟩
def zQ3(u:zF):Prop:=Prime u.Prime∧ ∃(C:Nat)(pv:Nat→Nat),C≤8∧u.yW=(C:Int)∧Red u.Prime C u.Rows pv
theorem zQ3.mx{u:zF}(h:zQ3 u):zWA u:=by obtain⟨h1,C,pv,h2,h3,h4⟩:=h;exact⟨h1,C,h2,h3,by have:=h4.len_le;omega,h4.row⟩
theorem Row.len{p:Int}{n:Nat}{R:Mx}(h:∀i,i<R.length→Row p n (R.getD i [])):∀r∈R,r.length=n:=fun r hr=>by
 obtain⟨i,hi,rfl⟩:=Js.1 hr;have:=(h i hi).1
 grind
theorem zHl{u:zF}:IsB (zUk u) (zQ3 u):=by
 unfold zUk;rcases zO2 (u:=u)with⟨h1,h2⟩|⟨h1,h2⟩
 ·obtain⟨g1,C,g2,g3,g4,g5⟩:=h2
  obtain⟨R,pv,r1,r2,r3,r4⟩:=wG g1 (n:=C) (by omega) (rows:=u.Rows) (by omega) g5;have pK:R.length≤C:=r3.len_le;rw[h1,bs,zI];unfold zWY zRH;rw[r2];simp only[bs];rw[zDe (by omega) (fun r hr=>by rw[Row.len r3.row r hr];omega)];simp only[bs];refine IsB.of_bool ⟨fun e=>?_,fun⟨_,C',pv',_,e2,e3⟩=>?_⟩
  ·have e:R=u.Rows:=by grind
   exact⟨g1,C,pv,g2,g3,e▸r3⟩
  ·obtain rfl:C'=C:=by omega
   have:=g1.pos;have:=r3.unique (by omega) e3 r4;simp[this]
 ·rw[h1,bs,zJ]
  exact .inr ⟨rfl,fun g=>h2 g.mx⟩
theorem zHm{u:zF}:IsB (zUh u) (zQ3 u):=by
 unfold zUh;rcases zO3 (u:=u)with⟨h1,h2⟩|⟨h1,h2⟩
 ·obtain⟨g1,C,g2,g3,g4,g5⟩:=h2
  obtain⟨R,pv,r1,r2,r3,r4⟩:=wG g1 (n:=C) (by omega) (rows:=u.Rows) (by omega) g5;have pK:R.length≤C:=r3.len_le;rw[h1,bs,zI,r1];simp only[bs];rw[zDw (by omega) (fun r hr=>by rw[Row.len r3.row r hr];omega)];simp only[bs];refine IsB.of_bool ⟨fun e=>?_,fun⟨_,C',pv',_,e2,e3⟩=>?_⟩
  ·have e:R=u.Rows:=by grind
   exact⟨g1,C,pv,g2,g3,e▸r3⟩
  ·obtain rfl:C'=C:=by omega
   have:=g1.pos;have:=r3.unique (by omega) e3 r4;simp[this]
 ·rw[h1,bs,zJ]
  exact .inr ⟨rfl,fun g=>h2 g.mx⟩
theorem zEf{v:List Int}(hl:v.length≤1000000):IsB (f_X v) (∀i,i<v.length→at0 v i=0):=by
 refine tO v.length (fun i=>at0 v i=0) rfl (fun i hi _=>?_) ?_
 ·refine vG (o:=dq (at0 v i==0)) (IsB.of_bool (by simp)) (by omega) ?_
  unfold zKM;rw[yE hi,zI,yB hi,bs,bs];rfl
 ·unfold zKM
  simp
theorem zBc{p:Int}(hp:Prime p){D:Nat}(hD:D≤3){A B:Mx}{q:Int}(hl:A.length≤1000)(hA:∀i,i<A.length→Row p D (A.getD i []))(hB:Mat p D B):f_C (zF.mk p q A) (zF.mk p (D:Int) B)=dq (zF.mk p (D:Int) (PM p D A B)):=by
 unfold f_C;have:=zQ (body:=zGZ (zF.mk p q A) (zF.mk p (D:Int) B)) (r:=PM p D A B) (fun i=>((PM p D A B).take i,(i:Int))) A.length (fun i hi=>by
  unfold zGZ;simp only
  rw[yE hi,zI,zW [] (by omega),bs,zB0 hp (by omega) (hA i hi) hB rfl,bs,zR (by rw[Kl,yU];simp;omega),bs,zH (by omega) (by omega),bs,cs,zCE hp (by omega) (by omega)]) (by
  unfold zGZ;simp only
  rw[wS,zJ,Jn (by grind[yU])])
 grind
section
variable {n D:Nat}{m:zC} (hm:MOk n m D) (hn:n≤14)
 include hm
def Fit(m:zC)(D:Nat)(u:zF):Prop:=u.Prime=m.Prime∧u.yW=(D:Int)∧ ∃pv,Red m.Prime D u.Rows pv
theorem zNz{u:zF}:(zQ3 u∧u.Prime=m.Prime∧u.yW=m.Dim)↔Fit m D u:=by
 have h3:=hm.d3;have hd:=hm.d;constructor
 ·rintro⟨⟨_,C,pv,_,g2,g3⟩,e1,e2⟩
  obtain rfl:C=D:=by omega
  exact⟨e1,g2,pv,e1▸g3⟩
 ·rintro⟨e1,e2,pv,e3⟩
  exact⟨⟨e1▸hm.p,D,pv,by omega,e2,e1▸e3⟩,e1,by omega⟩
theorem zKx{u:zF}:IsB (zOU m u) (Fit m D u):=by
 refine IsB.iff ?_ (zNz hm);unfold zOU;rcases zHl (u:=u)with⟨h1,h2⟩|⟨h1,h2⟩
 ·rw[h1,bs,zI]
  by_cases e1:u.Prime=m.Prime
  ·rw[zAS e1,zI]
   by_cases e2:u.yW=m.Dim
   ·rw[zAS e2];exact .inl ⟨rfl,h2,e1,e2⟩
   ·rw[show(u.yW==m.Dim)=dv from by grind];exact .inr (by grind)
  ·rw[show(u.Prime==m.Prime)=dv from by grind,zJ];exact .inr (by grind)
 ·rw[h1,bs,zJ];exact .inr (by grind)
theorem zQ4{u:zF}:IsB (zUi m u) (Fit m D u):=by
 refine IsB.iff ?_ (zNz hm);unfold zUi;rcases zHm (u:=u)with⟨h1,h2⟩|⟨h1,h2⟩
 ·rw[h1,bs,zI]
  by_cases e1:u.Prime=m.Prime
  ·rw[zAS e1,zI]
   by_cases e2:u.yW=m.Dim
   ·rw[zAS e2];exact .inl ⟨rfl,h2,e1,e2⟩
   ·rw[show(u.yW==m.Dim)=dv from by grind];exact .inr (by grind)
  ·rw[show(u.Prime==m.Prime)=dv from by grind,zJ];exact .inr (by grind)
 ·rw[h1,bs,zJ];exact .inr (by grind)
 include hn
theorem zKy{R:Mx}:(∀i,i<n→ ∀k,k<R.length→Sp m.Prime D R (yL m.Prime D (R.getD k []) (m.zB.getD i [])))↔Inv m n D R:=by
 have _:=hm;have _:=hn;constructor
 ·intro h r hr i hi
  obtain⟨k,hk,rfl⟩:=Js.1 hr
  grind
 ·intro h i hi k hk
  exact h _ (zB3 hk) i hi
theorem zGK{u:zF}(hu:Fit m D u):IsB (f_V m u) (Inv m n D u.Rows):=by
 obtain⟨e1,e2,pv,hR⟩:=hu;have h7:=hm.p.pos;have h3:=hm.d3;have pK:u.Rows.length≤D:=hR.len_le;have hu:u=zF.mk m.Prime (D:Int) u.Rows:=by rw[←e1,←e2]
 refine IsB.iff ?_ (zKy hm hn);refine tO (body:=zRK m u) n (fun i=> ∀k,k<u.Rows.length→Sp m.Prime D u.Rows (yL m.Prime D (u.Rows.getD k []) (m.zB.getD i []))) rfl (fun i hi _=>?_) ?_
 ·unfold zRK
  rw[hm.len,yE hi,zI,tE hm hn hi,bs];have eB:f_C u (zF.mk m.Prime (D:Int) (m.zB.getD i []))=dq (zF.mk m.Prime (D:Int) (PM m.Prime D u.Rows (m.zB.getD i []))):=by
   conv=>lhs;rw[hu]
   exact zBc hm.p h3 (by omega) hR.row (hm.mat i hi)
  rw[eB,bs];have gM:=chk (body:=zRJ u (zF.mk m.Prime (D:Int) (PM m.Prime D u.Rows (m.zB.getD i [])))) u.Rows.length 0 (Kd _) (fun k=>Sp m.Prime D u.Rows (yL m.Prime D (u.Rows.getD k []) (m.zB.getD i []))) (fun _=>dv) (fun k _ hk _=>by
   have hw:Row m.Prime D (yL m.Prime D (u.Rows.getD k []) (m.zB.getD i [])):=uK (by omega);have gJ:=zAE hm.p (by omega) hR hw u.Rows.length;refine vG ((zEf (by rw[gJ.1];omega)).iff (by rw[gJ.1];exact zTs hm.p (by omega) hR hw)) (by omega) ?_;unfold zRJ;simp only
   rw[yU,yE hk,zI,zW [] (by grind[yU]),bs,qK hk]
   conv=>lhs;rw[hu]
   rw[zCw hm.p (by omega) hR hw (by omega),bs]) (by
   unfold zRJ;simp only
   rw[yU,wS,zJ])
  rcases gM with⟨g1,g2⟩|⟨k,_,hk,g1,g2⟩
  ·left
   rw[show((0:Nat):Int)=0 from rfl]at g1;rw[g1,bs];simp only
   rw[zH (by omega) (by omega),bs,cs]
   grind
  grind
 ·unfold zRK
  rw[hm.len,wS,zJ]
theorem zO4{R:Mx}{pv:Nat→Nat}(hR:Red m.Prime D R pv):f_o m.Prime R=dq R∧f_f m.Prime R=dq R:=by
 have _:=hn;have h7:=hm.p.pos;have h3:=hm.d3;have pK:R.length≤D:=hR.len_le;obtain⟨R2,pv2,r1,r2,r3,r4⟩:=wG hm.p (n:=D) (by omega) (rows:=R) (by omega) hR.row;rw[←r3.unique (by omega) hR r4];rw[←r3.unique (by omega) hR r4]at r1 r2
 grind
theorem zLU{u:zF}(hu:Fit m D u):IsB (zUj m u.Rows) (Inv m n D u.Rows):=by
 obtain⟨e1,e2,pv,hR⟩:=hu;obtain⟨W,w1,w2,w3⟩:=zKv hm hn D u.Rows pv hR (by omega)
 grind[zUj,f_B,zO4,IsB.of_bool]
end
end Go.Pl

namespace Go.Pl
open Go Go.Ab Go.Wk Go.Pc
end Go.Pl

namespace Go.Pl
open Go Go.Ab Go.Wk Go.Pc
end Go.Pl

namespace Go.Pl
open Go Go.Ab Go.Wk Go.Pc
structure Nul (p:Int) (c N:Nat) (A W:Mx) (pv:Nat→Nat) (t:Nat):Prop where
 row:∀i,i<N→Row p c (A.getD i [])
 len:A.length=N
 red:Red p (c+N) W pv
 sp:tQ p (c+N) W (wd N A)
 le:t≤W.length
 lo:∀i,i<t→pv i<c
 hi:∀i,t≤i→i<W.length→c≤pv i
section
variable {p:Int} (hp:Prime p) {c N:Nat} (eS:c+N≤100000) {A W:Mx}{pv:Nat→Nat}{t:Nat}
 include hp eS
theorem Nul.get(hr:∀i,i<N→Row p c (A.getD i []))(hl:A.length=N):∃W pv t,Nul p c N A W pv t∧f_o p (wd N A)=dq W∧f_f p (wd N A)=dq W:=by have h7:=hp.pos;obtain⟨W,pv,r1,r2,r3,r4⟩:=wG hp (n:=c+N) eS (rows:=wd N A) (by rw[zBJ hr];omega) (fun i hi=>zQ1 (by omega) hr (by rwa [zBJ hr]at hi));obtain⟨t,t1,t2,t3⟩:=zW7 (by omega) hr r3;exact⟨W,pv,t,⟨hr,hl,r3,r4,t1,t2,t3⟩,r1,r2⟩
variable (h:Nul p c N A W pv t)
 include h
theorem Nul.nred:Red p N (nul c t W) (fun i=>pv (t+i)-c):=by have _:=eS;have h7:=hp.pos;exact zTu (by omega) h.row h.red h.le h.lo h.hi
theorem Nul.nsp{x:List Int}:Sp p N (nul c t W) x↔ ∀j,j<c→(S N fun k=>at0 x k*ent A k j)%p=0:=by have _:=eS;have h7:=hp.pos;exact zW8 (by omega) h.row h.red h.sp h.le h.lo h.hi
theorem Nul.full:W.length=N:=by
 have h7:=hp.pos;have g1:W.length≤(wd N A).length:=zAF hp (n:=c+N) eS (by rw[zBJ h.row];omega) (fun i hi=>zQ1 (by omega) h.row (by rwa [zBJ h.row]at hi)) h.red h.sp;rw[zBJ h.row]at g1;have hl:(gl W.length fun i=>(W.getD i []).drop c).length=W.length:=yG;have hR:∀i,i<W.length→Row p N ((gl W.length fun i=>(W.getD i []).drop c).getD i []):=fun i hi=>by have hr:=h.red.row i hi;rw[yF hi];refine⟨by rw[H3,hr.1];omega,fun j hj=>?_⟩;rw[zKw];exact hr.2 (c+j) (by omega)
 obtain⟨R3,pv3,_,_,g3,g4⟩:=wG hp (n:=N) (by omega) (rows:=gl W.length fun i=>(W.getD i []).drop c) (by omega) (by grind);have g5:=zAF hp (n:=N) (by omega) (by omega) (by grind) g3 g4;have cE:(gl N (ur N)).length=N:=yG;have bI:∀i j,i<N→j<N→ent (gl N (ur N)) i j=if j=i then 1 else 0:=fun i j hi hj=>by rw[ent,yF hi,ur,zK hj]
 have ew:Red p N (gl N (ur N)) (fun i=>i):=by
  refine⟨fun i hi=>?_,fun i hi=>by omega,fun i hi=>?_,fun i hi j hj=>?_,by grind,fun i j ev hj=>ev⟩
  ·rw[cE]at hi
   rw[yF hi];refine⟨zO _ _,fun j hj=>?_⟩
   grind
  all_goals grind
 have g6:=ew.le_of (by omega) g3 (fun i hi=>by rw[cE]at hi;refine g4.iff.2 ?_;obtain⟨cf,eH⟩:=h.sp.2 i (by rw[zBJ h.row];exact hi);refine⟨cf,fun j hj=>?_⟩;have h1:=eH (c+j) (by omega);have h2:=zB4 h.row hi hj;simp only[ent]at h2;rw[h2]at h1;have h3:=bI i j hi hj;simp only[ent]at h3;rw[h3,hl,←h1];exact congrArg (· %p) (yC (by grind)))
 omega
theorem Nul.count{R:Mx}{pr:Nat→Nat}(hR:Red p c R pr)(hs:tQ p c R A):(nul c t W).length=N-R.length∧R.length≤N:=by
 have h7:=hp.pos;have e:=hR.unique (by omega) (zTv (by omega) h.row h.red h.sp h.le h.lo h.hi) (hs.trans (zW9 (by omega) h.row h.red h.sp h.le h.lo h.hi h.len).symm);have h1:=h.full hp eS;have h2:=h.le;have e2:R.length=t:=by rw[e];exact yG
 grind[nul]
 omit h in
theorem zLV{N:Nat}(hN:N≤100000):f_z (N:Int)=dq (gl N (ur N)):=by
  have _:=hp;have _:=eS;unfold f_z;rw[xS (body:=zGX (N:Int)) N (ur N) (fun i acc hi ha=>by
    unfold zGX;simp only
    rw[yE hi,zI,xD (by omega),bs,wX,K0,if_pos hi,bs,J9,qJ,kQ,zR (by simp;omega),bs,zH (by omega) (by omega),bs,cs];rfl) (fun acc=>by
    unfold zGX;simp),bs]
 omit h in
theorem zId(hr:∀i,i<N→Row p c (A.getD i []))(hl:A.length=N):zUf p A=f_o p (wd N A):=by
  unfold zUf;rw[hl,zLV hp eS (by omega),bs,xS (body:=zLe A (gl N (ur N))) N (fun i=>A.getD i []++ur N i) (fun i acc hi ha=>by
    unfold zLe;simp only
    rw[hl,yE hi,zI,zW [] (by omega),bs,wT (by rw[(hr i hi).1];omega),bs,zB2 hi,bs,zR (by rw[(hr i hi).1,ur,zO];omega),bs,zR (by simp;omega),bs,zH (by omega) (by omega),bs,cs]) (fun acc=>by
    unfold zLe
    grind),bs]
  grind[wd]
theorem zIe:zG (zIm (c:Int) W) ([],0)=dq (nul c t W):=by
 have hf:=h.full hp eS;have ci:=h.le;have:=zQ (body:=zIm (c:Int) W) (r:=nul c t W) (fun i=>(gl (i-t) (fun k=>(W.getD (t+k) []).drop c),(i:Int))) W.length (fun i hi=>by
  have hr:=h.red.row i hi;have h1:=h.red.one i hi;have gF:=h.red.lt i hi;have bA:=zIS (n:=c+N) hr.1 (by omega) gF (h.red.low i hi) (by grind);unfold zIm;simp only
  rw[yE hi,zI,zW [] hi,bs,bA,bs];rcases Jm i t with g|g
  ·have:=h.lo i g
   rw[dw (by omega),zJ,zH (by omega) (by omega),bs,cs,show i-t=0 from by omega,show i+1-t=0 from by omega]
  ·have:=h.hi i g hi
   have e:zP (W.getD i []) (c:Int) ((W.getD i []).length:Int)=dq ((W.getD i []).drop c):=by unfold zP;rw[if_pos (by grind),J9,J9,Jn (by rw[H3];omega)]
   rw[dx (by omega),zI,bs,e,bs,wT (by rw[H3,hr.1];omega),bs,zR (by rw[yG];simp;omega),bs,zH (by omega) (by omega),bs,cs,show i+1-t=(i-t)+1 from by omega,←kV,show t+(i-t)=i from by omega]) (by
  unfold zIm;simp only
  rw[wS,zJ];rfl)
 grind
 omit h in
theorem zO5(hr:∀i,i<N→Row p c (A.getD i []))(hl:A.length=N):∃W pv t,Nul p c N A W pv t∧zMu p A (c:Int)=dq (nul c t W):=by grind[Nul.get,zMu,zId,zIe]
end
end Go.Pl

namespace Go.Pl
open Go Go.Ab Go.Wk Go.Pc
theorem zCL{β:Type}{n:Nat}{F:Nat→β}:gl (n+1) F=gl n F++[F n]:=kV.symm
theorem kW{β:Type}{L:Nat}{F:Nat→List β}:∀{n:Nat},(∀i,i<n→(F i).length=L)→(gl n F).flatten.length=n*L
 |0,_=>by simp[gl]
 |n+1,h=>by
  rw[zCL,Lh,Ji,kW fun i hi=>h i (by omega),Kx]
  grind
theorem qM{β:Type}{body:List β×Int→Option ((List β×Int)⊕List β)}(n L:Nat)(F:Nat→List β)(a0:List β)(hF:∀i,i<n→(F i).length=L)
  (h:∀i acc,i<n→acc.length=a0.length+i*L→body (acc,(i:Int))=dq (.inl (acc++F i,((i+1:Nat):Int))))(he:∀acc,body (acc,(n:Int))=dq (.inr acc)):
  zG body (a0,0)=dq (a0++(gl n F).flatten):=by
 have:=zQ (body:=body) (r:=a0++(gl n F).flatten) (fun i=>(a0++(gl i F).flatten,(i:Int))) n (fun i hi=>by rw[h i _ hi (by grind[kW]),zCL,Lh,Jh];simp) (he _)
 grind
theorem zN0{f:Nat→Int}:∀{n:Nat},(gl n fun i=>[f i]).flatten=mkv n f
 |0=>rfl
 |n+1=>by rw[zCL,Lh,zN0];simp[mkv,Kj]
def zCx(p:Int)(D E:Nat)(r:List Int)(B:Mx):List Int:=mkv E fun j=>S D (fun l=>at0 r l*ent B l j)%p
section
variable {p:Int} (hp:Prime p)
 include hp
theorem zKz{D E:Nat}{r:List Int}{B:Mx}:Row p E (zCx p D E r B):=by have h7:=hp.pos;refine⟨zO _ _,fun j hj=>?_⟩;rw[zCx,zK hj];have e1:=K8 (S D fun l=>at0 r l*ent B l j) (show p≠0 by omega);have e2:=Jx (S D fun l=>at0 r l*ent B l j) (show 0<p by omega);omega
theorem zQ5{D E:Nat}(hD:D≤1000)(hE:E≤1000){r:List Int}{B:Mx}(hr:Row p D r)(hl:B.length=D)(hB:∀i,i<D→Row p E (B.getD i [])):zOK r (zF.mk p (E:Int) B)=dq (zCx p D E r B):=by
 have h7:=hp.pos;have mw:=hr.1;unfold zOK;simp only
 rw[xD (by omega),bs];have:=zQ (body:=zFh r (zF.mk p (E:Int) B)) (r:=zCx p D E r B) (fun i=>(zCx p i E r B,(i:Int))) D (fun i hi=>by
  have ha:=hr.2 i hi;unfold zFh;simp only
  rw[mw,yE hi,zI,yB (by omega),bs,zW [] (by omega),bs,zCG hp (zKz hp) (hB i hi) (by omega) (by omega),bs,zH (by omega) (by omega),bs,cs]
  congr 3
  refine yK fun j hj=>?_
  rw[zCx,zK hj];simp only[S];simp) (by
  unfold zFh
  grind)
 rw[show((0:Nat):Int)=0 from rfl]at this;have e:J1 E (0:Int)=zCx p 0 E r B:=by rw[qJ];rfl
 grind
theorem zGL{D E:Nat}(hD:D≤1000)(hE:E≤1000){A B:Mx}{q:Int}(hA:∀i,i<A.length→Row p D (A.getD i []))(fM:A.length≤1000)(hl:B.length=D)(hB:∀i,i<D→Row p E (B.getD i [])):
  f_C (zF.mk p q A) (zF.mk p (E:Int) B)=dq (zF.mk p (E:Int) (gl A.length fun k=>zCx p D E (A.getD k []) B)):=by
 unfold f_C;have:=xS (body:=zGZ (zF.mk p q A) (zF.mk p (E:Int) B)) A.length (fun k=>zCx p D E (A.getD k []) B) (fun i acc hi ha=>by
  unfold zGZ;simp only
  rw[yE hi,zI,zW [] hi,bs,zQ5 hp hD hE (hA i hi) hl hB,bs,zR (by simp;omega),bs,zH (by omega) (by omega),bs,cs]) (fun acc=>by
  unfold zGZ;simp)
 grind
end
section
variable {n D E:Nat}{m q:zC} (hm:MOk n m D) (hq:MOk n q E) (hn:n≤14) (gG:q.Prime=m.Prime)
def cv(m q:zC)(a b g k l:Nat):Int:=((if l=b then ent (m.zB.getD g []) k a else 0)-(if k=a then ent (q.zB.getD g []) b l else 0))%m.Prime
def zIW(m q:zC)(E a b g k:Nat):List Int:=mkv E fun l=>cv m q a b g k l
def zIX(m q:zC)(D E a b g:Nat):List Int:=(gl D fun k=>zIW m q E a b g k).flatten
def zEg(m q:zC)(n D E a b:Nat):List Int:=(gl n fun g=>zIX m q D E a b g).flatten
def zEh(m q:zC)(n D E a:Nat):Mx:=gl E fun b=>zEg m q n D E a b
def call(m q:zC)(n D E:Nat):Mx:=(gl D fun a=>zEh m q n D E a).flatten
theorem zEi{a b g:Nat}:(zIX m q D E a b g).length=D*E:=kW fun _ _=>zO _ _
theorem zO6{a b:Nat}:(zEg m q n D E a b).length=n*(D*E):=kW fun _ _=>zEi
theorem zGM:(call m q n D E).length=D*E:=kW fun _ _=>yG
 include hm hq hn gG
theorem zK0:∀i,i<D*E→Row m.Prime (n*(D*E)) ((call m q n D E).getD i []):=by
 have h7:=hm.p.pos;have _:=hq;have _:=hn;have _:=gG;intro i hi;have h:=zB3 (R:=call m q n D E) (i:=i) (by grind[zGM]);obtain⟨r1,h1,h2⟩:=Hl.1 h;obtain⟨a,_,rfl⟩:=Ja.1 h1;obtain⟨b,_,e⟩:=Ja.1 h2;rw[←e];refine zIU.2 ⟨zO6,fun v hv=>?_⟩;obtain⟨r2,h3,h4⟩:=Hl.1 hv;obtain⟨g,_,rfl⟩:=Ja.1 h3;obtain⟨r3,h5,h6⟩:=Hl.1 h4;obtain⟨k,_,rfl⟩:=Ja.1 h5;obtain⟨l,_,rfl⟩:=Ja.1 h6;have e1:=K8 ((if l=b then ent (m.zB.getD g []) k a else 0)-(if k=a then ent (q.zB.getD g []) b l else 0)) (show m.Prime≠0 by omega);have e2:=Jx ((if l=b then ent (m.zB.getD g []) k a else 0)-(if k=a then ent (q.zB.getD g []) b l else 0)) (show 0<m.Prime by omega)
 grind[cv]
theorem zGN:zG (zRD m q) ([],0)=dq (call m q n D E):=by
 have h7:=hm.p.pos;have h3:=hm.d3;have k3:=hq.d3;have cy:D*E≤3*3:=Jj h3 k3;have bt:n*(D*E)≤14*9:=Jj hn cy;refine(qM D E (fun a=>zEh m q n D E a) [] (fun _ _=>yG) (fun a acc ha ey=>?_) (fun acc=>?_)).trans (by rfl)
 ·unfold zRD
  simp only
  have gM:=zQ (body:=zOO m q (acc,(a:Int))) (r:=acc++zEh m q n D E a) (fun b=>(acc++gl b (fun b=>zEg m q n D E a b),(b:Int))) E (fun b hb=>by
   have h1:(gl b fun b=>zEg m q n D E a b).length=b:=yG;have haE:a*E≤3*3:=Jj (by omega) k3;unfold zOO;simp only
   have hH:∀st:List (List Int)×Int,st.2=(b:Int)→zG (zRC m q (acc,(a:Int)) st) ([],0)=dq (zEg m q n D E a b):=fun st gK=>by
    refine(qM n (D*E) (fun g=>zIX m q D E a b g) [] (fun _ _=>zEi) (fun g w hg hw=>?_) (fun w=>?_)).trans (by rfl)
    ·unfold zRC
     simp only
     rw[hm.len,yE hg,zI];simp only[H7,J8]at hw;have hgD:g*(D*E)≤14*9:=Jj (by omega) cy;have mb:∀sg:List Int×Int,sg.2=(g:Int)→zG (zRB m q (acc,(a:Int)) st sg) (w,0)=dq (w++zIX m q D E a b g):=fun sg hsg=>by
      refine qM D E (fun k=>zIW m q E a b g k) w (fun _ _=>zO _ _) (fun k z hk hz=>?_) (fun z=>?_)
      ·unfold zRB
       simp only
       rw[hm.d,yE hk,zI];have hkE:k*E≤3*3:=Jj (by omega) k3;have gn:∀sk:List Int×Int,sk.2=(k:Int)→zG (zRA m q (acc,(a:Int)) st sg sk) (z,0)=dq (z++zIW m q E a b g k):=fun sk hsk=>by
        refine(qM E 1 (fun l=>[cv m q a b g k l]) z (fun _ _=>rfl) (fun l y hl hy=>?_) (fun y=>?_)).trans (by rw[zN0];rfl)
        ·have hA:=hm.mat g hg
         have hB:=hq.mat g hg;obtain⟨a1,a2,_,a4⟩:=zG8 hA hk ha;obtain⟨b1,b2,_,b4⟩:=zG8 hB hb hl;have fc:∀v:Int,zU y [v]=dq (y++[v]):=by grind[zR]
         have gE:rng ((l:Int)+1)=dq ((l+1:Nat):Int):=by grind[zH]
         unfold zRA;simp only
         rw[hq.d,yE hl,zI,gK,hsg,hsk];have aK:ixO m.zB (g:Int)=dq (m.zB.getD g []):=by grind[zW]
         have bh:ixO q.zB (g:Int)=dq (q.zB.getD g []):=by grind[zW]
         rw[gG]at b4
         by_cases e1:l=b
         ·rw[zAS (by omega:(l:Int)=(b:Int)),zI,aK,bs,a1,bs,a2,bs]
          by_cases e2:k=a
          ·rw[zAS (by omega:(k:Int)=(a:Int)),zI,bh,bs,b1,bs,b2,bs,zH (by omega) (by omega),bs,zAD hm.p (by omega) (by omega),bs,fc,bs,gE,bs]
           simp only[cv,if_pos e1,if_pos e2]
          ·rw[show((k:Int)==(a:Int))=dv from by simp;omega,zJ,zAD hm.p (by omega) (by omega),bs,fc,bs,gE,bs]
           simp only[cv,if_pos e1,if_neg e2,Gz]
         ·rw[show((l:Int)==(b:Int))=dv from by simp;omega,zJ]
          by_cases e2:k=a
          ·rw[zAS (by omega:(k:Int)=(a:Int)),zI,bh,bs,b1,bs,b2,bs,zH (by omega) (by omega),bs,zAD hm.p (by omega) (by omega),bs,fc,bs,gE,bs]
           simp only[cv,if_neg e1,if_pos e2]
          ·rw[show((k:Int)==(a:Int))=dv from by simp;omega,zJ,zAD hm.p (by omega) (by omega),bs,fc,bs,gE,bs]
           simp only[cv,if_neg e1,if_neg e2,Gz]
        ·unfold zRA
         simp only
         rw[hq.d,wS,zJ]
       rw[gn _ rfl,bs,zH (by omega) (by omega),bs,cs]
      ·unfold zRB
       simp only
       rw[hm.d,wS,zJ]
     rw[mb _ rfl,bs,zH (by omega) (by omega),bs,cs]
    ·unfold zRC
     simp only
     rw[hm.len,wS,zJ]
   rw[hq.d,yE hb,zI,hH _ rfl,bs,zR (by grind),bs,zH (by omega) (by omega),bs,cs,Jh,kV]) (by
   unfold zOO;simp only
   rw[hq.d,wS,zJ];rfl)
  have cm:zG (zOO m q (acc,(a:Int))) (acc,0)=dq (acc++zEh m q n D E a):=by grind
  rw[hm.d,yE ha,zI,cm,bs,zH (by omega) (by omega),bs,cs]
 ·unfold zRD
  simp only
  rw[hm.d,wS,zJ]
end
end Go.Pl

namespace Go.Pl
open Go Go.Ab Go.Wk Go.Pc
section
variable {n D E:Nat}{m q:zC} (hm:MOk n m D) (hq:MOk n q E) (hn:n≤14) (gG:q.Prime=m.Prime)
def em(D E a b:Nat):Mx:=gl D fun k=>if k=a then ur E b else mkv E fun _=>0
theorem zGO{a b:Nat}:(em D E a b).length=D:=yG
theorem zIY{a b i j:Nat}(hi:i<D)(hj:j<E):ent (em D E a b) i j=if i=a∧j=b then 1 else 0:=by
 rw[ent,em,yF hi]
 by_cases h:i=a
 ·rw[if_pos h,ur,zK hj];simp[h]
 ·rw[if_neg h,zK hj,if_neg (by omega)]
 include hm hq hn gG
theorem zQ6{a b:Nat}:∀i,i<D→Row m.Prime E ((em D E a b).getD i []):=by
 have h7:=hm.p.pos;have _:=hq;have _:=hn;have _:=gG;intro i hi;refine⟨?_,fun j hj=>?_⟩
 ·rw[em,yF hi];split<;>exact zO _ _
 ·have e:=zIY (D:=D) (E:=E) (a:=a) (b:=b) hi hj
  grind
theorem zTw{a b:Nat}(ha:a<D)(hb:b<E){s t:List (List Int)×Int}(hs:s.2=(a:Int))(ht:t.2=(b:Int)):zG (zOP m q s t) ([],0)=dq (em D E a b):=by
 have _:=hn;have _:=gG;have h3:=hm.d3;have k3:=hq.d3;refine xS (body:=zOP m q s t) D (fun k=>if k=a then ur E b else mkv E fun _=>0) (fun k acc hk ey=>?_) (fun acc=>?_)
 ·unfold zOP
  simp only
  rw[hm.d,yE hk,zI,hq.d,xD (by omega),bs,zR (by simp;omega),bs,hs,ht]
  by_cases e:k=a
  ·have h1:ixO (acc++[J1 E (0:Int)]) (k:Int)=dq (J1 E 0):=by
    grind[wX]
   rw[zAS (by omega:(k:Int)=(a:Int)),zI,h1,bs,wX,K0,if_pos hb,bs,zH (by omega) (by omega),bs,cs,J9,J9,if_pos e]
   congr 3
   rw[Hx _ _ (by omega),ey,Ky,qJ,kQ];rfl
  ·rw[show((k:Int)==(a:Int))=dv from by simp;omega,zJ,zH (by omega) (by omega),bs,cs,if_neg e,qJ]
 ·unfold zOP
  simp only
  rw[hm.d,wS,zJ]
theorem zTx{a b g k:Nat}(ha:a<D)(hb:b<E)(hg:g<n)(hk:k<D):
  uW m.Prime E (zCx m.Prime D E ((m.zB.getD g []).getD k []) (em D E a b)) (-1) (yL m.Prime E ((em D E a b).getD k []) (q.zB.getD g []))=zIW m q E a b g k:=by
 have h7:=hm.p.pos;have _:=hn;refine yK fun l hl=>?_
 have hA:=((hm.mat g hg).2 k hk).2 a ha;have hB:=((hq.mat g hg).2 b hb).2 l hl;rw[gG]at hB;have e1:at0 (zCx m.Prime D E ((m.zB.getD g []).getD k []) (em D E a b)) l=if l=b then ent (m.zB.getD g []) k a else 0:=by
  rw[zCx,zK hl,vH (k:=a) ha (fun i hi gf=>by rw[zIY hi hl,if_neg (by omega),Jw]),zIY ha hl]
  by_cases e:l=b
  ·rw[if_pos ⟨rfl,e⟩,if_pos e,K7,wK hA]
  simp_all
 have e2:at0 (yL m.Prime E ((em D E a b).getD k []) (q.zB.getD g [])) l=if k=a then ent (q.zB.getD g []) b l else 0:=by
  have h:∀i,i<E→at0 ((em D E a b).getD k []) i=if k=a∧i=b then 1 else 0:=by grind[zIY]
  rw[yL,zK hl,vH (k:=b) hb (by grind),h b hb]
  by_cases e:k=a
  ·rw[if_pos ⟨e,rfl⟩,if_pos e,Kw,wK hB]
  simp_all
 grind[cv]
theorem zO7{a b:Nat}(ha:a<D)(hb:b<E){x:SPr}(hx:x.zA.length=n):zG (zRE x m q (em D E a b)) ([],0)=dq (zEg m q n D E a b):=by
 have h7:=hm.p.pos;have h3:=hm.d3;have k3:=hq.d3;have cy:D*E≤3*3:=Jj h3 k3;refine(qM n (D*E) (fun g=>zIX m q D E a b g) [] (fun _ _=>zEi) (fun g w hg hw=>?_) (fun w=>?_)).trans (by rfl)
 ·simp only[H7,J8]at hw
  have hgD:g*(D*E)≤14*9:=Jj (by omega) cy;have hA:=hm.mat g hg;have hB:=hq.mat g hg;rw[gG]at hB;have hL:(gl D fun k=>zCx m.Prime D E ((m.zB.getD g []).getD k []) (em D E a b)).length=D:=yG;have p1:=zGL hm.p (D:=D) (E:=E) (q:=(D:Int)) (by omega) (by omega) (A:=m.zB.getD g []) (B:=em D E a b) (by rw[hA.1];exact hA.2) (by rw[hA.1];omega) zGO (zQ6 hm hq hn gG);rw[hA.1]at p1;have p2:=zBc hm.p (D:=E) (q:=(E:Int)) (by omega) (A:=em D E a b) (B:=q.zB.getD g []) (by grind[zGO]) (by grind[zGO,zQ6]) hB;unfold zRE;simp only
  rw[hx,yE hg,zI,tE hm hn hg,bs,hq.d,p1,bs,tE hq hn hg,bs,gG,p2,bs];simp only
  have gM:=zQ (body:=zOQ m (zF.mk m.Prime (E:Int) (gl D fun k=>zCx m.Prime D E ((m.zB.getD g []).getD k []) (em D E a b))) (zF.mk m.Prime (E:Int) (PM m.Prime E (em D E a b) (q.zB.getD g []))))
   (r:=w++zIX m q D E a b g) (fun k=>(w++(gl k fun k=>zIW m q E a b g k).flatten,(gl D fun i=>if i<k then zIW m q E a b g i else zCx m.Prime D E ((m.zB.getD g []).getD i []) (em D E a b)),(k:Int))) D (fun k hk=>by
   have hc:(gl k fun k=>zIW m q E a b g k).flatten.length=k*E:=kW fun _ _=>zO _ _
   have hkE:k*E≤3*3:=Jj (by omega) k3;have gJ:(zIW m q E a b g k).length=E:=zO _ _;unfold zOQ;simp only
   rw[hL,yE hk,zI,zB2 hk,bs,if_neg (by omega),zW [] (by grind[yU,zGO]),bs,qK (by rw[zGO];exact hk),zCG hm.p (zKz hm.p) (uK (by omega)) (by omega) (by omega),bs,zTx hm hq hn gG ha hb hg hk,J9,zLR,zB2 hk,bs,if_pos rfl,zR (by rw[Ji,hc,gJ];omega),bs,zH (by omega) (by omega),bs,cs,zCL,Lh,Jh]
   grind) (by
   unfold zOQ;simp only
   rw[hL,wS,zJ];rfl)
  have cm:zG (zOQ m (zF.mk m.Prime (E:Int) (gl D fun k=>zCx m.Prime D E ((m.zB.getD g []).getD k []) (em D E a b))) (zF.mk m.Prime (E:Int) (PM m.Prime E (em D E a b) (q.zB.getD g [])))) (w,(gl D fun k=>zCx m.Prime D E ((m.zB.getD g []).getD k []) (em D E a b)),0)=dq (w++zIX m q D E a b g):=by grind
  rw[cm,bs,zH (by omega) (by omega),bs,cs]
 ·unfold zRE
  grind
theorem zLW{x:SPr}(hx:x.zA.length=n):zG (zRF x m q) ([],0)=dq (call m q n D E):=by
 have h7:=hm.p.pos;have h3:=hm.d3;have k3:=hq.d3;refine(qM D E (fun a=>zEh m q n D E a) [] (fun _ _=>yG) (fun a acc ha ey=>?_) (fun acc=>?_)).trans (by rfl)
 ·simp only[H7,J8]at ey
  have haE:a*E≤3*3:=Jj (by omega) k3;unfold zRF;simp only
  have gM:=zQ (body:=zOR x m q (acc,(a:Int))) (r:=acc++zEh m q n D E a) (fun b=>(acc++gl b (fun b=>zEg m q n D E a b),(b:Int))) E (fun b hb=>by
   have h1:(gl b fun b=>zEg m q n D E a b).length=b:=yG;unfold zOR;simp only
   rw[hq.d,yE hb,zI,zTw hm hq hn gG ha hb rfl rfl,bs,zO7 hm hq hn gG ha hb hx,bs,zR (by grind),bs,zH (by omega) (by omega),bs,cs,Jh,kV]) (by
   unfold zOR;simp only
   rw[hq.d,wS,zJ];rfl)
  have cm:zG (zOR x m q (acc,(a:Int))) (acc,0)=dq (acc++zEh m q n D E a):=by grind
  rw[hm.d,yE ha,zI,cm,bs,zH (by omega) (by omega),bs,cs]
 ·unfold zRF
  simp only
  rw[hm.d,wS,zJ]
end
theorem zBT{x:SPr}{m q:zC}(hx:zVx x)(hm:zTj m)(hq:zTj q):∃g k,f_j x m q=dq (g,k)∧f_g x m q=dq (g,k):=by
 have hl:x.zA.length≤1048576:=hx.1;have tk:=S3.len hm;have hql:=S3.len hq;unfold f_j f_g zRd zMp;rcases kS (m:=m) hl with⟨s1,s2⟩|⟨s1,s2⟩<;>rcases kT (m:=m) hl tk with⟨i1,i2⟩|⟨i1,i2⟩
 ·simp only[s1,i1,bs,J5,zJ]
  rcases kS (m:=q) hl with⟨t1,t2⟩|⟨t1,t2⟩<;>rcases kT (m:=q) hl hql with⟨j1,j2⟩|⟨j1,j2⟩
  ·simp only[t1,j1,bs,J5,zJ]
   by_cases hp:m.Prime=q.Prime
   ·have e0:((0:Int) != 0)=dv:=rfl
    obtain⟨hc,D,hD,_⟩:=s2;obtain⟨_,E,hE,_⟩:=t2;have h6:=hc.1.os.1;have h7:=hD.p.pos;have d3:=hD.d3;have e3:=hE.d3;have cy:D*E≤3*3:=Jj d3 e3;have bt:x.zA.length*(D*E)≤14*9:=Jj h6 cy;have gJ:(call m q x.zA.length D E).length=D*E:=zGM;have hH:=zK0 hD hE h6 hp.symm;obtain⟨W,pv,t,w1,w2⟩:=zO5 hD.p (c:=x.zA.length*(D*E)) (N:=D*E) (by omega) hH gJ;obtain⟨R,pr,_,r2,r3,r4⟩:=wG hD.p (n:=x.zA.length*(D*E)) (by omega) (rows:=call m q x.zA.length D E) (by omega) (by grind);obtain⟨k1,k2⟩:=w1.count hD.p (by omega) r3 r4;have er1:rng (m.Dim*q.Dim)=dq ((D*E:Nat):Int):=by rw[hD.d,hE.d,←Lj];grind[zH]
    have er2:rng (((D*E:Nat):Int)*(m.zB.length:Int))=dq ((x.zA.length*(D*E):Nat):Int):=by rw[hD.len,Kk,←Lj];grind[zH]
    have er3:rng (((D*E:Nat):Int)-(R.length:Int))=dq ((nul (x.zA.length*(D*E)) t W).length:Int):=by grind[zH]
    simp only[sJ hp,zJ,bs,e0,zGN hD hE h6 hp.symm,zLW hD hE h6 hp.symm rfl]
    simp_all
   ·have e0:((5:Int) != 0)=du:=rfl
    simp only[qC hp,zI,bs,e0];simp
  all_goals simp_all
 all_goals simp_all
end Go.Pl

namespace Go.Pl
open Go Go.Ab Go.Wk Go.Pc
theorem zK1{α:Type}{f:α→α}{a:α}(h:f a=a):∀k,iter k f a=a
 |0=>rfl
 |k+1=>by show iter k f (f a)=a;rw[h];exact zK1 h k
theorem zEF{x:SPr}(h:Pres x):∀(d k:Nat),k+d=x.zA.length→uT (suf x k)→ ∀m,d+1≤m→ ∀v,V (suf x k) v→ ∃w,V (suf x k) w∧mul (suf x k) v w=zeros (suf x k).length∧zMq m x k (fv k v)=dq (fv k w)
 |0,k,hk,_,m,hm,v,hv=>by
  have h6:=h.os.1;obtain⟨m,rfl⟩:∃m',m=m'+1:=⟨m-1,by omega⟩;rw[kO (by omega)]at hv ⊢
  obtain rfl:v=[]:=hv;refine⟨[],rfl,rfl,?_⟩;show b_k _ x k _=_;unfold b_k;rw[dx (by omega),zI,xD (by omega),bs]
  simp_all[zeros]
 |d+1,k,pE,hc,m,hm,v,hv=>by
  have h6:=h.os.1;obtain⟨m,rfl⟩:∃m',m=m'+1:=⟨m-1,by omega⟩;have hk:k<x.zA.length:=by omega
  have eB:=(h.os.2 k hk).pos;have hcQ:uT (suf x (k+1)):=zCo hc 1;have ih:=zEF h d (k+1) (by omega) hcQ m (by omega);have G:=zCp h (by omega) hc;have GQ:=zCp h (by omega) hcQ;have okP:=h.okAt (k:=k) (by omega);have okQ:=h.okAt (k:=k+1) (by omega);have ph:=zE8 h (by omega) hv;have fI:=xV x (k+1);obtain⟨w1,w2⟩:=zW1 h hk;rw[yX hk]at hv G okP;obtain⟨a,r,rfl⟩:∃a r,v=a::r:=by
   cases v with
   |nil=>exact hv.elim
   |cons a r=>simp
  have ff:(lvl x k).o=at0 x.zA k:=rfl;obtain⟨⟨a0,a1⟩,hr⟩:=hv;rw[ff]at a1;obtain⟨r',te,hmr,cY⟩:=ih r hr;have hz:V (suf x (k+1)) (zeros (suf x (k+1)).length):=vQ okQ;have hzc:zeros (lvl x k::suf x (k+1)).length=0::zeros (suf x (k+1)).length:=rfl;have mG:∀(c:Int)(u:Vec),0≤c→c<at0 x.zA k→V (suf x (k+1)) u→V (lvl x k::suf x (k+1)) (c::u):=fun c u h0 h1 hu=>⟨⟨h0,h1⟩,hu⟩
  have e2:mul (lvl x k::suf x (k+1)) (0::r) (0::r')=zeros (lvl x k::suf x (k+1)).length:=by
   rw[yZ,ff,if_neg (by omega),hzc]
   grind[iter]
  show∃w,_∧_∧b_k (zMq m) x k (fv k (a::r))=dq (fv k w);unfold b_k;rw[dw (by omega),zJ,wT (by omega),bs,zG1,bs,zH (by omega) (by omega),bs,cs,J9,zFb,zBb,show zeros (k+1)++r=fv (k+1) r from rfl,cY,bs,bs];rw[yX hk]
  by_cases ha:a=0
  ·subst ha
   rw[show((0:Int)==0)=du from rfl,zI];exact⟨0::r',by grind,e2,by rw[fv,←zBb]⟩
  ·rw[show(a==0)=dv from by grind,zJ,xD (by omega),bs,yB hk,bs,bs,zH (by omega) (by omega),bs,wX,K0,if_pos hk,bs]
   have mT:(J1 x.zA.length (0:Int)).set k (at0 x.zA k-a)=zeros k++(at0 x.zA k-a)::zeros (suf x (k+1)).length:=by
    have e:J1 x.zA.length (0:Int)=zeros k++0::zeros (x.zA.length-(k+1)):=by simp only[zeros];rw[←L1,Kq];congr 1;omega
    grind[zFb]
   obtain⟨w',ez,hmw,hfw⟩:=ih (lvl x k).w w2;have hA:=mG a _ a0 a1 hz;have hR:=mG 0 r (by omega) (by omega) hr;have hR':=mG 0 r' (by omega) (by omega) te;have hT:=mG (at0 x.zA k-a) _ (by omega) (by omega) hz;have hW:=mG 0 (lvl x k).w (by omega) (by omega) w2;have mj:=mG 0 w' (by omega) (by omega) ez;have gv:sig (suf x (k+1)) (lvl x k) (zeros (suf x (k+1)).length)=zeros (suf x (k+1)).length:=by grind[sig,zBw]
   have e1:mul (lvl x k::suf x (k+1)) (a::zeros (suf x (k+1)).length) (0::r)=a::r:=by rw[yZ,ff,if_neg (by omega),show iter (0:Int).toNat (sig (suf x (k+1)) (lvl x k)) (zeros (suf x (k+1)).length)=zeros (suf x (k+1)).length from rfl,GQ.onel hr,Lp]
   have e3:mul (lvl x k::suf x (k+1)) (a::zeros (suf x (k+1)).length) ((at0 x.zA k-a)::zeros (suf x (k+1)).length)=0::(lvl x k).w:=by
    rw[yZ,ff,if_pos (by omega),zK1 gv,GQ.oner hz,GQ.oner w2]
    grind
   have e4:mul (lvl x k::suf x (k+1)) (0::(lvl x k).w) (0::w')=zeros (lvl x k::suf x (k+1)).length:=by
    rw[yZ,ff,if_neg (by omega),hzc]
    grind[iter]
   have dj:=G.cl hR' hT;have bQ:=G.cl dj mj;have spA:=zIM h (k:=k) (by omega);rw[mT,show fv (k+1) r'=zeros k++0::r' from by rw[zBb],spA _ _ (by grind[yX]) (by grind[yX]),bs,bs,w1,bs,hfw,bs,show fv (k+1) w'=zeros k++0::w' from by rw[zBb],yX hk];have:=spA _ _ (by rw[yX hk];exact dj) (by rw[yX hk];exact mj);rw[yX hk]at this;rw[this,bs];refine⟨_,bQ,?_,rfl⟩;rw[←e1,G.assoc hA hR bQ,←G.assoc hR dj mj,←G.assoc hR hR' hT,e2,G.onel hT,←G.assoc hA hT mj,e3,e4]
theorem zQ7{x:SPr}(h:Pres x)(hc:uT (suf x 0)){v:Vec}(hv:V (suf x 0) v):∃w,V (suf x 0) w∧mul (suf x 0) v w=zeros (suf x 0).length∧zOL x v=dq w:=by obtain⟨w,h1,h2,_⟩:=zEF h x.zA.length 0 (by omega) hc (x.zA.length+1) (by omega) v hv;refine⟨w,h1,h2,?_⟩;unfold zOL f_k;rw[zBt (r:=w) (x.zA.length+1) fun m hm=>?_,bs];obtain⟨w',g1,g2,g3⟩:=zEF h x.zA.length 0 (by omega) hc m hm v hv;have G:=zCp h (by omega) hc;have e:w=w':=G.cancel_l hv h1 g1 (by rw[h2,g2]);rw[e];exact g3
theorem zLX{p:Int}{D:Nat}{A:List Mx}:∀(v:Vec)(o:Nat)(B:Mx),o+v.length≤A.length→wM p D A (nw o v) B=img (PM p D) (A.drop o) v B
 | [],o,B,_=>by simp[nw,wM,img]
 |a::v,o,B,h=>by
  simp only[Ki]at h;have e:A.drop o=A.getD o []::A.drop (o+1):=by grind[Q5]
  rw[e];simp only[nw,img];rw[zEC,zGD,zLX v (o+1) _ (by omega)]
theorem zCy:∀(k o:Nat),nw o (zeros k)=[]
 |0,_=>rfl
 |k+1,o=>by rw[show zeros (k+1)=0::zeros k from rfl];simp only[nw];rw[zCy k];rfl
section
variable {x:SPr}{m:zC}{D:Nat} (h:Pres x) (hm:zYL x.zA.length m D) (hr:zIP x m D)
 include hm
theorem zTy:Mon (Mat m.Prime D) (PM m.Prime D) (idM D):=by
 have h7:=hm.p.pos;exact⟨fun ha _=>jR (by omega) ha.1,uV (by omega),fun ha hb _=>zAB ha.1 hb.1,fun ha=>zAw ha,fun ha=>zG7 ha⟩
 include h hr
theorem zN1:∀(d k:Nat),k+d=x.zA.length→Rel (PM m.Prime D) (idM D) (suf x k) (m.zB.drop k)
 |0,k,hk=>by rw[kO (by omega),Ht (by rw[hm.len];omega)];exact rfl
 |d+1,k,pE=>by
  have h6:=h.os.1;have hk:k<x.zA.length:=by omega
  have gm:=hm.len;have e:m.zB.drop k=m.zB.getD k []::m.zB.drop (k+1):=by simp_all
  obtain⟨t1,t2,t3⟩:=h.tl k hk;obtain⟨r1,r2⟩:=hr k hk;have mM:∀v,Exp x.zA v k→wM m.Prime D m.zB (nw 0 v) (idM D)=img (PM m.Prime D) (m.zB.drop (k+1)) (v.drop (k+1)) (idM D):=fun v hv=>by
   have hl:=hv.1.1
   conv=>lhs;rw[zBx hv hk]
   rw[zCF,zCy,Jy,yA,zLX _ _ _ (by grind),J8]
  rw[yX hk,e];refine⟨?_,fun q c dd hc hd=>?_,zN1 d (k+1) (by omega)⟩
  ·grind[pw,lvl,zGD]
  ·rw[Lg]at hc
   have hq:k+1+q<m.zB.length:=by grind
   have tq:c=m.zB.getD (k+1+q) []:=by grind
   have mE:dd=((x.zD.getD k []).getD q []).drop (k+1):=by grind[lvl]
   have:=r2 (k+1+q) (by omega) (by omega);rw[show k+1+q-(k+1)=q from by omega]at this;rw[tq,mE,this,mM _ (t3 q (by omega))]
def zBd(m:zC)(D:Nat)(v:Vec):Mx:=wM m.Prime D m.zB (nw 0 v) (idM D)
theorem zIZ{v:Vec}(hv:V (suf x 0) v):zBd m D v=img (PM m.Prime D) m.zB v (idM D):=by have _:=hr;have hl:=(zCV h.os x.zA.length 0 v (by omega) hv).1;have:=zLX (p:=m.Prime) (D:=D) (A:=m.zB) v 0 (idM D) (by rw[hm.len];omega);rw[G7]at this;exact this
theorem zN2{u v:Vec}(hu:V (suf x 0) u)(hv:V (suf x 0) v):zBd m D (mul (suf x 0) u v)=PM m.Prime D (zBd m D u) (zBd m D v):=by
 have ok:=h.okAt (k:=0) (by omega);have R:=zN1 h hm hr x.zA.length 0 (by omega);rw[G7]at R;rw[zIZ h hm hr hu,zIZ h hm hr hv,zIZ h hm hr (wI ok hu hv)];refine zWy (zTy hm) (suf x 0) m.zB ok (fun g hg=>?_) R u v hu hv;obtain⟨i,hi,rfl⟩:=Js.1 hg;have:=hm.mat i (by rw[←hm.len];exact hi)
 grind
theorem zK2{k:Nat}:zBd m D (zeros k)=idM D:=by have _:=hr;have _:=h;have _:=hm;rw[zBd,zCy];rfl
theorem zK3{i:Nat}(hi:i<x.zA.length):zBd m D (tK x.zA.length i)=m.zB.getD i []:=by have _:=hr;have _:=h;rw[zBd,zDS hi,zCF,zCy,Jy,yA,J8];show wM m.Prime D m.zB (nw i (1::zeros _)) (idM D)=_;simp only[nw];rw[zCy];show PM m.Prime D (idM D) (m.zB.getD i [])=_;exact zAw (hm.mat i hi)
end
section
variable {x:SPr}{m:zC}{D:Nat} (h:Pres x) (hm:MOk x.zA.length m D) (hr:zIP x m D)
 include h hm hr
theorem zTz(hc:uT (suf x 0)){i:Nat}(hi:i<x.zA.length):∃w,zD3 (x.zA.length:Int) (i:Int)=dq (tK x.zA.length i)∧zOL x (tK x.zA.length i)=dq w∧V (suf x 0) w∧f_J m w=dq (zBd m D w)∧Mat m.Prime D (zBd m D w)∧
  PM m.Prime D (m.zB.getD i []) (zBd m D w)=idM D∧PM m.Prime D (zBd m D w) (m.zB.getD i [])=idM D:=by
 have h6:=h.os.1;have h7:=hm.p.pos;have ok:=h.okAt (k:=0) (by omega);have G:=zCp h (by omega) hc;have fI:(suf x 0).length=x.zA.length:=by grind[xV]
 have hu:V (suf x 0) (tK x.zA.length i):=by grind[zDu]
 obtain⟨w,w1,w2,w3⟩:=zQ7 h hc hu;obtain⟨b,b1,b2,b3⟩:=G.invl hu;have ebw:b=w:=G.cancel_l hu b1 w1 (by rw[b2,w2]);rw[ebw]at b3;have ab:=zCV h.os x.zA.length 0 w (by omega) w1;refine⟨w,?_,w3,w1,?_,zAC (by omega) _ (uV h7.1),?_,?_⟩
 ·unfold zD3
  rw[xD (by omega),bs,wX,K0,if_pos hi,bs,J9];rfl
 ·refine zGE hm h6 ab.1 fun j hj=>?_
  grind
 ·rw[←zK3 h hm.b hr hi,←zN2 h hm.b hr hu w1,w2,zK2 h hm.b hr]
 ·rw[←zK3 h hm.b hr hi,←zN2 h hm.b hr w1 hu,b3,zK2 h hm.b hr]
end
end Go.Pl

namespace Go.Pl
open Go Go.Ab Go.Wk Go.Pc
theorem zAT{p:Int}{c N:Nat}(eS:c+N≤100000){A:Mx}(hr:∀i,i<N→Row p c (A.getD i []))(hl:A.length=N):zR7 A=dq (wd N A):=by
 unfold zR7;rw[xS (body:=zKV A) N (fun i=>A.getD i []++ur N i) (fun i acc hi ha=>by
  have h1:=(hr i hi).1;have e:vT (J1 (c+N) (0:Int)) 0 ((A.getD i []).take (((J1 (c+N) (0:Int)).length)-0))=A.getD i []++J1 N 0:=by unfold vT;rw[Gg,Jn (l:=A.getD i []) (by omega),Lz,Jy,h1,List.drop_replicate];simp
  have e2:ixO (A.getD i []++J1 N (0:Int)) ((c+i:Nat):Int)=dq 0:=by rw[wX,Jg (by omega),h1,K0,if_pos (by omega)]
  unfold zKV;simp only
  rw[hl,yE hi,zI,zW [] (by omega),bs,h1,←Qk,zH (by omega) (by omega),bs,xD (by omega),bs,←Qk,zH (by omega) (by omega),bs,e,e2,bs,J9,Hx _ _ (by omega),h1,L5,qJ,kQ,zR (by simp;omega),bs,zH (by omega) (by omega),bs,cs];rfl) (fun acc=>by
  unfold zKV
  grind),bs]
 rfl
def trM(D:Nat)(A:Mx):Mx:=gl D fun j=>mkv D fun i=>ent A i j
theorem zN3{D:Nat}(hD:D≤3){p:Int}{A:Mx}(hA:Mat p D A){body:List (List Int)×Int→List Int×Int→Option ((List Int×Int)⊕List Int)}{st:List (List Int)×Int}{j:Nat}(hj:j<D)(hs:st.2=(j:Int))
  (hb:∀(acc:List Int)(i:Int),body st (acc,i)=cond (decide (i<(A.length:Int))) ((ixO A i).bind fun v1=>(ixO v1 st.2).bind fun v2=>(zU acc [v2]).bind fun v3=>(rng (i+1)).bind fun v4=>dq (.inl (v3,v4))) (dq (.inr acc))):zG (body st) ([],0)=dq (mkv D fun i=>ent A i j):=
 xS D (fun i=>ent A i j) (fun i acc hi ha=>by
  obtain⟨a1,a2,_,_⟩:=zG8 hA hi hj;rw[hb,hA.1,yE hi,zI,a1,bs,hs,a2,bs,zR (by simp;omega),bs,zH (by omega) (by omega),bs,cs]) (fun acc=>by
  rw[hb,hA.1,wS,zJ])
theorem zJa{D:Nat}(hD:D≤3){p:Int}{A:Mx}(hA:Mat p D A):zTZ A=dq (trM D A):=by
 unfold zTZ;rw[xS (body:=zKT A) D (fun j=>mkv D fun i=>ent A i j) (fun j acc hj ha=>by
  unfold zKT;simp only
  rw[hA.1,yE hj,zI,zN3 hD hA (body:=zR5 A) hj rfl (fun acc i=>rfl),bs,zR (by simp;omega),bs,zH (by omega) (by omega),bs,cs]) (fun acc=>by
  unfold zKT;simp only
  rw[hA.1,wS,zJ]),bs]
 rfl
theorem zFq{D:Nat}(hD:D≤3){p:Int}{A:Mx}(hA:Mat p D A):zUb (zF.mk p (D:Int) A)=dq (zF.mk p (D:Int) (trM D A)):=by
 unfold zUb;rw[xS (body:=zKZ (zF.mk p (D:Int) A)) D (fun j=>mkv D fun i=>ent A i j) (fun j acc hj ha=>by
  unfold zKZ;simp only
  rw[yE hj,zI,zN3 hD hA (body:=zR9 (zF.mk p (D:Int) A)) hj rfl (fun acc i=>rfl),bs,zR (by simp;omega),bs,zH (by omega) (by omega),bs,cs]) (fun acc=>by
  unfold zKZ;simp),bs]
 simp only
 rw[hA.1];rfl
section
variable {p:Int} (hp:Prime p) {D:Nat} (hD:D≤3) {A Y:Mx} (hA:Mat p D A) (hY:Mat p D Y) (h1:PM p D A Y=idM D) (h2:PM p D Y A=idM D)
 include hp hD hA hY h1 h2
def iv(D:Nat)(Y:Mx):Mx:=gl D fun i=>ur D i++Y.getD i []
 omit hp hD hA h1 h2 in
theorem zAU{i j:Nat}(hi:i<D)(hj:j<D):ent (iv D Y) i j=if j=i then 1 else 0:=by
  have _:=hY;rw[ent,iv,yF hi,zEc,ur,zO,if_pos hj,zK hj]
 omit hp hD hA h1 h2 in
theorem zGP{i j:Nat}(hi:i<D):ent (iv D Y) i (D+j)=ent Y i j:=by have _:=hY;rw[ent,iv,yF hi,zEc,ur,zO,if_neg (by omega),L5]
theorem zWB:Red p (D+D) (iv D Y) (fun i=>i):=by
 have h7:=hp.pos;have _:=hD;have _:=hA;have _:=h1;have _:=h2;have hl:(iv D Y).length=D:=yG;refine⟨fun i hi=>?_,fun i hi=>by omega,fun i hi=>?_,fun i hi j hj=>?_,fun i k hi hk gf=>?_,fun i j ev hj=>ev⟩
 ·rw[hl]at hi
  refine⟨by rw[iv,yF hi,Ji,ur,zO,(hY.2 i hi).1],fun j hj=>?_⟩;rcases Jm j D with g|g
  ·have e:=zAU hY hi g
   grind
  ·have e:=zGP hY (j:=j-D) hi
   rw[show D+(j-D)=j from by omega]at e;simp only[ent]at e;rw[e];exact(hY.2 i hi).2 (j-D) (by omega)
 ·rw[hl]at hi
  rw[zAU hY hi hi,if_pos rfl]
 ·rw[hl]at hi
  rw[zAU hY hi (by omega),if_neg (by omega)]
 ·rw[hl]at hi hk
  rw[zAU hY hk hi,if_neg (Ne.symm gf)]
theorem zN4{B C:Mx}(hB:Mat p D B)(h:PM p D B C=idM D){i j:Nat}(hi:i<D)(hj:j<D):(S D fun l=>ent B i l*ent C l j)%p=if j=i then 1 else 0:=by have _:=hp;have _:=hD;have _:=hA;have _:=hY;have _:=h1;have _:=h2;rw[←zIN hB.1 hi hj,h,ent,vR hi,zK hj]
theorem zYP{W:Mx}{pv:Nat→Nat}{t:Nat}(h:Nul p D D A W pv t):W=iv D Y:=by
 have h7:=hp.pos;have hl:(iv D Y).length=D:=yG;refine h.red.unique (by omega) (zWB hp hD hA hY h1 h2) ⟨fun q hq=>?_,fun i hi=>?_⟩
 ·have hg:=(zQ2 (by omega) h.row h.red h.sp h.le h.lo h.hi).1 (vU (p:=p) (n:=D+D) (R:=W) (i:=q) hq)
  refine⟨fun i=>ent W q i,fun j hj=>?_⟩;rw[hl];rcases Jm j D with g|g
  ·rw[vH (k:=j) g (fun i hi gf=>by rw[zAU hY hi g,if_neg (Ne.symm gf),Jw]),zAU hY g g,if_pos rfl,K7]
  ·obtain⟨l,rfl⟩:∃l,j=D+l:=⟨j-D,by omega⟩
   have e1:(S D fun i=>ent W q i*ent (iv D Y) i (D+l))%p=(S D fun i=>(S D fun k=>ent W q (D+k)*ent A k i)*ent Y i l)%p:=wY fun i hi=>by rw[zGP hY hi,J6,show ent W q i%p=_ from hg i hi,←J6]
   have e2:(S D fun i=>(S D fun k=>ent W q (D+k)*ent A k i)*ent Y i l)=S D fun k=>ent W q (D+k)*S D fun i=>ent A k i*ent Y i l:=by
    rw[yC (g:=fun i=>S D fun k=>ent W q (D+k)*(ent A k i*ent Y i l)) (fun i hi=>by rw[←zFc];grind),zCs]
    exact yC (by grind[vK])
   have e3:(S D fun k=>ent W q (D+k)*S D fun i=>ent A k i*ent Y i l)%p=(S D fun k=>ent W q (D+k)*if l=k then 1 else 0)%p:=wY fun k hk=>by
    rw[J6,zN4 hp hD hA hY h1 h2 hA h1 hk (by omega),J6 (ent W q (D+k)) (if l=k then 1 else 0)]
    congr 2
    split
    ·rw[K5 (by omega) (by omega)]
    ·rfl
   rw[e1,e2,e3,vH (k:=l) (by omega) (by grind),if_pos rfl,K7]
 ·rw[hl]at hi
  refine(zQ2 (by omega) h.row h.red h.sp h.le h.lo h.hi).2 fun j hj=>?_
  have e1:=zAU hY hi hj;simp only[ent]at e1;have e2:=zN4 hp hD hA hY h1 h2 hY h2 hi hj;have e3:(S D fun k=>at0 ((iv D Y).getD i []) (D+k)*ent A k j)=S D fun k=>ent Y i k*ent A k j:=yC fun k _=>by
   have:=zGP hY (j:=k) hi
   grind
  rw[e1,e3,e2];split
  ·rw[K5 (by omega) (by omega)]
  ·rfl
theorem zGQ:zUa (zF.mk p (D:Int) A)=dq (zF.mk p (D:Int) Y,du):=by
 have h7:=hp.pos;obtain⟨W,pv,t,w1,_,w3⟩:=Nul.get hp (c:=D) (N:=D) (by omega) hA.2 hA.1;have hw:=zYP hp hD hA hY h1 h2 w1;subst hw;have hl:(iv D Y).length=D:=yG;unfold zUa;simp only
 rw[zAT (p:=p) (c:=D) (N:=D) (by omega) hA.2 hA.1,bs,w3,bs];have:=zQ (body:=zKY (zF.mk p (D:Int) A) (iv D Y)) (r:=.inl Y) (fun i=>(gl i fun k=>Y.getD k [],(i:Int))) D (fun i hi=>by
  have hY1:=(hY.2 i hi).1;have gm:(ur D i++Y.getD i []).length=D+D:=by grind[ur,zO]
  have e1:=zAU hY hi hi;rw[if_pos rfl,ent,iv,yF hi]at e1;have e2:zP (ur D i++Y.getD i []) (D:Int) ((ur D i++Y.getD i []).length:Int)=dq (Y.getD i []):=by unfold zP;rw[if_pos (by omega),J9,J9,Jn (by simp),List.drop_append_of_le_length (by rw[ur,zO];omega),Ht (by rw[ur,zO];omega),Jy]
  unfold zKY;simp only
  rw[hl,yE hi,zI,iv,zB2 hi,bs,yB (by omega),bs,e1,bne_self_eq_false,zJ,hA.1,e2,bs,zDy (by omega),bs,zR (by rw[yG];simp;omega),bs,zH (by omega) (by omega),bs,cs,kV]) (by
  unfold zKY;simp only
  rw[hl,wS,zJ,show gl D (fun k=>Y.getD k [])=Y from(zIR hY.1).symm])
 grind
end
end Go.Pl

namespace Go.Pl
open Go Go.Ab Go.Wk Go.Pc
theorem zK4{p:Int}(hp:Prime p){n:Nat}(hn:n≤100000){R:Mx}{pv:Nat→Nat}(h:Red p n R pv):f_o p R=dq R∧f_f p R=dq R:=by
 have h7:=hp.pos;have hl:R.length≤n:=h.len_le;obtain⟨R2,pv2,r1,r2,r3,r4⟩:=wG hp hn (rows:=R) (by omega) h.row;have e:=r3.unique (by omega) h r4
 grind
section
variable {p:Int} (hp:Prime p) {c N:Nat} (eS:c+N≤100000) {A W:Mx}{pv:Nat→Nat}{t:Nat}
 include hp eS
theorem zK5(h:Nul p c N A W pv t):zG (zIq (c:Int) W) ([],0)=dq (nul c t W):=by
 have h7:=hp.pos;have hf:=h.full hp eS;have ci:=h.le;have:=zQ (body:=zIq (c:Int) W) (r:=nul c t W) (fun i=>(gl (i-t) (fun k=>(W.getD (t+k) []).drop c),(i:Int))) W.length (fun i hi=>by
  have hr:=h.red.row i hi;have h1:=h.red.one i hi;have e0:zP (W.getD i []) 0 (c:Int)=dq ((W.getD i []).take c):=by unfold zP;rw[if_pos ⟨by omega,by omega,by rw[hr.1];omega⟩,J9,show(0:Int).toNat=0 from rfl,G7,Qw]
  have cI:((W.getD i []).take c).length=c:=by rw[Kl,hr.1];omega
  have hz:=zEf (v:=(W.getD i []).take c) (by omega);unfold zIq;simp only
  rw[yE hi,zI,zW [] hi,bs,e0,bs];rcases Jm i t with g|g
  ·have gY:=h.lo i g
   rcases hz with⟨_,z⟩|⟨z,_⟩
   ·grind
   ·rw[z,bs,zJ,zH (by omega) (by omega),bs,cs,show i-t=0 from by omega,show i+1-t=0 from by omega]
  ·have ef:=h.hi i g hi
   have e:zP (W.getD i []) (c:Int) ((W.getD i []).length:Int)=dq ((W.getD i []).drop c):=by unfold zP;rw[if_pos (by grind),J9,J9,Jn (by rw[H3];omega)]
   rcases hz with⟨z,_⟩|⟨_,z⟩
   ·rw[z,bs,zI,e,bs,zR (by grind),bs,zH (by omega) (by omega),bs,cs,show i+1-t=(i-t)+1 from by omega,←kV,show t+(i-t)=i from by omega]
   ·refine absurd (fun j hj=>?_) z
    rw[cI]at hj;rw[zEd hj];have:=h.red.low i hi j (by omega);omega) (by
  unfold zIq;simp only
  rw[wS,zJ];rfl)
 grind
theorem zIf(hr:∀i,i<N→Row p c (A.getD i []))(hl:A.length=N):∃K pk,zMu p A (c:Int)=dq K∧zUp p A (c:Int)=dq K∧Red p N K pk∧ ∀x,Sp p N K x↔ ∀j,j<c→(S N fun k=>at0 x k*ent A k j)%p=0:=by
 obtain⟨W,pv,t,h1,h2,h3⟩:=Nul.get hp eS hr hl;refine⟨nul c t W,_,?_,?_,h1.nred hp eS,fun x=>h1.nsp hp eS⟩
 ·grind[zMu,zId,zIe]
 ·unfold zUp
  rw[zAT eS hr hl,bs,h3,bs,zK5 hp eS h1,bs,(zK4 hp (by omega) (h1.nred hp eS)).2,bs]
end
section
variable {n D:Nat}{m:zC} (hm:MOk n m D) (hn:n≤14)
def qT(m:zC)(D i k:Nat):List Int:=(gl i fun g=>mvr m.Prime D (m.zB.getD g []) k).flatten
def fxR(m:zC)(n D:Nat):Mx:=gl D fun k=>qT m D n k
theorem zEG{i k:Nat}:(qT m D i k).length=i*D:=kW fun _ _=>zO _ _
theorem zLY{i k:Nat}:qT m D i k++mvr m.Prime D (m.zB.getD i []) k=qT m D (i+1) k:=by
 grind[qT,zCL]
 include hm hn
theorem zWC:∀k,k<D→Row m.Prime (n*D) ((fxR m n D).getD k []):=by have _:=hn;intro k hk;rw[fxR,yF hk];refine zIU.2 ⟨zEG,fun v hv=>?_⟩;obtain⟨r,h1,h2⟩:=Hl.1 hv;obtain⟨g,hg,rfl⟩:=Ja.1 h1;exact(zIU.1 (zNu hm.p hm.d3 (hm.mat g (Jp.1 hg)) hk)).2 v h2
theorem zT0:zG (zLl m) ([],0)=dq (fxR m n D):=by
 have h3:=hm.d3;refine xS D (fun k=>qT m D n k) (fun k acc hk ha=>?_) (fun acc=>?_)
 ·have gM:=qM (body:=zLk m (acc,(k:Int))) n D (fun g=>mvr m.Prime D (m.zB.getD g []) k) [] (fun _ _=>zO _ _) (fun g w hg hw=>by
   have ez:w.length=g*D:=by grind
   have hgD:g*D≤14*3:=Jj (by omega) h3;unfold zLk;simp only
   rw[hm.len,yE hg,zI,zW [] (by rw[hm.len];exact hg),bs,zGI hm.p h3 (hm.mat g hg),bs,mvd,zB2 hk,bs,zR (by rw[mvr,zO];omega),bs,zH (by omega) (by omega),bs,cs]) (fun w=>by
   unfold zLk;simp only
   rw[hm.len,wS,zJ])
  rw[Jy]at gM;unfold zLl;simp only
  rw[hm.d,yE hk,zI,gM,bs,zR (by simp;omega),bs,zH (by omega) (by omega),bs,cs];rfl
 ·unfold zLl
  simp only
  rw[hm.d,wS,zJ]
theorem zT1{x:SPr}(hx:x.zA.length=n):zG (zOX x m) (J1 D ([]:List Int),0)=dq (fxR m n D):=by
 have h3:=hm.d3;have:=zQ (body:=zOX x m) (r:=fxR m n D) (fun i=>(gl D fun k=>qT m D i k,(i:Int))) n (fun i hi=>by
  have hiD:i*D≤14*3:=Jj (by omega) h3;have tk:(mvd m.Prime D (m.zB.getD i [])).length=D:=yG;have gM:=zQ (body:=zRO (mvd m.Prime D (m.zB.getD i []))) (r:=gl D fun k=>qT m D (i+1) k) (fun k=>(gl D fun j=>if j<k then qT m D (i+1) j else qT m D i j,(k:Int))) D (fun k hk=>by
   have cj:(qT m D i k).length=i*D:=zEG;unfold zRO;simp only
   rw[tk,yE hk,zI,mvd,zB2 hk,bs,zB2 hk,bs,if_neg (by omega),zR (by grind[mvr,zO]),bs,zH (by omega) (by omega),bs,cs,J9,zLR,zLY]
   grind) (by
   unfold zRO
   simp_all)
  have e0:(gl D fun j=>if j<0 then qT m D (i+1) j else qT m D i j)=gl D fun k=>qT m D i k:=rfl
  rw[e0,show((0:Nat):Int)=0 from rfl]at gM;unfold zOX;simp only
  rw[hx,yE hi,zI,zGJ hm.p h3 (hm.mat i hi) rfl (zW [] (by rw[hm.len];exact hi)),bs,gM,bs,zH (by omega) (by omega),bs,cs]) (by
  unfold zOX;simp only
  rw[hx,wS,zJ];rfl)
 have e:J1 D ([]:List Int)=gl D fun k=>qT m D 0 k:=by rw[show(gl D fun k=>qT m D 0 k)=gl D fun _=>([]:List Int)from rfl];simp[gl,List.map_const']
 grind
end
end Go.Pl

namespace Go.Pl
open Go Go.Ab Go.Wk Go.Pc
theorem zGR{α:Type}{F:α→List Int}{D c:Nat}(hc:c<D):∀(L:List α)(a:Nat)(q:α),(∀q∈L,(F q).length=D)→L[a]? =dq q→at0 ((L.map F).flatten) (a*D+c)=at0 (F q) c
 | [],a,q,_,h=>by simp at h
 |y::L,0,q,hF,h=>by grind
 |y::L,a+1,q,hF,h=>by have h1:=hF y (by simp);simp only[Qy]at h;rw[Jl,List.flatten_cons,zEc,Kx,if_neg (by omega),show a*D+D+c-(F y).length=a*D+c from by omega];exact zGR hc L a q (by grind) h
def sS(n D:Nat)(v:List Int):Mx:=gl n fun i=>mkv D fun j=>at0 v (i*D+j)
end Go.Pl

namespace Go.Pl
open Go Go.Ab Go.Wk Go.Pc
end Go.Pl

namespace Go.Pl
open Go Go.Ab Go.Wk Go.Pc
theorem uH{n D i:Nat}(hi:i<n):i*D+D≤n*D:=by
 have:=Kf D (show i+1≤n by omega)
 grind
end Go.Pl

namespace Go.Pl
open Go Go.Ab Go.Wk Go.Pc
end Go.Pl

namespace Go.Pl
open Go Go.Ab Go.Wk Go.Pc
def rsM(p:Int)(D N:Nat)(U:Mx)(pv:Nat→Nat)(A:Mx):Mx:=gl N fun k=>mkv N fun l=>at0 (yL p D (U.getD k []) A) (pv l)
section
variable {n D:Nat}{m:zC} (hm:MOk n m D) (hn:n≤14) {U:Mx}{pv:Nat→Nat} (hU:Red m.Prime D U pv) (hI:Inv m n D U)
 include hm hn hU hI
theorem zHn{x:SPr}(hx:x.zA.length=n):zG (zPa x m (zF.mk m.Prime (D:Int) U)) ([],0)=dq (gl n fun i=>rsM m.Prime D U.length U pv (m.zB.getD i [])):=by
 have _:=hI;have h7:=hm.p.pos;have h3:=hm.d3;have tv:U.length≤D:=hU.len_le;refine xS n (fun i=>rsM m.Prime D U.length U pv (m.zB.getD i [])) (fun i acc hi ha=>?_) (fun acc=>?_)
 ·have fj:(PM m.Prime D U (m.zB.getD i [])).length=U.length:=yU
  have gM:=xS (body:=zRS (zF.mk m.Prime (D:Int) U) (zF.mk m.Prime (D:Int) (PM m.Prime D U (m.zB.getD i [])))) U.length (fun k=>mkv U.length fun l=>at0 (yL m.Prime D (U.getD k []) (m.zB.getD i [])) (pv l)) (fun k z hk hz=>by
   have hr:=uK (p:=m.Prime) (D:=D) (r:=U.getD k []) (B:=m.zB.getD i []) (by omega);have hl:=xS (body:=zRR (yL m.Prime D (U.getD k []) (m.zB.getD i [])) (gl U.length fun i=>(pv i:Int))) U.length (fun l=>at0 (yL m.Prime D (U.getD k []) (m.zB.getD i [])) (pv l)) (fun l w hl hw=>by
    unfold zRR;simp only
    rw[yG,yE hl,zI,zB2 hl,bs,yB (by rw[hr.1];exact hU.lt l hl),bs,zR (by simp;omega),bs,zH (by omega) (by omega),bs,cs]) (fun w=>by
    simp_all[zRR])
   unfold zRS;simp only
   rw[fj,yE hk,zI,zW [] (by omega),bs,qK hk,zCv hm.p (by omega) hU (by omega),bs,hl,bs,zR (by simp;omega),bs,zH (by omega) (by omega),bs,cs];rfl) (fun z=>by
   simp_all[zRS])
  unfold zPa;simp only
  rw[hx,yE hi,zI,tE hm hn hi,bs,zBc hm.p h3 (by omega) hU.row (hm.mat i hi),bs,gM,bs,zR (by simp;omega),bs,zH (by omega) (by omega),bs,cs];rfl
 simp_all[zPa]
end
def yD(D N:Nat)(pv:Nat→Nat):List Nat:=(Jf D).filter fun c=>(Jf N).all fun i=>pv i != c
abbrev zCz(D N:Nat)(pv:Nat→Nat):List Int:=(yD D N pv).map fun(c:Nat)=>(c:Int)
theorem zBe{D N:Nat}{pv:Nat→Nat}{a:Nat}(h:a<(yD D N pv).length):(yD D N pv).getD a 0<D:=by grind[yD,Kz]
theorem zF8{D N:Nat}{pv:Nat→Nat}:(yD D N pv).length≤D:=by have:=List.length_filter_le (fun c=>(Jf N).all fun i=>pv i != c) (Jf D);rw[U5]at this;exact this
theorem zN5{D N:Nat}{pv:Nat→Nat}{a:Nat}(h:a<(yD D N pv).length):ixO (zCz D N pv) (a:Int)=dq (((yD D N pv).getD a 0:Nat):Int):=by grind[wX]
theorem zQ8{D N:Nat}{pv:Nat→Nat}:zCz (D+1) N pv=if(Jf N).all (fun i=>pv i != D)then zCz D N pv++[(D:Int)]else zCz D N pv:=by
 simp only[zCz,yD,Kj,G6,Hk]
 grind
theorem zHo{N:Nat}{pv:Nat→Nat}{c:Nat}(hN:N≤1000000):zUq (gl N fun i=>(pv i:Int)) (c:Int)=dq (!((Jf N).all fun i=>pv i != c)):=by
 unfold zUq zXa;rcases chk (body:=zLm (gl N fun i=>(pv i:Int)) (c:Int)) N 0 (Kd _) (fun i=>pv i≠c) (fun i=>(i:Int)) (fun i _ hi _=>by
   unfold zLm;rw[yG,yE hi,zI,zB2 hi,bs]
   by_cases e:pv i=c
   ·grind
   ·rw[zFf (by omega:(c:Int)≠(pv i:Int)),zJ,zH (by omega) (by omega),bs,cs];grind) (by
   simp_all[zLm])with⟨g1,g2⟩|⟨i,_,hi,g1,g2⟩
 ·grind
 ·rw[show((0:Nat):Int)=0 from rfl]at g1
  have e:((Jf N).all fun i=>pv i != c)=dv:=by grind
  simp_all
section
variable {p:Int} (hp:Prime p) {D:Nat} (hD:D≤1000) {U:Mx}{pv:Nat→Nat} (hU:Red p D U pv)
 include hp hD hU
theorem zK6{m:zC}{u:zF}(hd:m.Dim=(D:Int))(hu:u.Rows=U):zG (zOY m u) ([],0)=dq (zCz D U.length pv):=by
 have tv:U.length≤D:=hU.len_le;have e2:=zQ (body:=zOY m u) (r:=zCz D U.length pv) (fun c=>(zCz c U.length pv,(c:Int))) D (fun c hc=>by
  have hl:(zCz c U.length pv).length≤c:=by grind[zF8]
  unfold zOY;simp only
  rw[hd,yE hc,zI,hu,zCv hp (by omega) hU (by omega),bs,zHo (by omega),bs,Bool.not_not,zQ8];cases(Jf U.length).all fun i=>pv i != c
  ·rw[zJ,zH (by omega) (by omega),bs,cs];simp
  ·rw[zI,zR (by grind),bs,zH (by omega) (by omega),bs,cs];simp) (by
  simp_all[zOY])
 exact e2
end
def qtM(p:Int)(D:Nat)(U:Mx)(pv:Nat→Nat)(A:Mx):Mx:=gl (yD D U.length pv).length fun a=>mkv (yD D U.length pv).length fun b=>at0 (cl p D U pv (A.getD ((yD D U.length pv).getD a 0) []) U.length) ((yD D U.length pv).getD b 0)
section
variable {n D:Nat}{m:zC} (hm:MOk n m D) (hn:n≤14) {U:Mx}{pv:Nat→Nat} (hU:Red m.Prime D U pv)
 include hm hn hU
theorem zO8{x:SPr}(hx:x.zA.length=n):zG (zOZ x m (zF.mk m.Prime (D:Int) U) (zCz D U.length pv)) ([],0)=dq (gl n fun i=>qtM m.Prime D U pv (m.zB.getD i [])):=by
 have h7:=hm.p.pos;have h3:=hm.d3;have tv:U.length≤D:=hU.len_le;have bo:(zCz D U.length pv).length=(yD D U.length pv).length:=by simp
 have hoD:=zF8 (D:=D) (N:=U.length) (pv:=pv);refine xS n (fun i=>qtM m.Prime D U pv (m.zB.getD i [])) (fun i acc hi ha=>?_) (fun acc=>?_)
 ·have hA:=hm.mat i hi
  have gM:=xS (body:=zRQ m (zF.mk m.Prime (D:Int) U) (zCz D U.length pv) (acc,(i:Int))) (yD D U.length pv).length (fun a=>mkv (yD D U.length pv).length fun b=>at0 (cl m.Prime D U pv ((m.zB.getD i []).getD ((yD D U.length pv).getD a 0) []) U.length) ((yD D U.length pv).getD b 0)) (fun a z ha' hz=>by
   have gF:=zBe ha';have hr:=hA.2 _ gF;have gJ:=zAE hm.p (by omega) hU hr U.length;have he:=xS (body:=zRP (zCz D U.length pv) (cl m.Prime D U pv ((m.zB.getD i []).getD ((yD D U.length pv).getD a 0) []) U.length)) (yD D U.length pv).length (fun b=>at0 (cl m.Prime D U pv ((m.zB.getD i []).getD ((yD D U.length pv).getD a 0) []) U.length) ((yD D U.length pv).getD b 0)) (fun b w hb hw=>by
    unfold zRP;simp only
    rw[bo,yE hb,zI,zN5 hb,bs,yB (by rw[gJ.1];exact zBe hb),bs,zR (by simp;omega),bs,zH (by omega) (by omega),bs,cs]) (fun w=>by
    simp_all[zRP])
   unfold zRQ;simp only
   rw[bo,yE ha',zI,zN5 ha',bs,zW [] (by rw[hm.len];exact hi),bs,zW [] (by rw[hA.1];exact gF),bs,zCw hm.p (by omega) hU hr (by omega),bs,he,bs,zR (by simp;omega),bs,zH (by omega) (by omega),bs,cs];rfl) (fun z=>by
   simp_all[zRQ])
  unfold zOZ;simp only
  rw[hx,yE hi,zI,gM,bs,zR (by simp;omega),bs,zH (by omega) (by omega),bs,cs];rfl
 simp_all[zOZ]
end
end Go.Pl

namespace Go.Pl
open Go Go.Ab Go.Wk Go.Pc
end Go.Pl

namespace Go.Pl
open Go Go.Ab Go.Wk Go.Pc
theorem zC0{p:Int}{D:Nat}{r:List Int}(hr:Row p D r):yL p D r (idM D)=r:=by
 conv=>rhs;rw[vA hr.1]
 refine yK fun j hj=>?_
 have:=hr.2 j hj;have e:∀l,l<D→ent (idM D) l j=if j=l then 1 else 0:=fun l hl=>by rw[ent,vR hl,zK hj]
 rw[vH (k:=j) hj (by grind),e j hj,if_pos rfl,K7,wK this]
theorem zCM{p:Int}{D:Nat}{r:List Int}{A B:Mx}(hA:A.length=D):yL p D (yL p D r A) B=yL p D r (PM p D A B):=by
 refine yK fun j hj=>?_
 have e1:S D (fun l=>at0 (yL p D r A) l*ent B l j)%p=S D (fun l=>S D (fun i=>at0 r i*ent A i l)*ent B l j)%p:=wY (by grind[yL,zK,J6,Je]);have e2:S D (fun l=>at0 r l*ent (PM p D A B) l j)%p=S D (fun i=>at0 r i*S D (fun l=>ent A i l*ent B l j))%p:=wY (by grind[zIN,J6,Je]);rw[e1,e2]
 congr 1
 have e3:S D (fun l=>S D (fun i=>at0 r i*ent A i l)*ent B l j)=S D (fun l=>S D (fun i=>at0 r i*ent A i l*ent B l j)):=yC (by grind[zFc]);rw[e3,zCs];refine yC fun i _=>?_
 rw[←vK];exact yC (by grind)
end Go.Pl

namespace Go.Pl
open Go Go.Ab Go.Wk Go.Pc
end Go.Pl

namespace Go.Pl
open Go Go.Ab Go.Wk Go.Pc
end Go.Pl

namespace Go.Pl
open Go Go.Ab Go.Wk Go.Pc
end Go.Pl

namespace Go.Pl
open Go Go.Ab Go.Wk Go.Pc
end Go.Pl

namespace Go.Pl
open Go Go.Ab Go.Wk Go.Pc
end Go.Pl

namespace Go.Pl
open Go Go.Ab Go.Wk Go.Pc
end Go.Pl

namespace Go.Pl
open Go Go.Ab Go.Wk Go.Pc
end Go.Pl

namespace Go.Pl
open Go Go.Ab Go.Wk Go.Pc
end Go.Pl

namespace Go.Pl
open Go Go.Ab Go.Wk Go.Pc
end Go.Pl

namespace Go.Pl
open Go Go.Ab Go.Wk Go.Pc
end Go.Pl

namespace Go.Pl
open Go Go.Ab Go.Wk Go.Pc
end Go.Pl

namespace Go.Pl
open Go Go.Ab Go.Wk Go.Pc
end Go.Pl

namespace Go.Pl
open Go Go.Ab Go.Wk Go.Pc
end Go.Pl

namespace Go.Pl
open Go Go.Ab Go.Wk Go.Pc
end Go.Pl

namespace Go.Pl
open Go Go.Ab Go.Wk Go.Pc
end Go.Pl

namespace Go.Pl
open Go Go.Ab Go.Wk Go.Pc
end Go.Pl

namespace Go.Pl
open Go Go.Ab Go.Wk Go.Pc
end Go.Pl

namespace Go.Pl
open Go Go.Ab Go.Wk Go.Pc
end Go.Pl

namespace Go.Pl
open Go Go.Ab Go.Wk Go.Pc
end Go.Pl

namespace Go.Pl
open Go Go.Ab Go.Wk Go.Pc
end Go.Pl

namespace Go.Pl
open Go Go.Ab Go.Wk Go.Pc
end Go.Pl

namespace Go.Pl
open Go Go.Ab Go.Wk Go.Pc
theorem zJb{D q l:Nat}(hl:l<D):(q*D+l)/D=q∧(q*D+l)%D=l:=by grind[H5,Nat.mul_add_div,Nat.div_eq_of_lt,Nat.mul_add_mod,Nat.mod_eq_of_lt]
end Go.Pl

namespace Go.Pl
open Go Go.Ab Go.Wk Go.Pc
end Go.Pl

namespace Go.Pl
open Go Go.Ab Go.Wk Go.Pc
end Go.Pl

namespace Go.Pl
open Go Go.Ab Go.Wk Go.Pc
end Go.Pl

namespace Go.Pl
open Go Go.Ab Go.Wk Go.Pc
end Go.Pl

namespace Go.Pl
open Go Go.Ab Go.Wk Go.Pc
end Go.Pl

namespace Go.Pl
open Go Go.Ab Go.Wk Go.Pc
end Go.Pl

namespace Go.Pl
open Go Go.Ab Go.Wk Go.Pc
end Go.Pl

namespace Go.Pl
open Go Go.Ab Go.Wk Go.Pc
end Go.Pl

namespace Go.Pl
open Go Go.Ab Go.Wk Go.Pc
end Go.Pl

namespace Go.Pl
open Go Go.Ab Go.Wk Go.Pc
end Go.Pl

namespace Go.Pl
open Go Go.Ab Go.Wk Go.Pc
end Go.Pl

namespace Go.Pl
open Go Go.Ab Go.Wk Go.Pc
end Go.Pl

namespace Go.Pl
open Go Go.Ab Go.Wk Go.Pc
end Go.Pl

namespace Go.Pl
open Go Go.Ab Go.Wk Go.Pc
end Go.Pl

namespace Go.Pl
open Go Go.Ab Go.Wk Go.Pc
end Go.Pl

namespace Go.Pl
open Go Go.Ab Go.Wk Go.Pc
end Go.Pl

namespace Go.Pl
open Go Go.Ab Go.Wk Go.Pc
end Go.Pl

namespace Go.Pl
open Go Go.Ab Go.Wk Go.Pc
end Go.Pl

namespace Go.Pl
open Go Go.Ab Go.Wk Go.Pc
end Go.Pl

namespace Go.Pl
open Go Go.Ab Go.Wk Go.Pc
end Go.Pl

namespace Go.Pl
open Go Go.Ab Go.Wk Go.Pc
end Go.Pl

namespace Go.Pl
open Go Go.Ab Go.Wk Go.Pc
end Go.Pl

namespace Go.Pl
open Go Go.Ab Go.Wk Go.Pc
end Go.Pl

namespace Go.Pl
open Go Go.Ab Go.Wk Go.Pc
end Go.Pl

namespace Go.Pl
open Go Go.Ab Go.Wk Go.Pc
end Go.Pl

namespace Go.Pl
open Go Go.Ab Go.Wk Go.Pc
end Go.Pl

namespace Go.Pl
open Go Go.Ab Go.Wk Go.Pc
end Go.Pl

namespace Go.Pl
open Go Go.Ab Go.Wk Go.Pc
end Go.Pl

namespace Go.Pl
open Go Go.Ab Go.Wk Go.Pc
end Go.Pl

namespace Go.Pl
open Go Go.Ab Go.Wk Go.Pc
end Go.Pl

namespace Go.Pl
open Go Go.Ab Go.Wk Go.Pc
end Go.Pl

namespace Go.Pl
open Go Go.Ab Go.Wk Go.Pc
end Go.Pl

namespace Go.Pl
open Go Go.Ab Go.Wk Go.Pc
end Go.Pl

namespace Go.Pl
open Go Go.Ab Go.Wk Go.Pc
end Go.Pl

namespace Go.Pl
open Go Go.Ab Go.Wk Go.Pc
end Go.Pl

namespace Go.Pl
open Go Go.Ab Go.Wk Go.Pc
end Go.Pl

namespace Go.Pl
open Go Go.Ab Go.Wk Go.Pc
end Go.Pl

namespace Go.Pl
open Go Go.Ab Go.Wk Go.Pc
end Go.Pl

namespace Go.Pl
open Go Go.Ab Go.Wk Go.Pc
end Go.Pl

namespace Go.Pl
open Go Go.Ab Go.Wk Go.Pc
end Go.Pl

namespace Go.Pl
open Go Go.Ab Go.Wk Go.Pc
end Go.Pl

namespace Go.Pl
open Go Go.Ab Go.Wk Go.Pc
end Go.Pl

namespace Go.Pl
open Go Go.Ab Go.Wk Go.Pc
end Go.Pl

namespace Go.Pl
open Go Go.Ab Go.Wk Go.Pc
end Go.Pl

namespace Go.Pl
open Go Go.Ab Go.Wk Go.Pc
end Go.Pl

namespace Go.Pl
open Go Go.Ab Go.Wk Go.Pc
end Go.Pl

namespace Go.Pl
open Go Go.Ab Go.Wk Go.Pc
end Go.Pl

namespace Go.Pl
open Go Go.Ab Go.Wk Go.Pc
end Go.Pl

namespace Go.Pl
open Go Go.Ab Go.Wk Go.Pc
end Go.Pl

namespace Go.Pl
open Go Go.Ab Go.Wk Go.Pc
end Go.Pl

namespace Go.Pl
open Go Go.Ab Go.Wk Go.Pc
end Go.Pl

namespace Go.Pl
open Go Go.Ab Go.Wk Go.Pc
end Go.Pl

namespace Go.Pl
open Go Go.Ab Go.Wk Go.Pc
variable {x:SPr}{w:Pres x∧uT (suf x 0)}
end Go.Pl

namespace Go.Pl
open Go Go.Ab Go.Wk Go.Pc
variable {x:SPr}{w:Pres x∧uT (suf x 0)}
end Go.Pl

namespace Go.Pl
open Go Go.Ab Go.Wk Go.Pc
end Go.Pl

namespace Go.Pl
open Go Go.Ab Go.Wk Go.Pc
end Go.Pl

namespace Go.Pl
open Go Go.Ab Go.Wk Go.Pc
end Go.Pl

namespace Go.Pl
open Go Go.Ab Go.Wk Go.Pc
end Go.Pl

namespace Go.Pl
open Go Go.Ab Go.Wk Go.Pc
end Go.Pl

namespace Go.Pl
open Go Go.Ab Go.Wk Go.Pc
end Go.Pl

namespace Go.Pl
open Go Go.Ab Go.Wk Go.Pc
end Go.Pl

namespace Go.Pl
open Go Go.Ab Go.Wk Go.Pc
end Go.Pl

namespace Go.Pl
open Go Go.Ab
def Le{α:Type}(a b:Option α):Prop:=∀r,a=dq r→b=dq r
class LeC {α:Type} (a b:Option α):Prop where
 h:Le a b
theorem Le.rf{α:Type}{a:Option α}:Le a a:=fun _ h=>h
theorem Le.bd{α β:Type}{a b:Option α}{f g:α→Option β}(h:Le a b)(k:∀x,Le (f x) (g x)):Le (a.bind f) (b.bind g):=by
 intro r hr;cases ha:a with
 |none=>rw[ha]at hr;cases hr
 |some x=>rw[ha]at hr;rw[h x ha];exact k x r hr
theorem Le.cd{α:Type}{c:Bool}{a b a' b':Option α}(h:Le a b)(k:Le a' b'):Le (cond c a a') (cond c b b'):=by
 cases c
 ·exact k
 ·exact h
theorem Le.lp{σ ρ:Type}{e f:σ→Option (σ⊕ρ)}{n:Nat}{s:σ}(h:∀s,Le (e s) (f s)):Le (yY e n s) (zG f s):=by
 intro r hr;rw[zBB];refine⟨n,?_⟩
 induction n generalizing s with
 |zero=>cases hr
 |succ n ih=>
  simp only[yY]at hr ⊢
  cases he:e s with
  |none=>rw[he]at hr;cases hr
  |some x=>
   rw[he]at hr;rw[h s x he];cases x with
   |inl s'=>exact ih hr
   |inr r'=>exact hr
theorem leS{α:Type}{a b:Option α}(h:Le a b:=by
 repeat' first
  |with_reducible exact Le.rf
  |exact LeC.h
  |with_reducible refine Le.bd ?_ fun _=>?_
  |with_reducible refine Le.cd ?_ ?_
  |with_reducible refine Le.lp fun _=>?_
  |(rename_i x;cases x using Sum.casesOn<;>dsimp only)
  |fail):Le a b:=h
theorem Le.fu{α:Type}{g:Nat→Option α}{n:Nat}(h:∀n,Le (g n) (g (n+1))):Le (g n) (zCg g):=fun r hr=>
 zBt n fun m hm=>by
  induction m with
  |zero=>rw[show 0=n from by omega];exact hr
  |succ m ih=>
   rcases Nat.eq_or_lt_of_le hm with e|e
   ·rw[←e];exact hr
   ·exact h m r (ih (by omega))
end Go.Pl

namespace Go.Wk
open Go Go.Ab Go.Pl
noncomputable def uX (x0:List Int):Option Int:=
 (yY (zOE x0) 400 (1,0)).bind fun r5=>
 dq r5
noncomputable def vZ (x0:List Int) (x1:List Int) (x2:Int):Option Bool:=
 cond ((x1.length:Int) != (x0.length:Int)) (
  dq dv) (
  (yY (zKK x0 x1 x2) 400 0).bind fun r6=>
  match r6 with
  |(.inl _)=>
   dq du
  |(.inr r6)=>
   dq r6)
noncomputable def uM (x0:SPr) (s7:Int) (s8:Int):Option (Int⊕(Unit⊕Bool)):=
 (ixO x0.zD s7).bind fun v11=>
 cond (decide (s8<(v11.length:Int))) (
  (ixO x0.zD s7).bind fun v12=>
  (ixO v12 s8).bind fun v13=>
  (vZ x0.zA v13 s7).bind fun r14=>
  cond (!r14) (
   dq (.inr (.inr dv))) (
   (rng (s8+1)).bind fun v15=>
   dq (.inl v15))) (
  dq (.inr (.inl ())))
noncomputable def uN (x0:SPr) (s7:Int):Option (Int⊕(Unit⊕Bool)):=
 cond (decide (s7<(x0.zA.length:Int))) (
  (ixO x0.zN s7).bind fun v6=>
  (vZ x0.zA v6 s7).bind fun r7=>
  cond (!r7) (
   dq (.inr (.inr dv))) (
   (ixO x0.zD s7).bind fun v8=>
   (rng ((x0.zA.length:Int)-1)).bind fun v9=>
   (rng (v9-s7)).bind fun v10=>
   cond ((v8.length:Int) != v10) (
    dq (.inr (.inr dv))) (
    (yY (uM x0 s7) 400 0).bind fun r16=>
    match r16 with
    |(.inl _)=>
     (rng (s7+1)).bind fun v17=>
     dq (.inl v17)
    |(.inr r16)=>
     dq (.inr (.inr r16))))) (
  dq (.inr (.inl ())))
noncomputable def uY (x0:SPr):Option Bool:=
 cond (decide ((x0.zA.length:Int)> 6)) (
  dq dv) (
  cond ((x0.zN.length:Int) != (x0.zA.length:Int)) (
   dq dv) (
   cond ((x0.zD.length:Int) != (x0.zA.length:Int)) (
    dq dv) (
    (yY (zOF x0) 400 0).bind fun r4=>
    match r4 with
    |(.inl _)=>
     (uX x0.zA).bind fun r5=>
     cond (decide (r5> 729)) (
      dq dv) (
      (yY (uN x0) 400 0).bind fun r18=>
      match r18 with
      |(.inl _)=>
       dq du
      |(.inr r18)=>
       dq r18)
    |(.inr r4)=>
     dq r4)))
noncomputable def zAh (x0:List Int) (x1:List Int):Option Bool:=
 cond ((x0.length:Int) != (x1.length:Int)) (
  dq dv) (
  (yY (zWP x0 x1) 400 0).bind fun r4=>
  match r4 with
  |(.inl _)=>
   dq du
  |(.inr r4)=>
   dq r4)
noncomputable def qN (x0:Int) (x1:List Int) (x2:List (List Int)) (s5:(List Int)×Int):Option (((List Int)×Int)⊕(List Int)):=
 cond (decide (s5.2<(x1.length:Int))) (
  cond (decide (s5.2<(x2.length:Int))) (
   (yY (zOG x0 x1 x2 s5) 400 (s5.1,0)).bind fun r12=>
   (rng (s5.2+1)).bind fun v13=>
   dq (.inl (r12,v13))) (
   dq (.inr s5.1))) (
  dq (.inr s5.1))
noncomputable def jT (x0:Int) (x1:List Int) (x2:List (List Int)) (x3:Int):Option (List Int):=
 (zZ x3).bind fun m1=>
 (yY (qN x0 x1 x2) 400 (J1 m1 (0:Int),0)).bind fun r14=>
 dq r14
noncomputable def sD (x0:Int) (x1:List (List Int)) (x2:List (List Int)) (x3:Int) (s1:(List (List Int))×Int):Option (((List (List Int))×Int)⊕(List (List Int))):=
 cond (decide (s1.2<(x1.length:Int))) (
  (ixO x1 s1.2).bind fun v1=>
  (jT x0 v1 x2 x3).bind fun r2=>
  (zU s1.1 [r2]).bind fun v3=>
  (rng (s1.2+1)).bind fun v4=>
  dq (.inl (v3,v4))) (
  dq (.inr s1.1))
noncomputable def sT (x0:Int) (x1:List (List Int)) (x2:List (List Int)) (x3:Int):Option (List (List Int)):=
 (yY (sD x0 x1 x2 x3) 400 ([],0)).bind fun r5=>
 dq r5
noncomputable def zAi (x0:List Int):Option Bool:=
 (yY (zRG x0) 400 0).bind fun r3=>
 match r3 with
 |(.inl _)=>
  dq du
 |(.inr r3)=>
  dq r3
noncomputable def tB (x0:List (List Int)):Option (List (List Int)):=
 (yY (zOS x0) 400 ([],0)).bind fun r5=>
 dq r5
noncomputable def sE (x0:List Int) (s5:(List (List Int))×(List (List (List Int)))×Int):Option (((List (List Int))×(List (List (List Int)))×Int)⊕((List (List Int))×(List (List (List Int))))):=
 cond (decide (s5.2.2<(x0.length:Int))) (
  (zZ (x0.length:Int)).bind fun m2=>
  (zU s5.1 [J1 m2 (0:Int)]).bind fun v3=>
  (rng (s5.2.2+1)).bind fun v4=>
  (yY (zPb x0) 400 ([],v4)).bind fun r8=>
  (zU s5.2.1 [r8]).bind fun v9=>
  (rng (s5.2.2+1)).bind fun v10=>
  dq (.inl (v3,v9,v10))) (
  dq (.inr (s5.1,s5.2.1)))
noncomputable def wA (x0:List Int):Option SPr:=
 (f_y x0).bind fun r1=>
 (yY (sE x0) 400 ([],[],0)).bind fun r11=>
 dq (SPr.mk r1 r11.1 r11.2)
noncomputable def sF (s5:Int×(List Int)×Int):Option ((Int×(List Int)×Int)⊕(Int×(List Int))):=
 cond (decide (s5.2.2≤7)) (
  (yY (zRV s5) 400 (s5.1,s5.2.1)).bind fun r5=>
  (rng (s5.2.2+1)).bind fun v6=>
  dq (.inl (r5.1,r5.2,v6))) (
  dq (.inr (s5.1,s5.2.1)))
noncomputable def wL (x0:Int):Option ((List Int)×Bool):=
 (yY sF 400 (x0,[],2)).bind fun r7=>
 dq (r7.2,(r7.1==1))
noncomputable def wE (x0:Int):Option (SPr×Int):=
 (zGW x0 1 729).bind fun r1=>
 cond (!r1) (
  dq ((SPr.mk [] [] []),2)) (
  (wL x0).bind fun r2=>
  cond (!r2.2) (
   dq ((SPr.mk [] [] []),2)) (
   cond (decide ((r2.1.length:Int)> 6)) (
    dq ((SPr.mk [] [] []),3)) (
    (wA r2.1).bind fun r3=>
    (yY (zNS r2) 400 (r3.zN,0)).bind fun r9=>
    dq ((SPr.mk r3.zA r9 r3.zD),0))))
noncomputable def uA (x0:List Int) (x1:Int) (x2:Int):Option (List Int):=
 (zZ (x0.length:Int)).bind fun m1=>
 (yY (zRW x0) 400 (x2,J1 m1 (0:Int),x1)).bind fun r8=>
 dq r8
noncomputable def tV (x0:Int) (x1:Int) (x2:Int):Option Int:=
 (yO 1 x2).bind fun v1=>
 (yY (zRX x2) 400 (x0,x1,v1)).bind fun r11=>
 dq r11
noncomputable def jU (v4:List Int) (s7:(List (List (List Int)))×Int×Int) (s8:(List (List (List Int)))×Int):Option (((List (List (List Int)))×Int)⊕(List (List (List Int)))):=
 cond (decide (s8.2<(v4.length:Int))) (
  (ixO s8.1 s7.2.2).bind fun v18=>
  (rng (s8.2-s7.2.2)).bind fun v19=>
  (rng (v19-1)).bind fun v20=>
  (uA v4 s8.2 s7.2.1).bind fun r21=>
  (ixO v18 v20).bind fun _=>
  (rng (s8.2+1)).bind fun v23=>
  dq (.inl (s8.1.set s7.2.2.toNat (v18.set v20.toNat r21),v23))) (
  dq (.inr s8.1))
noncomputable def jV (x1:Int) (r1:(List Int)×Bool) (v4:List Int) (s7:(List (List (List Int)))×Int×Int):Option (((List (List (List Int)))×Int×Int)⊕(List (List (List Int)))):=
 cond (decide (s7.2.2<(r1.1.length:Int))) (
  (yY (jU v4 s7) 400 (s7.1,(r1.1.length:Int))).bind fun r24=>
  (ixO r1.1 s7.2.2).bind fun v25=>
  (tV s7.2.1 v25 x1).bind fun r26=>
  (rng (s7.2.2+1)).bind fun v27=>
  dq (.inl (r24,r26,v27))) (
  dq (.inr s7.1))
noncomputable def jW (v4:List Int) (s15:(List (List (List Int)))×Int×Int) (s16:(List (List (List Int)))×Int):Option (((List (List (List Int)))×Int)⊕(List (List (List Int)))):=
 cond (decide (s16.2<(v4.length:Int))) (
  (ixO s16.1 s15.2.2).bind fun v30=>
  (rng (s16.2-s15.2.2)).bind fun v31=>
  (rng (v31-1)).bind fun v32=>
  (uA v4 s16.2 s15.2.1).bind fun r33=>
  (ixO v30 v32).bind fun _=>
  (rng (s16.2+1)).bind fun v35=>
  dq (.inl (s16.1.set s15.2.2.toNat (v30.set v32.toNat r33),v35))) (
  dq (.inr s16.1))
noncomputable def jY (x1:Int) (r1:(List Int)×Bool) (v4:List Int) (s15:(List (List (List Int)))×Int×Int):Option (((List (List (List Int)))×Int×Int)⊕(List (List (List Int)))):=
 cond (decide (s15.2.2<(r1.1.length:Int))) (
  (yY (jW v4 s15) 400 (s15.1,(r1.1.length:Int))).bind fun r36=>
  (ixO r1.1 s15.2.2).bind fun v37=>
  (tV s15.2.1 v37 x1).bind fun r38=>
  (rng (s15.2.2+1)).bind fun v39=>
  dq (.inl (r36,r38,v39))) (
  dq (.inr s15.1))
noncomputable def xT (x0:Int) (x1:Int) (x2:Int) (x3:Int):Option SPr:=
 (wL x0).bind fun r1=>
 (wL x1).bind fun r2=>
 (f_y r1.1).bind fun r3=>
 (zU r3 r2.1).bind fun v4=>
 (wA v4).bind fun r5=>
 (yY (zUs r1 v4) 400 (r5.zN,0)).bind fun r13=>
 cond (decide ((r1.1.length:Int)> 0)) (
  (rng ((r1.1.length:Int)-1)).bind fun v14=>
  (uA v4 (r1.1.length:Int) x3).bind fun r15=>
  (ixO r13 v14).bind fun _=>
  (yO x2 x1).bind fun v17=>
  (yY (jV x1 r1 v4) 400 (r5.zD,v17,0)).bind fun r28=>
  dq (SPr.mk r5.zA (r13.set v14.toNat r15) r28)) (
  (yO x2 x1).bind fun v29=>
  (yY (jY x1 r1 v4) 400 (r5.zD,v29,0)).bind fun r40=>
  dq (SPr.mk r5.zA r13 r40))
noncomputable def sU (x0:Int) (x1:List (List Int)) (r1:(List Int)×Bool) (s13:(List (List (List Int)))×(List (List Int))×Int) (s16:(List (List Int))×Int):Option (((List (List Int))×Int)⊕(List (List Int))):=
 (ixO r1.1 s13.2.2).bind fun v23=>
 cond (decide (s16.2<v23)) (
  (sT x0 s16.1 s13.2.1 (x1.length:Int)).bind fun r24=>
  (rng (s16.2+1)).bind fun v25=>
  dq (.inl (r24,v25))) (
  dq (.inr s16.1))
noncomputable def sV (x0:Int) (x1:List (List Int)) (r1:(List Int)×Bool) (s13:(List (List (List Int)))×(List (List Int))×Int):Option (((List (List (List Int)))×(List (List Int))×Int)⊕(List (List (List Int)))):=
 cond (decide (s13.2.2<(r1.1.length:Int))) (
  (yY (zUv x1 r1 s13) 400 (s13.1,0)).bind fun r22=>
  (yY (sU x0 x1 r1 s13) 400 (s13.2.1,1)).bind fun r26=>
  (rng (s13.2.2+1)).bind fun v27=>
  dq (.inl (r22,r26,v27))) (
  dq (.inr s13.1))
noncomputable def xW (x0:Int) (x1:List (List Int)) (x2:Int):Option SPr:=
 (wL x2).bind fun r1=>
 (f_y r1.1).bind fun r2=>
 (yY (zXb x0 x1) 400 (r2,0)).bind fun r5=>
 (wA r5).bind fun r6=>
 (yY (zUu r1 r5) 400 (r6.zN,0)).bind fun r12=>
 (tB x1).bind fun r13=>
 (yY (sV x0 x1 r1) 400 (r6.zD,r13,0)).bind fun r28=>
 dq (SPr.mk r6.zA r12 r28)
noncomputable def uO (x0:ByteArray) (x1:Int):Option (List ByteArray):=
 (yY (zSe x0 x1) 400 ([],0,0)).bind fun r7=>
 (zFo x0 r7.2 (x0.size:Int)).bind fun v8=>
 (zU r7.1 [v8]).bind fun v9=>
 dq v9
noncomputable def jZ (x0:ByteArray):Option Int:=
 cond ((x0.size:Int)==0) (
  dq (-1)) (
  cond (decide ((x0.size:Int)> 6)) (
   dq (-1)) (
   cond (decide ((x0.size:Int)> 1)) (
    (zAL x0 0).bind fun v1=>
    cond (v1==48) (
     dq (-1)) (
     (yY (zSf x0) 400 (0,0)).bind fun r8=>
     match r8 with
     |(.inl r8)=>
      dq r8
     |(.inr r8)=>
      dq r8)) (
    (yY (zSg x0) 400 (0,0)).bind fun r15=>
    match r15 with
    |(.inl r15)=>
     dq r15
    |(.inr r15)=>
     dq r15)))
noncomputable def sW (r1:(List ByteArray)) (s1:(List Int)×Int):Option (((List Int)×Int)⊕((List Int)⊕((List Int)×Bool))):=
 cond (decide (s1.2<(r1.length:Int))) (
  (ixO r1 s1.2).bind fun v2=>
  (jZ v2).bind fun r3=>
  (zFr r3).bind fun r4=>
  cond (!r4) (
   dq (.inr (.inr ([],dv)))) (
   cond (decide (s1.2≥6)) (
    dq (.inr (.inr ([],dv)))) (
    (zU s1.1 [r3]).bind fun v5=>
    (rng (s1.2+1)).bind fun v6=>
    dq (.inl (v5,v6))))) (
  dq (.inr (.inl s1.1)))
noncomputable def qO (x0:ByteArray):Option ((List Int)×Bool):=
 cond (zCT x0 (ByteArray.mk #[49])) (
  dq ([],du)) (
  (uO x0 32).bind fun r1=>
  (yY (sW r1) 400 ([],0)).bind fun r7=>
  match r7 with
  |(.inl r7)=>
   (uX r7).bind fun r8=>
   dq (r7,decide (r8≤729))
  |(.inr r7)=>
   dq r7)
noncomputable def kA (x0:Int) (x1:ByteArray):Option ((List Int)×Bool):=
 cond (zCT x1 (ByteArray.mk #[49])) (
  dq ([],du)) (
  (yY (zSh x0 x1) 400 ([],0)).bind fun r14=>
  match r14 with
  |(.inl r14)=>
   dq (r14,decide ((r14.length:Int)> 0))
  |(.inr r14)=>
   dq r14)
noncomputable def qP (x0:Int) (x1:List Int):Option ((List Int)×Bool):=
 (zZ x0).bind fun m1=>
 (yY (zSi x1) 400 (J1 m1 (0:Int),0)).bind fun r11=>
 match r11 with
 |(.inl r11)=>
  dq (r11,du)
 |(.inr r11)=>
  dq r11
noncomputable def zAj (x0:SPr) (s1:(List (List (List Int)))×Int):Option (((List (List (List Int)))×Int)⊕(List (List (List Int)))):=
 cond (decide (s1.2<(x0.zD.length:Int))) (
  (ixO x0.zD s1.2).bind fun v3=>
  (tB v3).bind fun r4=>
  (zU s1.1 [r4]).bind fun v5=>
  (rng (s1.2+1)).bind fun v6=>
  dq (.inl (v5,v6))) (
  dq (.inr s1.1))
noncomputable def zAH (x0:SPr):Option SPr:=
 (f_y x0.zA).bind fun r1=>
 (tB x0.zN).bind fun r2=>
 (yY (zAj x0) 400 ([],0)).bind fun r7=>
 dq (SPr.mk r1 r2 r7)
noncomputable def tR (x0:Int):Option ByteArray:=zJk 40 x0
noncomputable def sG (x0:SPr) (x1:ByteArray):Option (SPr×Bool):=
 (uO x1 61).bind fun r1=>
 cond ((r1.length:Int) != 2) (
  dq (x0,dv)) (
  (ixO r1 0).bind fun v2=>
  cond ((v2.size:Int) != 4) (
   dq (x0,dv)) (
   (ixO r1 0).bind fun v3=>
   (zAL v3 0).bind fun v4=>
   cond (v4 != 32) (
    dq (x0,dv)) (
    (ixO r1 0).bind fun v5=>
    (zAL v5 2).bind fun v6=>
    cond (v6 != 94) (
     dq (x0,dv)) (
     (ixO r1 1).bind fun v7=>
     (kA (x0.zA.length:Int) v7).bind fun r8=>
     cond (!r8.2) (
      dq (x0,dv)) (
      (qP (x0.zA.length:Int) r8.1).bind fun r9=>
      (ixO r1 0).bind fun v10=>
      (zAL v10 1).bind fun v11=>
      (rng ((IntKind.wrap .i64 v11)-97)).bind fun v12=>
      (ixO r1 0).bind fun v13=>
      (zAL v13 3).bind fun v14=>
      (rng ((IntKind.wrap .i64 v14)-97)).bind fun v15=>
      cond (!r9.2) (
       dq (x0,dv)) (
       cond (decide (v12<0)) (
        dq (x0,dv)) (
        cond (decide (v12≥(x0.zA.length:Int))) (
         dq (x0,dv)) (
         (zAH x0).bind fun r16=>
         (ixO r1 0).bind fun v17=>
         (zFo v17 3 (v17.size:Int)).bind fun v18=>
         (ixO x0.zA v12).bind fun v19=>
         (tR v19).bind fun r20=>
         cond (zCT v18 r20) (
          (ixO r16.zN v12).bind fun _=>
          dq ((SPr.mk r16.zA (r16.zN.set v12.toNat r9.1) r16.zD),du)) (
          cond (decide (v15<0)) (
           dq (x0,dv)) (
           cond (decide (v15≥v12)) (
            dq (x0,dv)) (
            (ixO r16.zD v15).bind fun v22=>
            (rng (v12-v15)).bind fun v23=>
            (rng (v23-1)).bind fun v24=>
            (ixO v22 v24).bind fun _=>
            dq ((SPr.mk r16.zA r16.zN (r16.zD.set v15.toNat (v22.set v24.toNat r9.1))),du))))))))))))
noncomputable def tC (x0:List Int):Option ByteArray:=
 cond ((x0.length:Int)==0) (
  dq (ByteArray.mk #[49])) (
  (yY (zSj x0) 400 ([],0)).bind fun r12=>
  dq (b2s r12))
noncomputable def uB (x0:Int):Option ByteArray:=
 (rng (x0+1)).bind fun v1=>
 (tC [v1]).bind fun r2=>
 dq r2
noncomputable def kD (x0:List Int) (s5:(List Int)×Int):Option (((List Int)×Int)⊕(List Int)):=
 cond (decide (s5.2<(x0.length:Int))) (
  (yY (zSk x0 s5) 400 (s5.1,0)).bind fun r5=>
  (rng (s5.2+1)).bind fun v6=>
  dq (.inl (r5,v6))) (
  dq (.inr s5.1))
noncomputable def sN (x0:List Int):Option (List Int):=
 (yY (kD x0) 400 ([],0)).bind fun r7=>
 dq r7
noncomputable def kE (x0:SPr) (s1:ByteArray×Int):Option ((ByteArray×Int)⊕ByteArray):=
 cond (decide (s1.2<(x0.zA.length:Int))) (
  cond (decide (s1.2> 0)) (
   (wW s1.1 (ByteArray.mk #[32])).bind fun v1=>
   (ixO x0.zA s1.2).bind fun v2=>
   (tR v2).bind fun r3=>
   (wW v1 r3).bind fun v4=>
   (rng (s1.2+1)).bind fun v5=>
   dq (.inl (v4,v5))) (
   (ixO x0.zA s1.2).bind fun v6=>
   (tR v6).bind fun r7=>
   (wW s1.1 r7).bind fun v8=>
   (rng (s1.2+1)).bind fun v9=>
   dq (.inl (v8,v9)))) (
  dq (.inr s1.1))
noncomputable def kF (x0:SPr) (s3:ByteArray×Int):Option ((ByteArray×Int)⊕ByteArray):=
 cond (decide (s3.2<(x0.zA.length:Int))) (
  (ixO x0.zN s3.2).bind fun v11=>
  (zAi v11).bind fun r12=>
  cond (!r12) (
   (wW s3.1 (ByteArray.mk #[59,32])).bind fun v13=>
   (uB s3.2).bind fun r14=>
   (wW v13 r14).bind fun v15=>
   (wW v15 (ByteArray.mk #[94])).bind fun v16=>
   (ixO x0.zA s3.2).bind fun v17=>
   (tR v17).bind fun r18=>
   (wW v16 r18).bind fun v19=>
   (wW v19 (ByteArray.mk #[61])).bind fun v20=>
   (ixO x0.zN s3.2).bind fun v21=>
   (sN v21).bind fun r22=>
   (tC r22).bind fun r23=>
   (wW v20 r23).bind fun v24=>
   (rng (s3.2+1)).bind fun v25=>
   dq (.inl (v24,v25))) (
   (rng (s3.2+1)).bind fun v26=>
   dq (.inl (s3.1,v26)))) (
  dq (.inr s3.1))
noncomputable def kG (x0:SPr) (s9:ByteArray×Int) (s10:ByteArray×Int):Option ((ByteArray×Int)⊕ByteArray):=
 cond (decide (s10.2<(x0.zA.length:Int))) (
  (ixO x0.zD s9.2).bind fun v29=>
  (rng (s10.2-s9.2)).bind fun v30=>
  (rng (v30-1)).bind fun v31=>
  (ixO v29 v31).bind fun v32=>
  (zD3 (x0.zA.length:Int) s10.2).bind fun r33=>
  (zAh v32 r33).bind fun r34=>
  cond (!r34) (
   (wW s10.1 (ByteArray.mk #[59,32])).bind fun v35=>
   (uB s10.2).bind fun r36=>
   (wW v35 r36).bind fun v37=>
   (wW v37 (ByteArray.mk #[94])).bind fun v38=>
   (uB s9.2).bind fun r39=>
   (wW v38 r39).bind fun v40=>
   (wW v40 (ByteArray.mk #[61])).bind fun v41=>
   (ixO x0.zD s9.2).bind fun v42=>
   (rng (s10.2-s9.2)).bind fun v43=>
   (rng (v43-1)).bind fun v44=>
   (ixO v42 v44).bind fun v45=>
   (sN v45).bind fun r46=>
   (tC r46).bind fun r47=>
   (wW v41 r47).bind fun v48=>
   (rng (s10.2+1)).bind fun v49=>
   dq (.inl (v48,v49))) (
   (rng (s10.2+1)).bind fun v50=>
   dq (.inl (s10.1,v50)))) (
  dq (.inr s10.1))
noncomputable def kH (x0:SPr) (s9:ByteArray×Int):Option ((ByteArray×Int)⊕ByteArray):=
 cond (decide (s9.2<(x0.zA.length:Int))) (
  (rng (s9.2+1)).bind fun v28=>
  (yY (kG x0 s9) 400 (s9.1,v28)).bind fun r51=>
  (rng (s9.2+1)).bind fun v52=>
  dq (.inl (r51,v52))) (
  dq (.inr s9.1))
noncomputable def zAk (x0:SPr):Option ByteArray:=
 cond ((x0.zA.length:Int)==0) (
  dq (ByteArray.mk #[49])) (
  (yY (kE x0) 400 ((ByteArray.mk #[]),0)).bind fun r10=>
  (yY (kF x0) 400 (r10,0)).bind fun r27=>
  (yY (kH x0) 400 (r27,0)).bind fun r53=>
  dq r53)
noncomputable def vL (r1:(List ByteArray)) (s1:(List Int)×(List (List Int))×(List (List (List Int)))×Int):Option (((List Int)×(List (List Int))×(List (List (List Int)))×Int)⊕(((List Int)×(List (List Int))×(List (List (List Int))))⊕(SPr×Int))):=
 cond (decide (s1.2.2.2<(r1.length:Int))) (
  (ixO r1 s1.2.2.2).bind fun v5=>
  (sG (SPr.mk s1.1 s1.2.1 s1.2.2.1) v5).bind fun r6=>
  cond (!r6.2) (
   dq (.inr (.inr ((SPr.mk [] [] []),6)))) (
   (rng (s1.2.2.2+1)).bind fun v7=>
   dq (.inl (r6.1.zA,r6.1.zN,r6.1.zD,v7)))) (
  dq (.inr (.inl (s1.1,s1.2.1,s1.2.2.1))))
noncomputable def vV (x0:ByteArray):Option (SPr×Int):=
 (uO x0 59).bind fun r1=>
 (ixO r1 0).bind fun v2=>
 (qO v2).bind fun r3=>
 cond (!r3.2) (
  dq ((SPr.mk [] [] []),6)) (
  (wA r3.1).bind fun r4=>
  (yY (vL r1) 400 (r4.zA,r4.zN,r4.zD,1)).bind fun r8=>
  match r8 with
  |(.inl r8)=>
   (uY (SPr.mk r8.1 r8.2.1 r8.2.2)).bind fun r9=>
   cond (!r9) (
    dq ((SPr.mk [] [] []),6)) (
    (zAk (SPr.mk r8.1 r8.2.1 r8.2.2)).bind fun r10=>
    cond (!zCT r10 x0) (
     dq ((SPr.mk [] [] []),6)) (
     dq ((SPr.mk r8.1 r8.2.1 r8.2.2),0)))
  |(.inr r8)=>
   dq r8)
noncomputable def kI (x0:Int):Option SPr:=
 (yO x0 10).bind fun v1=>
 (ixO [(ByteArray.mk #[49]),(ByteArray.mk #[50]),(ByteArray.mk #[50,32,50,59,32,97,94,50,61,98]),(ByteArray.mk #[50,32,51,59,32,98,94,97,61,98,98]),(ByteArray.mk #[51,32,50,32,50,59,32,98,94,97,61,99,59,32,99,94,97,61,98,99]),(ByteArray.mk #[50,32,51,32,50,32,50,59,32,98,94,97,61,98,98,59,32,99,94,97,61,100,59,32,100,94,97,61,99,59,32,99,94,98,61,100,59,32,100,94,98,61,99,100]),(ByteArray.mk #[51,32,50,32,50,32,50,59,32,98,94,50,61,100,59,32,99,94,50,61,100,59,32,98,94,97,61,99,59,32,99,94,97,61,98,99,59,32,99,94,98,61,99,100]),(ByteArray.mk #[50,32,50,32,50,59,32,97,94,50,61,99,59,32,98,94,50,61,99,59,32,98,94,97,61,98,99]),(ByteArray.mk #[50,32,50,32,50,59,32,98,94,97,61,98,99]),(ByteArray.mk #[50,32,50,32,50,32,50,59,32,99,94,97,61,99,100,59,32,99,94,98,61,99,100])] v1).bind fun v2=>
 (vV v2).bind fun r3=>
 cond (r3.2 != 0) (
  (wA [2]).bind fun r4=>
  dq r4) (
  dq r3.1)
instance m_f_spec_l07Product(x0:List Int):LeC (uX x0) (f_P x0):=⟨by unfold uX f_P;exact leS⟩
instance m_f_spec_l07Exponents(x0:List Int)(x1:List Int)(x2:Int):LeC (vZ x0 x1 x2) (zMf x0 x1 x2):=⟨by unfold vZ zMf;exact leS⟩
instance m_l2_spec_IsPresentation(x0:SPr)(s7:Int)(s8:Int):LeC (uM x0 s7 s8) (zMg x0 s7 s8):=⟨by unfold uM zMg;exact leS⟩
instance m_l3_spec_IsPresentation(x0:SPr)(s7:Int):LeC (uN x0 s7) (zJg x0 s7):=⟨by unfold uN zJg;exact leS⟩
instance m_f_spec_IsPresentation(x0:SPr):LeC (uY x0) (f_n x0):=⟨by unfold uY f_n;exact leS⟩
instance m_f_spec_l01Same(x0:List Int)(x1:List Int):LeC (zAh x0 x1) (f_S x0 x1):=⟨by unfold zAh f_S;exact leS⟩
instance m_l2_spec_l02Times(x0:Int)(x1:List Int)(x2:List (List Int))(s5:(List Int)×Int):LeC (qN x0 x1 x2 s5) (zMk x0 x1 x2 s5):=⟨by unfold qN zMk;exact leS⟩
instance m_f_spec_l02Times(x0:Int)(x1:List Int)(x2:List (List Int))(x3:Int):LeC (jT x0 x1 x2 x3) (f_I x0 x1 x2 x3):=⟨by unfold jT f_I;exact leS⟩
instance m_l1_spec_l02Product(x0:Int)(x1:List (List Int))(x2:List (List Int))(x3:Int)(s1:(List (List Int))×Int):LeC (sD x0 x1 x2 x3 s1) (zHq x0 x1 x2 x3 s1):=⟨by unfold sD zHq;exact leS⟩
instance m_f_spec_l02Product(x0:Int)(x1:List (List Int))(x2:List (List Int))(x3:Int):LeC (sT x0 x1 x2 x3) (f_E x0 x1 x2 x3):=⟨by unfold sT f_E;exact leS⟩
instance m_f_spec_l01Zero(x0:List Int):LeC (zAi x0) (zMv x0):=⟨by unfold zAi zMv;exact leS⟩
instance m_f_spec_l01Own2(x0:List (List Int)):LeC (tB x0) (f_N x0):=⟨by unfold tB f_N;exact leS⟩
instance m_l2_spec_l07Trivial(x0:List Int)(s5:(List (List Int))×(List (List (List Int)))×Int):LeC (sE x0 s5) (zJj x0 s5):=⟨by unfold sE zJj;exact leS⟩
instance m_f_spec_l07Trivial(x0:List Int):LeC (wA x0) (f_u x0):=⟨by unfold wA f_u;exact leS⟩
instance m_l2_spec_l07Factors(s5:Int×(List Int)×Int):LeC (sF s5) (zNR s5):=⟨by unfold sF zNR;exact leS⟩
instance m_f_spec_l07Factors(x0:Int):LeC (wL x0) (zMw x0):=⟨by unfold wL zMw;exact leS⟩
instance m_f_spec_CyclicPresentation(x0:Int):LeC (wE x0) (zUr x0):=⟨by unfold wE zUr;exact leS⟩
instance m_f_spec_l07Digits(x0:List Int)(x1:Int)(x2:Int):LeC (uA x0 x1 x2) (zPc x0 x1 x2):=⟨by unfold uA zPc;exact leS⟩
instance m_f_spec_l01Power(x0:Int)(x1:Int)(x2:Int):LeC (tV x0 x1 x2) (zRY x0 x1 x2):=⟨by unfold tV zRY;exact leS⟩
instance m_l2_spec_l07Meta(v4:List Int)(s7:(List (List (List Int)))×Int×Int)(s8:(List (List (List Int)))×Int):LeC (jU v4 s7 s8) (zRZ v4 s7 s8):=⟨by unfold jU zRZ;exact leS⟩
instance m_l3_spec_l07Meta(x1:Int)(r1:(List Int)×Bool)(v4:List Int)(s7:(List (List (List Int)))×Int×Int):LeC (jV x1 r1 v4 s7) (zSa x1 r1 v4 s7):=⟨by unfold jV zSa;exact leS⟩
instance m_l4_spec_l07Meta(v4:List Int)(s15:(List (List (List Int)))×Int×Int)(s16:(List (List (List Int)))×Int):LeC (jW v4 s15 s16) (zSb v4 s15 s16):=⟨by unfold jW zSb;exact leS⟩
instance m_l5_spec_l07Meta(x1:Int)(r1:(List Int)×Bool)(v4:List Int)(s15:(List (List (List Int)))×Int×Int):LeC (jY x1 r1 v4 s15) (zSc x1 r1 v4 s15):=⟨by unfold jY zSc;exact leS⟩
instance m_f_spec_l07Meta(x0:Int)(x1:Int)(x2:Int)(x3:Int):LeC (xT x0 x1 x2 x3) (f_l x0 x1 x2 x3):=⟨by unfold xT f_l;exact leS⟩
instance m_l4_spec_l07Affine(x0:Int)(x1:List (List Int))(r1:(List Int)×Bool)(s13:(List (List (List Int)))×(List (List Int))×Int)(s16:(List (List Int))×Int):LeC (sU x0 x1 r1 s13 s16) (zUw x0 x1 r1 s13 s16):=⟨by unfold sU zUw;exact leS⟩
instance m_l5_spec_l07Affine(x0:Int)(x1:List (List Int))(r1:(List Int)×Bool)(s13:(List (List (List Int)))×(List (List Int))×Int):LeC (sV x0 x1 r1 s13) (zSd x0 x1 r1 s13):=⟨by unfold sV zSd;exact leS⟩
instance m_f_spec_l07Affine(x0:Int)(x1:List (List Int))(x2:Int):LeC (xW x0 x1 x2) (f_s x0 x1 x2):=⟨by unfold xW f_s;exact leS⟩
instance m_f_spec_l01Split(x0:ByteArray)(x1:Int):LeC (uO x0 x1) (zPd x0 x1):=⟨by unfold uO zPd;exact leS⟩
instance m_f_spec_l01Value(x0:ByteArray):LeC (jZ x0) (zUx x0):=⟨by unfold jZ zUx;exact leS⟩
instance m_l1_spec_l07Orders(r1:(List ByteArray))(s1:(List Int)×Int):LeC (sW r1 s1) (zNT r1 s1):=⟨by unfold sW zNT;exact leS⟩
instance m_f_spec_l07Orders(x0:ByteArray):LeC (qO x0) (zUy x0):=⟨by unfold qO zUy;exact leS⟩
instance m_f_spec_l06Parse(x0:Int)(x1:ByteArray):LeC (kA x0 x1) (zUz x0 x1):=⟨by unfold kA zUz;exact leS⟩
instance m_f_spec_l07Vector(x0:Int)(x1:List Int):LeC (qP x0 x1) (zU0 x0 x1):=⟨by unfold qP zU0;exact leS⟩
instance m_l1_spec_l07Own(x0:SPr)(s1:(List (List (List Int)))×Int):LeC (zAj x0 s1) (zLq x0 s1):=⟨by unfold zAj zLq;exact leS⟩
instance m_f_spec_l07Own(x0:SPr):LeC (zAH x0) (f_W x0):=⟨by unfold zAH f_W;exact leS⟩
instance m_f_spec_l01Dec(x0:Int):LeC (tR x0) (f_h x0):=⟨Le.fu (n:=40) (g:=fun n=>zJk n x0) fun n=>by
 induction n generalizing x0 with
 |zero=>intro r h;cases h
 |succ n ih=>
  have:=fun x0=>LeC.mk (ih x0)
  show Le (b_h (zJk n) x0) (b_h (zJk (n+1)) x0);unfold b_h;exact leS⟩
instance m_f_spec_l07Relation(x0:SPr)(x1:ByteArray):LeC (sG x0 x1) (zU1 x0 x1):=⟨by unfold sG zU1;exact leS⟩
instance m_f_spec_l06Text(x0:List Int):LeC (tC x0) (zPe x0):=⟨by unfold tC zPe;exact leS⟩
instance m_f_spec_l07Letter(x0:Int):LeC (uB x0) (zPf x0):=⟨by unfold uB zPf;exact leS⟩
instance m_l2_spec_l07Word(x0:List Int)(s5:(List Int)×Int):LeC (kD x0 s5) (zNU x0 s5):=⟨by unfold kD zNU;exact leS⟩
instance m_f_spec_l07Word(x0:List Int):LeC (sN x0) (zSl x0):=⟨by unfold sN zSl;exact leS⟩
instance m_l1_spec_l07Text(x0:SPr)(s1:ByteArray×Int):LeC (kE x0 s1) (zU2 x0 s1):=⟨by unfold kE zU2;exact leS⟩
instance m_l2_spec_l07Text(x0:SPr)(s3:ByteArray×Int):LeC (kF x0 s3) (zU3 x0 s3):=⟨by unfold kF zU3;exact leS⟩
instance m_l3_spec_l07Text(x0:SPr)(s9:ByteArray×Int)(s10:ByteArray×Int):LeC (kG x0 s9 s10) (zU4 x0 s9 s10):=⟨by unfold kG zU4;exact leS⟩
instance m_l4_spec_l07Text(x0:SPr)(s9:ByteArray×Int):LeC (kH x0 s9) (zU5 x0 s9):=⟨by unfold kH zU5;exact leS⟩
instance m_f_spec_l07Text(x0:SPr):LeC (zAk x0) (f_F x0):=⟨by unfold zAk f_F;exact leS⟩
instance m_l1_spec_ParsePresentation(r1:(List ByteArray))(s1:(List Int)×(List (List Int))×(List (List (List Int)))×Int):LeC (vL r1 s1) (zNV r1 s1):=⟨by unfold vL zNV;exact leS⟩
instance m_f_spec_ParsePresentation(x0:ByteArray):LeC (vV x0) (zU6 x0):=⟨by unfold vV zU6;exact leS⟩
instance m_f_spec_l07Table(x0:Int):LeC (kI x0) (zU7 x0):=⟨by unfold kI zU7;exact leS⟩
end Go.Wk
namespace Go.Pl
open Go Go.Ab Go.Wk
def shB(p:SPr):Bool:=decide (p.zA.length≤6)&&(p.zN.length==p.zA.length)&&p.zN.all (fun v=>v.length==p.zA.length)&&(p.zD.length==p.zA.length)&&(Jf p.zA.length).all fun i=>decide ((p.zD.getD i []).length≤p.zA.length-1-i)&&(p.zD.getD i []).all fun v=>v.length==p.zA.length
def okP(o:Option SPr):Bool:=match o with|some p=>shB p|none=>dv
theorem okP.of{a b:Option SPr}[h:LeC a b](k:okP a=du):∃p,b=dq p∧shB p=du:=by
 cases a with
 |none=>cases k
 |some p=>exact⟨p,h.h p rfl,k⟩
theorem zYQ{m:Int}(h:m∈[3,4,5,6,7,8,9,12]):okP (xT 2 m (m-1) 0)=du:=by revert m;decide+kernel
theorem zYR{m:Int}(h:m∈[4,6,8,12]):okP (xT 2 m (m-1) (m.tdiv 2))=du:=by revert m;decide+kernel
theorem zYS:(okP (xT 3 7 2 0)&&okP (xT 4 5 2 0)&&okP (xT 2 8 3 0)&&okP (xT 2 8 5 0)&&okP (xT 4 4 3 0)&&okP (xT 3 9 4 0))=du:=by decide+kernel
theorem aff:(okP (xW 3 [[2,0],[0,2]] 2)&&okP (xW 3 [[0,1],[2,0]] 4)&&okP (xW 2 [[0,1,0],[0,0,1],[1,1,0]] 7)&&okP (xW 2 [[1,1,0],[0,1,1],[0,0,1]] 4)&&okP (xW 2 [[0,1,0,0],[1,0,0,0],[0,0,0,1],[0,0,1,0]] 2)&&okP (xW 5 [[0,1],[4,4]] 3))=du:=by decide+kernel
theorem cyc{n:Int}(h:n∈[1,4,6,8,9,12,5,7,27,25,36]):okP ((wE n).map (·.1))=du:=by revert n;decide+kernel
theorem zQ9:(Jf 10).all (fun k=>okP (kI k))=du:=by decide+kernel
end Go.Pl

namespace Go.Pl
open Go Go.Ab Go.Wk Go.Pc
def Ans{α:Type}(o:Option α)(P:α→Prop):Prop:=∃r,o=dq r∧P r
theorem Ans.rt{α:Type}{P:α→Prop}{r:α}(h:P r):Ans (dq r) P:=⟨r,rfl,h⟩
theorem Ans.bd{α β:Type}{P:α→Prop}{Q:β→Prop}{o:Option α}{f:α→Option β}(h:Ans o P)(k:∀r,P r→Ans (f r) Q):Ans (o.bind f) Q:=by obtain⟨r,h1,h2⟩:=h;rw[h1,bs];exact k r h2
theorem Ans.mp{α:Type}{P Q:α→Prop}{o:Option α}(h:Ans o P)(k:∀r,P r→Q r):Ans o Q:=by obtain⟨r,h1,h2⟩:=h;exact⟨r,h1,k r h2⟩
theorem Ans.cd{α:Type}{Q:α→Prop}{c:Bool}{a b:Option α}(h:c=du→Ans a Q)(k:c=dv→Ans b Q):Ans (cond c a b) Q:=by
 cases c
 ·exact k rfl
 ·exact h rfl
theorem Ans.rg{β:Type}{Q:β→Prop}{n:Int}{f:Int→Option β}(h:-9223372036854775808≤n∧n≤9223372036854775807)(k:Ans (f n) Q):Ans ((rng n).bind f) Q:=by rw[zH h.1 h.2,bs];exact k
abbrev Ei{α β:Type}(P:α→Prop)(Q:β→Prop)(x:α⊕β):Prop:=match x with|.inl a=>P a|.inr b=>Q b
theorem Ans.lp{σ ρ:Type}{body:σ→Option (σ⊕ρ)}{Q:ρ→Prop}{s:σ}(I:Nat→σ→Prop)(n:Nat)(h0:I 0 s)
  (h:∀i s,i≤n→I i s→Ans (body s) (Ei (fun s'=>i<n∧I (i+1) s') Q)):Ans (zG body s) Q:=by
 refine jQ I n (fun i s hi hs=>?_) (fun s hs=>?_) h0
 ·obtain⟨x,h1,h2⟩:=h i s (by omega) hs
  rcases x with s'|r
  ·exact .inl ⟨s',h1,h2.2⟩
  ·exact .inr ⟨r,h1,h2⟩
 ·obtain⟨x,h1,h2⟩:=h n s (by omega) hs
  rcases x with s'|r
  ·omega
  ·exact⟨r,h1,h2⟩
theorem Ans.jn{σ ρ:Type}{body:σ→Option (σ⊕ρ)}{Q:ρ→Prop}{s:σ}(h:Ans (body s) (Ei (fun _=>False) Q)):Ans (zG body s) Q:=by
 obtain⟨x,h1,h2⟩:=h;rcases x with s'|r
 ·exact h2.elim
 ·exact⟨r,by rw[yN,h1],h2⟩
structure Src (s:zE):Prop where
 b:∀i(h:i<s.code.length),0≤s.code[i]∧s.code[i]≤255
 l:s.code.length≤68719476736
 a:0≤s.at_∧s.at_≤s.code.length
 s:0≤s.seed∧s.seed<2147483647
theorem wr{n:Int}(h:0≤n∧n≤255):IntKind.wrap .i64 n=n:=zBr (by simp[inR];omega)
theorem zF9{m n:Int}(hn:0<n)(hm:0≤m):Ans (yO m n) fun r=>0≤r∧r<n:=by unfold yO;rw[if_neg (by omega)];exact .rt ⟨Int.tmod_nonneg _ hm,Qt _ hn⟩
theorem yR{s:zE}(hs:Src s){n:Int}(hn:n≤68719476736):Ans (f_e s n) fun r=>Src r.2∧0≤r.1∧(r.1<n∨n≤1∧r.1=0):=by
 have h1:=hs.s;have h2:=hs.a;have hl:=hs.l;unfold f_e;refine .cd (fun h=>.rt ⟨hs,by omega,.inr ⟨by simpa using h,rfl⟩⟩) fun h=>?_
 have hn:1<n:=by simpa using h
 refine .rg (by omega) (.rg (by omega) (.bd (zF9 (by omega) (by omega)) fun v hv=>?_));have:xL v 47=dq (v.tdiv 47):=by
  have h3:=Qj hv.1 (show(0:Int)≤47 by omega);have h4:v.tdiv 47≤v:=by rw[Hm hv.1];omega
  unfold xL;rw[if_neg (by omega),zH (by omega) (by omega)]
 rw[this,bs];have h3:=Qj hv.1 (show(0:Int)≤47 by omega);have h4:v.tdiv 47≤v:=by rw[Hm hv.1];omega
 have key:∀{x:Int}{s':zE},0≤x→Src s'→Ans ((yO x n).bind fun v=>dq (v,s')) fun r=>Src r.2∧0≤r.1∧(r.1<n∨n≤1∧r.1=0):=fun hx gR=>
  .bd (zF9 (by omega) hx) fun v hv=>.rt ⟨gR,hv.1,.inl hv.2⟩
 refine .cd (fun h=>?_) fun h=>?_
 ·have h:s.at_<s.code.length:=by simpa using h
  obtain⟨i,hi⟩:∃i:Nat,s.at_=i:=⟨s.at_.toNat,by omega⟩;have hb:=hs.b i (by omega);rw[hi,zAu (by omega),bs,wr hb];refine .rg (by omega) (.rg (by omega) ?_);have hS:Src (zE.mk s.code (i+1) v):=⟨hs.b,hs.l,by simp only;omega,hv⟩;refine .cd (fun h=>.bd (zF9 (by omega) (by omega)) fun w hw=>.cd (fun h=>.rg (by omega) ?_) fun h=>key (by omega) hS) fun h=>key (by omega) hS
  rw[show((i:Int)+1-1)=i from by omega,zAu (by omega),bs,wr hb];exact key hb.1 hS
 ·exact key h3 ⟨hs.b,hs.l,hs.a,hv⟩
theorem zAV{s:zE}(hs:Src s){l:List Int}(h0:0<l.length)(hl:l.length≤1000):Ans (zEl s l) fun r=>Src r.2∧r.1∈l:=by
 unfold zEl;refine .bd (yR hs (by omega)) fun r hr=>?_
 obtain⟨i,hi⟩:∃i:Nat,r.1=i:=⟨r.1.toNat,by omega⟩;rw[hi,zAu (by omega),bs];exact .rt ⟨hr.1,Kz _⟩
theorem zT2{c:List Int}(hb:∀i(h:i<c.length),0≤c[i]∧c[i]≤255)(hl:c.length≤68719476736):Ans (zLo c) Src:=by
 unfold zLo;refine .bd (P:=fun r=>0≤r∧r<2147483647) (.lp (fun i s=>s.2=i∧0≤s.1∧s.1<2147483647) 64 ⟨rfl,by simp,by simp⟩ fun i s hi hs=>?_) fun r hr=>.rt ⟨hb,hl,⟨Int.le_refl _,by simp only;omega⟩,hr⟩
 unfold zRU;refine .cd (fun h=>.cd (fun h'=>.rg (by omega) ?_) fun _=>.rt hs.2) fun _=>.rt hs.2
 simp only[decide_eq_true_eq]at h h';have:=hb i (by omega);rw[hs.1,zAu (by omega),bs,wr this];refine .rg (by omega) (.bd (zF9 (by omega) (by omega)) fun v hv=>.rg (by omega) (.rt ⟨by omega,by simp only;omega,hv⟩))
end Go.Pl

namespace Go.Pl
open Go Go.Ab Go.Wk Go.Pc
theorem zV1{D k:Nat}(hk:k<D)(hD:D≤1000000):zD3 (D:Int) (k:Int)=dq (uD D k):=zFp hk hD
def trv(os:List Int):SPr:=⟨os,gl os.length fun _=>J1 os.length 0,gl os.length fun i=>gl (os.length-1-i) fun j=>uD os.length (i+1+j)⟩
theorem kJ{os:List Int}(h:os.length≤1000000):f_u os=dq (trv os):=by
 unfold f_u;rw[wT h,bs];have gM:∀i:Nat,i<os.length→zG (zPb os) ([],((i+1:Nat):Int))=dq (gl (os.length-1-i) fun j=>uD os.length (i+1+j)):=fun i hi=>by
  refine zQ (fun j=>(gl j fun j=>uD os.length (i+1+j),((i+1+j:Nat):Int))) (os.length-1-i) (fun j hj=>?_) ?_
  ·unfold zPb
   simp only
   rw[yE (by omega),zI,zV1 (by omega) h,bs,zR (by rw[yG];simp;omega),bs,zH (by omega) (by omega),bs,cs,kV];rfl
  ·unfold zPb
   simp only
   rw[show decide (((i+1+(os.length-1-i):Nat):Int)<os.length)=dv from by simp;omega,zJ]
 have:=zQ (body:=zJj os) (r:=((trv os).zN,(trv os).zD)) (fun i=>(gl i fun _=>J1 os.length 0,(gl i fun i=>gl (os.length-1-i) fun j=>uD os.length (i+1+j)),(i:Int))) os.length (fun i hi=>by
  unfold zJj;simp only
  rw[yE hi,zI,xD (by omega),bs,zR (by rw[yG];simp;omega),bs,zH (by omega) (by omega),bs,cs,gM i hi,bs,zR (by rw[yG];simp;omega),bs,bs,kV,kV (F:=fun i=>gl (os.length-1-i) fun j=>uD os.length (i+1+j))]) (by
  unfold zJj;simp only
  rw[wS,zJ];rfl)
 rw[show zG (zJj os) ([],[],0)=dq ((trv os).zN,(trv os).zD)from this,bs];rfl
structure ShF (p:SPr):Prop where
 n:p.zA.length≤6
 pl:p.zN.length=p.zA.length
 pr:∀v∈p.zN,v.length=p.zA.length
 cl:p.zD.length=p.zA.length
 c:∀i,i<p.zA.length→(p.zD.getD i []).length≤p.zA.length-1-i
 cr:∀i,i<p.zA.length→ ∀v∈p.zD.getD i [],v.length=p.zA.length
theorem shB.iff{p:SPr}(h:shB p=du):ShF p:=by simp only[shB,J2,decide_eq_true_eq,beq_iff_eq,Jt,Jp]at h;exact⟨h.1.1.1.1,h.1.1.1.2,h.1.1.2,h.1.2,fun i hi=>(h.2 i hi).1,fun i hi=>(h.2 i hi).2⟩
theorem okP.sh{a b:Option SPr}[h:LeC a b](k:okP a=du):Ans b ShF:=by obtain⟨p,h1,h2⟩:=okP.of (b:=b) k;exact⟨p,h1,shB.iff h2⟩
theorem zWD{os:List Int}(h:os.length≤6):ShF (trv os):=by
 refine⟨h,yG,fun v hv=>?_,yG,fun i hi=>?_,fun i hi v hv=>?_⟩
 ·simp[trv,gl]at hv;rw[←hv.2];simp[trv]
 ·have hi:i<os.length:=hi
  simp[trv,gl,hi]
 ·have hi:i<os.length:=hi
  simp[trv,gl,hi]at hv;obtain⟨_,_,rfl⟩:=hv;exact zO _ _
structure ShC (N:Nat) (c:List (List (List Int))):Prop where
 l:c.length=N
 r:∀i,i<N→(c.getD i []).length=N-1-i
theorem ShC.set{N:Nat}{c:List (List (List Int))}(h:ShC N c){i j:Nat}(hi:i<N){v:List Int}:ShC N (c.set i ((c.getD i []).set j v)):=by
 refine⟨by rw[La,h.l],fun k hk=>?_⟩;have:=h.l
 by_cases e:k=i
 ·subst e;have:=h.r k hk;grind
 ·have:=h.r k hk;grind
theorem zT3{os:List Int}:ShC os.length (trv os).zD:=⟨yG,fun i hi=>by simp[trv,gl,hi]⟩
theorem zEj{a b:Nat}{v:List Int}(ha:a≤1000)(hb:b≤1000)(hv:v.length≤1000):zLp a v b=dq (J1 a 0++v++J1 b 0):=by unfold zLp;rw[xD (by omega),bs,zR (by simp;omega),bs];unfold yT;rw[if_pos (by simp;omega),bs];simp
theorem zD0{α:Type}{v:List α}{d:α}{i:Nat}(h:i<v.length):v.getD i d∈v:=by grind
theorem zT4{a b:SPr}(ha:ShF a)(hb:ShF b):Ans (f_G a b) fun p=>p.zA.length≤12:=by
 have h1:=ha.n;have h2:=hb.n;unfold f_G;rw[wT (by omega),bs,zR (by omega),bs,kJ (by rw[Ji];omega),bs]
 generalize hN:(a.zA++b.zA).length=N
 have hN':N=a.zA.length+b.zA.length:=by rw[←hN,Ji]
 have hC:ShC N (trv (a.zA++b.zA)).zD:=hN▸zT3;have hP:(trv (a.zA++b.zA)).zN.length=N:=hN▸yG;refine .bd (P:=fun r=>r.1.length=N∧ShC N r.2) (.lp (fun i s=>s.2.2=i∧i≤a.zA.length∧s.1.length=N∧ShC N s.2.1) a.zA.length ⟨rfl,by omega,hP,hC⟩ fun i s hi hs=>?_) fun r hr=>?_
 ·obtain⟨e,_,cN,pt⟩:=hs
  unfold zU9;rw[e];refine .cd (fun h=>?_) fun h=>.rt ⟨cN,pt⟩
  simp only[decide_eq_true_eq]at h;have hv:=ha.pr (a.zN.getD i []) (zD0 (by have:=ha.pl;omega));rw[zW [] (by have:=ha.pl;omega),bs,show(0:Int)=((0:Nat):Int)from rfl,zEj (by omega) (by omega) (by omega),bs,zW [] (by omega),bs];have hci:=ha.c i (by omega);refine .bd (P:=ShC N) (.lp (fun j t=>t.2=j∧ShC N t.1) (a.zD.getD i []).length ⟨rfl,pt⟩ fun j t hj ht=>?_) fun c hc=>.rg (by omega) (.rt ⟨by omega,by simp only;omega,by omega,by simp only[La];omega,hc⟩)
  unfold zU8;rw[e,ht.1,zW [] (by have:=ha.cl;omega),bs];refine .cd (fun h=>?_) fun h=>.rt ht.2
  simp only[decide_eq_true_eq]at h;have hv:=ha.cr i (by omega) ((a.zD.getD i []).getD j []) (zD0 (by omega));have hr:=ht.2.r i (by omega);rw[zW [] (by have:=ht.2.l;omega),bs,bs,zW [] (by omega),bs,show(0:Int)=((0:Nat):Int)from rfl,zEj (by omega) (by omega) (by omega),bs,zW [] (by omega),bs];exact .rg (by omega) (.rt ⟨by omega,by simp only;omega,ht.2.set (by omega)⟩)
 refine .bd (P:=fun r=>True) (.lp (fun i s=>s.2.2=i∧i≤b.zA.length∧s.1.length=N∧ShC N s.2.1) b.zA.length ⟨rfl,by omega,hr⟩ fun i s hi hs=>?_) fun r hr=>.rt (show(trv _).zA.length≤12 by simp only[trv];omega)
 obtain⟨e,_,cN,pt⟩:=hs;unfold zUB;rw[e];refine .cd (fun h=>.rg (by omega) ?_) fun h=>.rt trivial
 simp only[decide_eq_true_eq]at h;have hv:=hb.pr (b.zN.getD i []) (zD0 (by have:=hb.pl;omega));rw[zW [] (by have:=hb.pl;omega),bs,show(0:Int)=((0:Nat):Int)from rfl,zEj (by omega) (by omega) (by omega),bs,show(a.zA.length:Int)+(i:Int)=((a.zA.length+i:Nat):Int)from by omega,zW [] (by omega),bs];have hci:=hb.c i (by omega);refine .bd (P:=ShC N) (.lp (fun j t=>t.2=j∧ShC N t.1) (b.zD.getD i []).length ⟨rfl,pt⟩ fun j t hj ht=>?_) fun c hc=>.rg (by omega) (.rt ⟨by omega,by simp only;omega,by omega,by simp only[La];omega,hc⟩)
 unfold zUA;rw[e,ht.1,zW [] (by have:=hb.cl;omega),bs];refine .cd (fun h=>.rg (by omega) ?_) fun h=>.rt ht.2
 simp only[decide_eq_true_eq]at h;have hv:=hb.cr i (by omega) ((b.zD.getD i []).getD j []) (zD0 (by omega));have hr:=ht.2.r (a.zA.length+i) (by omega);rw[show(a.zA.length:Int)+(i:Int)=((a.zA.length+i:Nat):Int)from by omega,zW [] (by have:=ht.2.l;omega),bs,bs,zW [] (by omega),bs,show(0:Int)=((0:Nat):Int)from rfl,zEj (by omega) (by omega) (by omega),bs,zW [] (by omega),bs];exact .rg (by omega) (.rt ⟨by omega,by simp only;omega,ht.2.set (by omega)⟩)
theorem zT5{s:zE}(hs:Src s){p:Int}(hp:p≤1000):Ans (zUt s p) fun r=>ShF r.1∧Src r.2:=by
 unfold zUt;rw[kJ (by simp),bs];have e:trv [p,p,p]=⟨[p,p,p],[[0,0,0],[0,0,0],[0,0,0]],[[[0,1,0],[0,0,1]],[[0,0,1]],[]]⟩:=rfl;rw[e];have key:∀{x y:List Int}{t:zE},x.length=3→y.length=3→Src t→Ans (dq ((SPr.mk [p,p,p] [x,y,[0,0,0]] [[[0,1,1],[0,0,1]],[[0,0,1]],[]]),t)) fun r=>ShF r.1∧Src r.2:=fun hx hy ht=>.rt ⟨shB.iff (by simp[shB,hx,hy,Kj]),ht⟩
 rw[show ixO (SPr.mk [p,p,p] [[0,0,0],[0,0,0],[0,0,0]] [[[0,1,0],[0,0,1]],[[0,0,1]],[]]).zD 0=dq [[0,1,0],[0,0,1]]from rfl,bs,show ixO [[(0:Int),1,0],[0,0,1]] 0=dq [0,1,0]from rfl,bs];refine .bd (yR hs (by omega)) fun r hr=>.cd (fun _=>.bd (yR hr.1 (by omega)) fun r1 gE=>?_) fun _=>key rfl rfl hr.1
 rw[show ixO (SPr.mk [p,p,p] [[0,0,0],[0,0,0],[0,0,0]] [[[0,1,0],[0,0,1]],[[0,0,1]],[]]).zN 0=dq [0,0,0]from rfl,bs];refine .bd (yR gE.1 (by omega)) fun r2 gA=>?_
 rw[show ixO ((SPr.mk [p,p,p] [[0,0,0],[0,0,0],[0,0,0]] [[[0,1,0],[0,0,1]],[[0,0,1]],[]]).zN.set (0:Int).toNat [0,0,r1.1]) 1=dq [0,0,0]from rfl,bs];exact key rfl rfl gA.1
theorem zIg{s:zE}(hs:Src s):Ans (zSn s) fun r=>ShF r.1∧Src r.2:=by
 have pair:∀{o:Option SPr}{t:zE},Ans o ShF→Src t→Ans (o.bind fun p=>dq (p,t)) fun r=>ShF r.1∧Src r.2:=fun h ht=>.bd h fun p hp=>.rt ⟨hp,ht⟩
 unfold zSn;refine .bd (yR hs (by omega)) fun r hr=>.cd (fun _=>.bd (yR hr.1 (by omega)) fun r2 gA=>?_) fun _=>.cd (fun _=>.bd (zAV hr.1 (by simp) (by simp)) fun r2 gA=>?_) fun _=>.cd (fun _=>.bd (zAV hr.1 (by simp) (by simp)) fun r2 gA=>?_) fun _=>
  .cd (fun _=>.bd (zAV hr.1 (by simp) (by simp)) fun r2 gA=>?_) fun _=>.cd (fun _=>.bd (yR hr.1 (by omega)) fun r2 gA=>?_) fun _=>.cd (fun _=>.bd (zAV hr.1 (by simp) (by simp)) fun r2 gA=>?_) fun _=>.cd (fun _=>.bd (yR hr.1 (by omega)) fun r2 gA=>?_) fun _=>.bd (yR hr.1 (by omega)) fun r2 gA=>?_
 ·refine .bd (P:=fun t=>Src ⟨t.1,t.2.1,t.2.2.1⟩∧t.2.2.2.length≤5) (.lp (fun i t=>t.2.2.2.2=r2.1-i∧Src ⟨t.1,t.2.1,t.2.2.1⟩∧t.2.2.2.1.length=i) r2.1.toNat ⟨by simp,gA.1,rfl⟩ fun i t hi ht=>?_) fun t ht=>pair ⟨_,kJ (by omega),zWD (by omega)⟩ ht.1
  unfold zSm;refine .cd (fun h=>.bd (zAV ht.2.1 (by simp) (by simp)) fun r3 ee=>?_) fun h=>.rt ⟨ht.2.1,by simp only;omega⟩
  simp only[decide_eq_true_eq]at h;rw[zR (by simp;omega),bs];exact .rg (by omega) (.rt ⟨by omega,by simp only;omega,ee.1,by simp[ht.2.2]⟩)
 ·refine .bd (P:=fun t=>ShF t.1) ?_ fun t ht=>.rt ⟨ht,gA.1⟩
  have h:=cyc gA.2;cases e:wE r2.1 with
  |none=>rw[e]at h;cases h
  |some x=>exact⟨x,(m_f_spec_CyclicPresentation _).h x e,shB.iff (by rw[e]at h;exact h)⟩
 ·have:r2.1≤12∧3≤r2.1:=by have:=gA.2;simp at this;omega
  exact .rg (by omega) (pair (okP.sh (zYQ gA.2)) gA.1)
 ·have:r2.1≤12∧3≤r2.1:=by have:=gA.2;simp at this;omega
  have e:xL r2.1 2=dq (r2.1.tdiv 2):=by have:=Hm (show 0≤r2.1 by omega) (b:=2);unfold xL;rw[if_neg (by omega),zH (by omega) (by omega)]
  refine .rg (by omega) ?_;rw[e,bs];exact pair (okP.sh (zYR gA.2)) gA.1
 ·have h:=zYS
  simp only[J2]at h;obtain⟨⟨⟨⟨⟨h1,h2⟩,h3⟩,h4⟩,h5⟩,h6⟩:=h;exact .cd (fun _=>pair (okP.sh h1) gA.1) fun _=>.cd (fun _=>pair (okP.sh h2) gA.1) fun _=>.cd (fun _=>pair (okP.sh h3) gA.1) fun _=>.cd (fun _=>pair (okP.sh h4) gA.1) fun _=>.cd (fun _=>pair (okP.sh h5) gA.1) fun _=>pair (okP.sh h6) gA.1
 ·have:r2.1≤5:=by have:=gA.2;simp at this;omega
  exact .bd (zT5 gA.1 (by omega)) fun r hr=>.rt hr
 ·have h:=aff
  simp only[J2]at h;obtain⟨⟨⟨⟨⟨h1,h2⟩,h3⟩,h4⟩,h5⟩,h6⟩:=h;exact .cd (fun _=>pair (okP.sh h1) gA.1) fun _=>.cd (fun _=>pair (okP.sh h2) gA.1) fun _=>.cd (fun _=>pair (okP.sh h3) gA.1) fun _=>.cd (fun _=>pair (okP.sh h4) gA.1) fun _=>.cd (fun _=>pair (okP.sh h5) gA.1) fun _=>pair (okP.sh h6) gA.1
 ·have h:=zQ9
  rw[Jt]at h;have:=h r2.1.toNat (Jp.2 (by omega));rw[show((r2.1.toNat:Nat):Int)=r2.1 from by omega]at this;exact pair (okP.sh this) gA.1
theorem zK7{s:zE}(hs:Src s){n:Int}:Ans (zSp s n) fun r=>zAA r.1∧Src r.2:=by
 unfold zSp;refine .bd (P:=Ei (fun t=>Src ⟨t.1,t.2.1,t.2.2⟩) fun r=>zAA r.1∧Src r.2) (.lp (fun i t=>t.2.2.2=i∧Src ⟨t.1,t.2.1,t.2.2.1⟩) 12 ⟨rfl,hs⟩ fun i t hi ht=>?_) fun x hx=>?_
 ·unfold zSo
  refine .cd (fun h=>?_) fun h=>.rt ht.2
  simp only[decide_eq_true_eq]at h;have key:∀{p:SPr}{t':zE},p.zA.length≤12→Src t'→Ans ((f_n p).bind fun r5=>
   cond r5 (
    (f_P p.zA).bind fun r6=>
    cond (decide (r6≤n)) (
     dq (.inr (.inr (p,t')))) (
     (rng (t.2.2.2+1)).bind fun v7=>
     dq (.inl (t'.code,t'.at_,t'.seed,v7)))) (
    (rng (t.2.2.2+1)).bind fun v8=>
    dq (.inl (t'.code,t'.at_,t'.seed,v8)))) (Ei (fun s':(List Int)×Int×Int×Int=>i<12∧s'.2.2.2=((i+1:Nat):Int)∧Src ⟨s'.1,s'.2.1,s'.2.2.1⟩) (Ei (fun t:(List Int)×Int×Int=>Src ⟨t.1,t.2.1,t.2.2⟩) fun r:SPr×zE=>zAA r.1∧Src r.2)):=fun{p t'} hp fQ=>by
   rcases uG (x:=p) (by omega)with⟨h1,h2⟩|⟨h1,h2⟩
   ·rw[h1,bs,zI,zDR h2.os,bs]
    refine .cd (fun _=>.rt ⟨h2,fQ⟩) fun _=>.rg (by omega) (.rt ⟨by omega,by simp only;omega,fQ⟩)
   ·rw[h1,bs,zJ]
    exact .rg (by omega) (.rt ⟨by omega,by simp only;omega,fQ⟩)
  refine .bd (zIg ht.2) fun r1 gE=>.bd (yR gE.2 (by omega)) fun r2 gA=>.cd (fun _=>.bd (zIg gA.1) fun r3 ee=>.bd (zT4 gE.1 ee.1) fun r4 my=>key my ee.2) fun _=>key (p:=r1.1) (by have:=gE.1.n;omega) gA.1
 ·rcases x with t|r
  ·dsimp only
   rw[kJ (by simp),bs];refine .rt ⟨?_,hx⟩;rcases uG (x:=trv [2]) (by simp[trv])with⟨h1,h2⟩|⟨h1,h2⟩
   ·exact h2
   ·have:=(m_f_spec_IsPresentation (trv [2])).h du (by decide+kernel)
    rw[this]at h1;cases h1
  ·exact .rt hx
end Go.Pl

namespace Go.Pl
open Go Go.Ab Go.Wk Go.Pc
theorem zV2{D:Nat}(hD:D≤1000):f_z (D:Int)=dq (idM D):=by
 unfold f_z;rw[xS (body:=zGX (D:Int)) D (fun i=>mkv D fun j=>if j=i then 1 else 0) (fun i acc hi ha=>by
  unfold zGX;simp only
  rw[yE hi,zI,xD (by omega),bs,wX,K0,if_pos hi,bs,J9,qJ,kQ,zR (by grind),bs,zH (by omega) (by omega),bs];rfl) (fun acc=>by
  unfold zGX;simp),bs]
 rfl
theorem zQA{x:SPr}{q:Int}{D:Nat}(h6:x.zA.length≤1000)(hD:D≤1000):zLn x q (D:Int)=dq ⟨q,D,gl x.zA.length fun _=>idM D⟩:=by
 unfold zLn;rw[xS (body:=zIr x (D:Int)) x.zA.length (fun _=>idM D) (fun i acc hi ha=>by
  unfold zIr;simp only
  rw[yE hi,zI,zV2 hD,bs,zR (by grind),bs,zH (by omega) (by omega),bs];rfl) (fun acc=>by
  unfold zIr;simp),bs]
theorem zC1{α:Type}{v:List α}{a b:Nat}(h:a≤b)(k:b≤v.length):zP v (a:Int) (b:Int)=dq ((v.drop a).take (b-a)):=by unfold zP;exact if_pos (by omega)
structure DrP (p:SPr):Prop where
 n:p.zA.length≤7
 o:∀o∈p.zA,-100≤o∧o≤100
structure DrM (m:zC):Prop where
 p:-100≤m.Prime∧m.Prime≤100
 d:1≤m.Dim∧m.Dim≤4
 l:m.zB.length≤100
structure DrE (m:zC):Prop where
 p:-100≤m.Prime∧m.Prime≤100
 d:1≤m.Dim∧m.Dim≤3
 l:m.zB.length≤20
 a:∀A∈m.zB,(A.getD 0 []).length≠0
theorem zAA.drp{p:SPr}(h:zAA p):DrP p:=⟨by have:=h.n6;omega,fun o ho=>by obtain⟨i,hi,rfl⟩:=Js.1 ho;have:=(h.os.2 i hi).pos;rw[at0,J4,J7 hi]at this;simp at this;omega⟩
section
variable {x:SPr} (h:Pres x)
 include h
theorem zD1{i:Nat}(hi:i<x.zA.length):(x.zN.getD i []).length=x.zA.length:=(h.tl i hi).1.1.1
theorem zEH{i:Nat}(hi:i<x.zA.length):(x.zD.getD i []).length+i+1=x.zA.length:=(h.tl i hi).2.1
theorem zEI{i j:Nat}(hi:i<x.zA.length)(hj:j+i+1<x.zA.length):((x.zD.getD i []).getD j []).length=x.zA.length:=((h.tl i hi).2.2 j (by have:=(h.tl i hi).2.1;omega)).1.1
theorem zQB{β:Type}{Q:β→Prop}{i j:Nat}{f:List Int→Option β}(hi:i<j)(hj:j<x.zA.length)(k:∀v,v.length=x.zA.length→Ans (f v) Q):
  Ans ((ixO x.zD (i:Int)).bind fun v1=>(rng ((j:Int)-(i:Int))).bind fun v2=>(rng (v2-1)).bind fun v3=>(ixO v1 v3).bind f) Q:=by
 have h6:=h.os.1;rw[zW [] (by have:=h.cl;omega),bs];refine .rg (by omega) (.rg (by omega) ?_);rw[show(j:Int)-(i:Int)-1=((j-i-1:Nat):Int)from by omega,zW [] (by have:=zEH h (show i<x.zA.length by omega);omega),bs];exact k _ (zEI h (by omega) (by omega))
theorem zIh{k:Nat}(hk:k≤x.zA.length):Ans (zSs x k) fun _=>True:=by
 have h6:=h.os.1;unfold zSs;refine .bd (P:=fun _=>True) (.lp (fun i s=>s=i) k rfl fun i s hi hs=>?_) fun r _=>by rcases r with _|_<;>exact .rt trivial
 unfold zSr;refine .cd (fun hl=>?_) fun _=>.rt trivial
 simp only[decide_eq_true_eq]at hl;subst hs;refine .bd (P:=fun _=>True) (.lp (fun j t=>t=((k+j:Nat):Int)) (x.zA.length-k) rfl fun j t hj ht=>?_) fun r _=>by
  rcases r with _|_
  ·exact .rg (by omega) (.rt ⟨by omega,by omega⟩)
  ·exact .rt trivial
 unfold zSq;refine .cd (fun hl=>?_) fun _=>.rt trivial
 simp only[decide_eq_true_eq]at hl;subst ht;refine zQB h (by omega) (by omega) fun v hv=>?_
 rw[show(0:Int)=((0:Nat):Int)from rfl,zC1 (by omega) (by omega),bs];rcases zHY (v:=(v.drop 0).take (k-0)) (by grind)with⟨e,_⟩|⟨e,_⟩
 ·rw[e,bs,J5,zJ];exact .rg (by omega) (.rt ⟨by omega,by omega⟩)
 ·rw[e,bs,Jr,zI];exact .rt trivial
theorem zT6(hx:zAA x){k:Nat}(hk:k≤x.zA.length):Ans (zUC x k) fun r=>DrP r.1:=by
 have h6:=h.os.1;have emp:∀{c:Int},Ans (dq (SPr.mk [] [] [],c)) fun r=>DrP r.1:=.rt ⟨by simp,by simp⟩
 unfold zUC zXc;refine .bd (P:=fun _=>True) (.bd (P:=fun _=>True) ?_ fun r _=>.cd (fun _=>.rt trivial) fun _=>?_) fun r _=>.cd (fun _=>emp) fun _=>.bd (zIh h hk) fun r _=>.cd (fun _=>emp) fun _=>?_
 ·rcases zG6 (x:=x) (by omega)with⟨e,_⟩|⟨e,_⟩<;>exact⟨_,e,trivial⟩
 ·rcases qB k 0 x.zA.length with⟨e,_⟩|⟨e,_⟩
  ·rw[e,bs];exact .rt trivial
  ·rw[e,bs];exact .rt trivial
 rw[show(0:Int)=((0:Nat):Int)from rfl,zC1 (by omega) (by omega),bs,wT (by grind),bs];refine .bd (P:=fun _=>True) (.lp (fun i s=>s.2.2=i∧s.1.length=i∧s.2.1.length=i) k ⟨rfl,rfl,rfl⟩ fun i s hi hs=>?_) fun r _=>.rt ⟨by have:=hx.n6;simp only;grind,fun o ho=>hx.drp.o o (by grind)⟩
 unfold zNW;refine .cd (fun hl=>?_) fun _=>.rt trivial
 simp only[decide_eq_true_eq]at hl;have:=zD1 h (show i<x.zA.length by omega);rw[hs.1,zW [] (by have:=h.pl;omega),bs,show(0:Int)=((0:Nat):Int)from rfl,zC1 (by omega) (by omega),bs,wT (by grind),bs,zR (by simp;omega),bs];refine .bd (P:=fun _=>True) (.lp (fun j t=>t.2=j∧t.1.length=j) (k-1-i) ⟨rfl,rfl⟩ fun j t hj ht=>?_) fun r _=>?_
 ·unfold zSt
  rw[hs.1,ht.1];refine .rg (by omega) (.rg (by omega) (.cd (fun hl=>?_) fun _=>.rt trivial));simp only[decide_eq_true_eq]at hl;have hc:=zEH h (show i<x.zA.length by omega);have hr:=zEI h (show i<x.zA.length by omega) (show j+i+1<x.zA.length by omega);rw[zW [] (by have:=h.cl;omega),bs,zW [] (by omega),bs,show(0:Int)=((0:Nat):Int)from rfl,zC1 (by omega) (by omega),bs,wT (by grind),bs,zR (by simp;omega),bs];exact .rg (by omega) (.rt ⟨by omega,by simp only;omega,by simp[ht.2]⟩)
 ·rw[zR (by simp;omega),bs]
  exact .rg (by omega) (.rt ⟨by omega,by simp only;omega,by simp[hs.2.1],by simp[hs.2.2]⟩)
theorem zWE{i:Nat}(hi:i<x.zA.length):Ans (zG (zSu x i) ([],0)) fun r=>r.length≤20∧ ∀A∈r,(A.getD 0 []).length≠0:=by
 have h6:=h.os.1;refine .mp (.lp (Q:=fun r=>r.length≤i∧ ∀A∈r,(A.getD 0 []).length≠0) (fun q s=>s.2=q∧s.1.length=q∧q≤i∧ ∀A∈s.1,(A.getD 0 []).length≠0) i ⟨rfl,rfl,by omega,by simp⟩ fun q s hq hs=>?_) fun r hr=>⟨by omega,hr.2⟩
 unfold zSu;refine .cd (fun hl=>?_) fun _=>.rt ⟨by omega,hs.2.2.2⟩
 simp only[decide_eq_true_eq]at hl;refine .bd (P:=fun A=>(A.getD 0 []).length≠0) (.lp (fun j t=>t.2=((i+j:Nat):Int)∧t.1.length=j∧ ∀v∈t.1,v.length≠0) (x.zA.length-i) ⟨rfl,rfl,by simp⟩ fun j t hj ht=>?_) fun A hA=>?_
 ·unfold zXe
  rw[ht.1,hs.1];refine .cd (fun hl=>?_) fun hl=>.rt ?_
  ·simp only[decide_eq_true_eq]at hl
   refine zQB h (by omega) (by omega) fun v hv=>?_
   rw[zC1 (by omega) (by omega),bs,wT (by grind),bs,zR (by simp;omega),bs];exact .rg (by omega) (.rt ⟨by omega,by simp only;omega,by simp[ht.2.1],by grind⟩)
  ·simp only[decide_eq_false_iff_not]at hl
   exact ht.2.2 _ (zD0 (by omega))
 ·rw[zR (by simp;omega),bs]
  exact .rg (by omega) (.rt ⟨by omega,by simp only;omega,by simp[hs.2.1],by omega,by grind⟩)
end
end Go.Pl

namespace Go.Pl
open Go Go.Ab Go.Wk Go.Pc
theorem zQC{s:zE}{x:SPr}(hs:Src s)(hx:zAA x):Ans (f_i s x) fun r=>Src r.2.2.2∧(r.2.2.1=du→DrP r.1∧DrE r.2.1):=by
 have h6:=hx.n6;have h:=hx.toPres;unfold f_i;have all:∀{i:Nat}{b:Bool},i<x.zA.length→Ans (zG (zUF x i) (b,(i:Int))) fun _=>True:=fun{i b} hi=>by
  refine .lp (fun q t=>t.2=((i+q:Nat):Int)) (x.zA.length-i) rfl fun q t hq ht=>?_
  unfold zUF;rw[ht];refine .cd (fun hl=>?_) fun _=>.rt trivial
  simp only[decide_eq_true_eq]at hl;refine .bd (P:=fun _=>True) (.jn ?_) fun b _=>.rg (by omega) (.bd (P:=fun _=>True) ?_ fun _ _=>.rg (by omega) (.rt ⟨by omega,by simp only;omega⟩))
  ·unfold zUE
   rw[ht];refine .cd (fun _=>?_) fun _=>.rt trivial
   rw[yB (by omega),bs,yB hi,bs];refine .cd (fun _=>?_) fun _=>.rt trivial
   rw[zW [] (by have:=h.pl;omega),bs];rcases zHY (v:=x.zN.getD (i+q) []) (by have:=zD1 h (show i+q<x.zA.length by omega);omega)with⟨e,_⟩|⟨e,_⟩<;>(rw[e,bs];exact .rt trivial)
  ·refine .lp (fun q' t=>t.2=((i+q+1+q':Nat):Int)) (x.zA.length-(i+q+1)) rfl fun q' t' hq' fQ=>?_
   unfold zXd;rw[fQ,ht];refine .cd (fun hl=>?_) fun _=>.rt trivial
   simp only[decide_eq_true_eq]at hl;refine .cd (fun _=>zQB h (by omega) (by omega) fun v hv=>?_) fun _=>.rg (by omega) (.rt ⟨by omega,by simp only;omega⟩)
   rw[zV1 (by omega) (by omega),bs,zE9 (by omega),bs];exact .rg (by omega) (.rt ⟨by omega,by simp only;omega⟩)
 refine .bd (P:=Ei (fun t=>Src ⟨t.1,t.2.1,t.2.2⟩) fun r=>Src r.2.2.2∧(r.2.2.1=du→DrP r.1∧DrE r.2.1)) (.lp (fun q t=>t.2.2.2=((1+q:Nat):Int)∧Src ⟨t.1,t.2.1,t.2.2.1⟩) 3 ⟨rfl,hs⟩ fun q t hq ht=>?_) fun y hy=>?_
 ·unfold zXf
  refine .bd (P:=fun b=>b=du→1+q<x.zA.length∧q<3) (.jn ?_) fun b hb=>.cd (fun e=>?_) fun _=>.rt ht.2
  ·unfold zUD
   rw[ht.1];refine .cd (fun hl=>.rt fun e=>?_) fun _=>.rt fun e=>by cases e
   simp only[decide_eq_true_eq]at hl e;omega
  obtain⟨hl,hq3⟩:=hb e;rw[ht.1];refine .rg (by omega) ?_;rw[show(x.zA.length:Int)-((1+q:Nat):Int)=((x.zA.length-(1+q):Nat):Int)from by omega]
  generalize hi:x.zA.length-(1+q)=i
  refine .bd (zIh h (by omega)) fun b _=>.bd (all (by omega)) fun b _=>.bd (P:=fun r=>Src ⟨r.1,r.2.1,r.2.2.1⟩) (.jn ?_) fun u hu=>.cd (fun _=>?_) fun _=>.rg (by omega) (.rt ⟨by omega,by simp only;omega,hu⟩)
  ·unfold zUG
   exact .cd (fun _=>.cd (fun _=>.rt ht.2) fun _=>.bd (yR ht.2 (by omega)) fun r hr=>.cd (fun _=>.rt hr.1) fun _=>.rg (by omega) (.rt hr.1)) fun _=>.rt ht.2
  refine .bd (zT6 h hx (by omega)) fun r hr=>?_
  rw[yB (by omega),bs];refine .bd (zWE h (by omega)) fun A hA=>.rt ⟨hu,fun _=>⟨hr,?_,⟨by simp only;omega,by simp only;omega⟩,hA.1,hA.2⟩⟩
  have:=(h.os.2 i (by omega)).pos;exact⟨by simp only;omega,by simp only;omega⟩
 ·rcases y with t|r
  ·exact .rt ⟨hy,fun e=>by cases e⟩
  ·exact .rt hy
structure AL (n D:Nat) (c:List (List (List Int))):Prop where
 l:c.length=n
 d:∀i,i<n→(c.getD i []).length=D∧ ∀j,j<D→((c.getD i []).getD j []).length=D
theorem AL.set{n D:Nat}{c:List (List (List Int))}(h:AL n D c){i j k:Nat}{z:Int}(hi:i<n)(hj:j<D):AL n D (c.set i ((c.getD i []).set j (((c.getD i []).getD j []).set k z))):=by
 have hn:=h.l;refine⟨by rw[La,hn],fun q hq=>?_⟩
 by_cases e:q=i
 ·subst e
  have:=h.d q hq;rw[show(c.set q ((c.getD q []).set j (((c.getD q []).getD j []).set k z))).getD q []=(c.getD q []).set j (((c.getD q []).getD j []).set k z)from by grind];refine⟨by rw[La,this.1],fun w hw=>?_⟩
  by_cases e:w=j
  ·subst e;have:=this.2 w hw;grind
  ·have:=this.2 w hw;grind
 ·have:=h.d q hq;grind
theorem zQD{n D:Nat}:AL n D (gl n fun _=>idM D):=⟨yG,fun i hi=>by rw[show(gl n fun _=>idM D).getD i []=idM D from by simp[gl,hi]];exact⟨by simp[idM],fun j hj=>by simp[idM,hj,mkv]⟩⟩
theorem AL.dre{n D:Nat}{q:Int}{c:List (List (List Int))}(h:AL n D c)(hn:n≤7)(h1:1≤D)(h3:D≤3)(hq:-100≤q∧q≤100):DrE ⟨q,D,c⟩:=⟨hq,⟨by simp only;omega,by simp only;omega⟩,by have:=h.l;simp only;omega,fun A hA=>by
 obtain⟨i,hi,rfl⟩:=Js.1 hA;have:=(h.d i (by rw[←h.l];exact hi)).2 0 (by omega);rw[show c.getD i []=c[i]from by grind]at this;exact fun e=>by have e:(c[i].getD 0 []).length=0:=e;omega⟩
end Go.Pl

namespace Go.Pl
open Go Go.Ab Go.Wk Go.Pc
section
variable {x:SPr}{D:Nat}
theorem zT7{r6:(List Int)×Int×Int×Int}{d r:Int×zE}{m:zC}{i:Nat}{n:Nat}(hm:m.Dim=(D:Int))(hi:r.1=(i:Int))(gM:i<n)(hq:-100≤r6.2.2.2∧r6.2.2.2≤100)(hD:D≤3)(hs:Src r.2)(ha:AL n D m.zB):
  Ans (zG (zUL r6 m r) (r.2.code,r.2.at_,r.2.seed,m.zB,0)) fun t=>Src ⟨t.1,t.2.1,t.2.2.1⟩∧AL n D t.2.2.2:=by
 have _:=d;refine .lp (fun k t=>t.2.2.2.2=k∧Src ⟨t.1,t.2.1,t.2.2.1⟩∧AL n D t.2.2.2.1) D ⟨rfl,hs,ha⟩ fun k t hk ht=>?_
 unfold zUL;rw[ht.1,hi];refine .cd (fun hl=>?_) fun _=>.rt ht.2
 simp only[decide_eq_true_eq,hm]at hl;have h1:=ht.2.2.d i gM;have h2:=h1.2 k (by omega);rw[zW [] (by have:=ht.2.2.l;omega),bs,zW [] (by omega),bs];refine .rg (by omega) (.bd (yR ht.2.1 (by omega)) fun r1 gE=>.rg (by omega) ?_);rw[yB (by omega),bs];have bO:AL n D (t.2.2.2.1.set (i:Int).toNat ((t.2.2.2.1.getD i []).set (k:Int).toNat (((t.2.2.2.1.getD i []).getD k []).set (k:Int).toNat (1+r1.1)))):=ht.2.2.set gM (by omega)
 generalize t.2.2.2.1.set (i:Int).toNat ((t.2.2.2.1.getD i []).set (k:Int).toNat (((t.2.2.2.1.getD i []).getD k []).set (k:Int).toNat (1+r1.1)))=c at bO ⊢
 refine .bd (P:=fun u=>Src ⟨u.1,u.2.1,u.2.2.1⟩∧(u.2.2.2=du→0<k)) (.jn ?_) fun u hu=>.cd (fun eC=>?_) fun _=>.rg (by omega) (.rt ⟨by omega,by simp only;omega,hu.1,bO⟩)
 ·unfold zUK
  rw[ht.1];refine .cd (fun eC=>.bd (yR gE.1 (by omega)) fun r2 gA=>.rt ⟨gA.1,fun _=>?_⟩) fun _=>.rt ⟨gE.1,fun e=>by cases e⟩
  simp only[decide_eq_true_eq]at eC;omega
 have eC:=hu.2 eC;have h3:=bO.d i gM;have h4:=h3.2 k (by omega);rw[zW [] (by have:=bO.l;omega),bs,zW [] (by omega),bs];refine .rg (by omega) (.bd (yR hu.1 (by omega)) fun r3 ee=>?_);rw[show(k:Int)-1=((k-1:Nat):Int)from by omega,yB (by omega),bs];exact .rg (by omega) (.rt ⟨by omega,by simp only;omega,ee.1,bO.set gM (by omega)⟩)
theorem zQE{r6:(List Int)×Int×Int×Int}{s:zE}{m:zC}(hx:zAA x)(hq:-100≤r6.2.2.2∧r6.2.2.2≤100)(hs:Src s)(hm:DrE m):Ans ((zG (zUM x r6) (s.code,s.at_,s.seed,m.Prime,m.Dim,m.zB,0)).bind fun r33=>
     match r33 with
     |(.inl r33)=>
      dq ((zC.mk r33.2.2.2.1 r33.2.2.2.2.1 r33.2.2.2.2.2),(zE.mk r33.1 r33.2.1 r33.2.2.1))
     |(.inr r33)=>
      dq r33) fun r=>Src r.2∧DrE r.1:=by
 refine .bd (P:=Ei (fun t=>Src ⟨t.1,t.2.1,t.2.2.1⟩∧DrE ⟨t.2.2.2.1,t.2.2.2.2.1,t.2.2.2.2.2⟩) fun r=>Src r.2∧DrE r.1) (.lp (fun i t=>t.2.2.2.2.2.2=i∧Src ⟨t.1,t.2.1,t.2.2.1⟩∧DrE ⟨t.2.2.2.1,t.2.2.2.2.1,t.2.2.2.2.2.1⟩) 8 ⟨rfl,hs,hm⟩ fun i t hi ht=>?_) fun y hy=>?_
 ·unfold zUM
  refine .cd (fun hl=>.bd (yR ht.2.1 (by omega)) fun r1 gE=>.rg (by omega) ?_) fun _=>.rt ht.2
  simp only[decide_eq_true_eq]at hl;have h6:=hx.n6;obtain⟨D,hD⟩:∃D:Nat,1+r1.1=(D:Int):=⟨(1+r1.1).toNat,by omega⟩;rw[hD,zQA (by omega) (by omega),bs];refine .bd (yR gE.1 (by omega)) fun r2 gA=>.cd (fun _=>.rt ⟨gA.1,ht.2.2⟩) fun cW=>?_
  simp only[decide_eq_false_iff_not]at cW;obtain⟨k,hk⟩:∃k:Nat,r2.1=(k:Int):=⟨r2.1.toNat,by omega⟩;refine .bd (zT7 (d:=r2) (n:=x.zA.length) rfl hk (by omega) hq (by omega) gA.1 zQD) fun t' fQ=>?_
  have tm:=fQ.2.dre (q:=r6.2.2.2) (by omega) (by omega) (by omega) hq;rcases zGF (m:=⟨r6.2.2.2,D,t'.2.2.2⟩) hx.toPres with⟨e,_⟩|⟨e,_⟩
  ·rw[e,bs,zI];exact .rg (by omega) (.rt ⟨by omega,by simp only;omega,fQ.1,tm⟩)
  ·rw[e,bs,zJ];exact .rg (by omega) (.rt ⟨by omega,by simp only;omega,fQ.1,ht.2.2⟩)
 ·rcases y with t|r
  ·exact .rt hy
  ·exact .rt hy
end
theorem zJc{s:zE}{x:SPr}(hs:Src s)(hx:DrP x):Ans (f_p s x) fun r=>Src r.2∧DrE r.1:=by
 have h7:=hx.n;unfold f_p;refine .bd (zAV hs (by simp) (by simp)) fun r1 gE=>?_
 have hq:-100≤r1.1∧r1.1≤100:=by have:=gE.2;simp at this;omega
 refine .bd (P:=fun t=>Src ⟨t.1,t.2.1,t.2.2.1⟩∧ -100≤t.2.2.2∧t.2.2.2≤100) (.jn ?_) fun t ht=>.bd (yR ht.1 (by omega)) fun r2 gA=>.rg (by omega) ?_
 ·unfold zUI
  refine .bd (P:=fun u=>Src ⟨u.1,u.2.1,u.2.2.1⟩∧(u.2.2.2=du→0<x.zA.length)) (.jn ?_) fun u hu=>.cd (fun e=>.bd (yR hu.1 (by omega)) fun r3 ee=>?_) fun _=>.rt ⟨hu.1,hq⟩
  ·unfold zUH
   refine .cd (fun hl=>.bd (yR gE.1 (by omega)) fun r2 gA=>.rt ⟨gA.1,fun _=>?_⟩) fun _=>.rt ⟨gE.1,fun e=>by cases e⟩
   simp only[decide_eq_true_eq]at hl;omega
  ·have hl:=hu.2 e
   obtain⟨k,hk⟩:∃k:Nat,r3.1=(k:Int):=⟨r3.1.toNat,by omega⟩;rw[hk,yB (by omega),bs];exact .rt ⟨ee.1,hx.o _ (zD0 (by omega))⟩
 obtain⟨D,hD⟩:∃D:Nat,1+r2.1=(D:Int):=⟨(1+r2.1).toNat,by omega⟩;rw[hD,zQA (by omega) (by omega),bs];have tm:=(zQD (n:=x.zA.length) (D:=D)).dre (q:=t.2.2.2) h7 (by omega) (by omega) ht.2;refine .bd (P:=fun u=>Src ⟨u.1,u.2.1,u.2.2.1⟩∧(u.2.2.2=dv→zAA x)) (.jn ?_) fun u hu=>.cd (fun _=>.rt ⟨hu.1,tm⟩) fun e=>zQE (hu.2 e) ht.2 hu.1 tm
 unfold zUJ;refine .bd (yR gA.1 (by omega)) fun r3 ee=>.cd (fun _=>.rt ⟨ee.1,fun e=>by cases e⟩) fun _=>?_
 rcases uG (x:=x) (by omega)with⟨e,h⟩|⟨e,_⟩
 ·rw[e,bs];exact .rt ⟨ee.1,fun _=>h⟩
 ·rw[e,bs];exact .rt ⟨ee.1,fun e=>by cases e⟩
theorem zYT{x:SPr}(hx:zAA x):f_W x=dq x:=by
 have h6:=hx.n6;unfold f_W;rw[wT (by omega),bs,qD (by have:=hx.pl;omega) (fun i hi=>by have:=zD1 hx.toPres (show i<x.zA.length by have:=hx.pl;omega);omega),bs];rw[xS (body:=zLq x) x.zD.length (fun i=>x.zD.getD i []) (fun i acc hi ha=>by
  have hZ:i<x.zA.length:=by have:=hx.cl;omega
  have hc:=zEH hx.toPres hZ;have:=hx.cl;unfold zLq;simp only
  rw[yE hi,zI,zW [] hi,bs,qD (by omega) (fun j hj=>by have:=zEI hx.toPres hZ (show j+i+1<x.zA.length by omega);omega),bs,zR (by simp;omega),bs,zH (by omega) (by omega),bs,cs]) (fun acc=>by
  unfold zLq;simp),bs]
 congr 2
 exact Qc (by simp) fun i h1 h2=>by simp at h1 ⊢;grind
theorem zEk{o:List Int}{p:List (List Int)}{c:List (List (List Int))}(h:o.length≤7)(k:∀x∈o,-100≤x∧x≤100):DrP ⟨o,p,c⟩:=⟨h,k⟩
theorem zT8{s:zE}{x:SPr}(hs:Src s)(hx:zAA x):Ans (zUN s x) fun r=>DrP r.1∧Src r.2:=by
 have h6:=hx.n6;have ho:=hx.drp.o;have h7:=hx.drp.n;have fj:=hx.pl;have gJ:=hx.cl;unfold zUN;rw[zYT hx,bs];refine .bd (yR hs (by omega)) fun r hr=>.cd (fun _=>?_) fun _=>.cd (fun _=>.cd (fun hl=>.bd (zAV hr.1 (by simp) (by simp)) fun r1 gE=>?_) fun _=>.rt ⟨hx.drp,hr.1⟩) fun _=>.cd (fun _=>.cd (fun hl=>?_) fun _=>.rt ⟨hx.drp,hr.1⟩) fun _=>
  .cd (fun _=>.cd (fun hl=>?_) fun _=>.rt ⟨hx.drp,hr.1⟩) fun _=>.cd (fun _=>.cd (fun hl=>?_) fun _=>.rt ⟨hx.drp,hr.1⟩) fun _=>?_
 ·rw[zR (by simp;omega),bs]
  refine .rt ⟨zEk (by simp;omega) fun y hy=>?_,hr.1⟩;rcases K6.1 hy with hy|hy
  ·exact ho y hy
  ·simp at hy;omega
 ·simp only[decide_eq_true_eq]at hl
  rw[show(0:Int)=((0:Nat):Int)from rfl,yB (by omega),bs];refine .rt ⟨zEk (by simpa using h7) fun y hy=>?_,gE.1⟩;rcases List.mem_or_eq_of_mem_set hy with hy|hy
  ·exact ho y hy
  ·have:=gE.2;simp at this;omega
 ·simp only[decide_eq_true_eq]at hl
  have:=zD1 hx.toPres (show 0<x.zA.length by omega);rw[show(0:Int)=((0:Nat):Int)from rfl,zW [] (by omega),bs,wT (by omega),bs,zR (by rw[Lf];omega),bs,bs];exact .rt ⟨zEk h7 ho,hr.1⟩
 ·simp only[decide_eq_true_eq]at hl
  have:=zD1 hx.toPres (show 0<x.zA.length by omega);rw[show(0:Int)=((0:Nat):Int)from rfl,zW [] (by omega),bs];refine .cd (fun _=>?_) fun _=>.rt ⟨hx.drp,hr.1⟩
  rw[bs,yB (by omega),bs];exact .rt ⟨zEk h7 ho,hr.1⟩
 ·simp only[decide_eq_true_eq]at hl
  have hc:=zEH hx.toPres (show 0<x.zA.length by omega);rw[show(0:Int)=((0:Nat):Int)from rfl,zW [] (by omega),bs,qD (by omega) (fun j hj=>by have:=zEI hx.toPres (show 0<x.zA.length by omega) (show j+0+1<x.zA.length by omega);omega),bs,xD (by omega),bs,zR (by rw[Lf];omega),bs,bs];exact .rt ⟨zEk h7 ho,hr.1⟩
 ·rw[kJ (by simp),bs]
  refine .bd (yR hr.1 (by omega)) fun r1 gE=>.cd (fun _=>?_) fun _=>.rt ⟨zEk (by simp) (by simp),gE.1⟩
  rw[kJ (by simp),bs];exact .rt ⟨zEk (by simp) (by simp),gE.1⟩
theorem zN6{s:zE}{x:SPr}(hs:Src s)(hx:zAA x):Ans (zSv s x) fun r=>DrP r.1∧Src r.2:=by
 have h6:=hx.n6;have ho:=hx.drp.o;have h7:=hx.drp.n;have fj:=hx.pl;have gJ:=hx.cl;unfold zSv;rw[zYT hx,bs];refine .bd (yR hs (by omega)) fun r hr=>.rg (by omega) (.rg (by omega) (.rg (by omega) (.bd (yR hr.1 (by omega)) fun r1 gE=>.rg (by omega) (.cd (fun _=>.rt ⟨hx.drp,gE.1⟩) fun hl=>.bd (yR gE.1 (by omega)) fun r2 gA=>?_))))
 simp only[decide_eq_false_iff_not]at hl;obtain⟨i,hi⟩:∃i:Nat,r.1=i:=⟨r.1.toNat,by omega⟩;obtain⟨j,hj⟩:∃j:Nat,r.1+1+r1.1=j:=⟨(r.1+1+r1.1).toNat,by omega⟩;rw[hj,hi];have aD:=(hx.os.2 j (by omega)).pos;refine .cd (fun _=>?_) fun _=>.rg (by omega) (.rg (by omega) (.rg (by omega) (.bd (yR gA.1 (by omega)) fun r3 ee=>.rg (by omega) ?_)))
 ·have:=zD1 hx.toPres (show i<x.zA.length by omega)
  rw[zW [] (by omega),bs,yB (by omega),bs];refine .bd (yR gA.1 (by omega)) fun r3 ee=>?_
  rw[yB (by omega),bs];exact .rt ⟨zEk h7 ho,ee.1⟩
 ·obtain⟨k,hk⟩:∃k:Nat,(i:Int)+1+r3.1=k:=⟨((i:Int)+1+r3.1).toNat,by omega⟩
  rw[hk];have hc:=zEH hx.toPres (show i<x.zA.length by omega);have hr:=zEI hx.toPres (show i<x.zA.length by omega) (show k-i-1+i+1<x.zA.length by omega);rw[zW [] (by omega),bs];refine .rg (by omega) (.rg (by omega) ?_);rw[show(k:Int)-i-1=((k-i-1:Nat):Int)from by omega,zW [] (by omega),bs,yB (by omega),bs];refine .bd (yR ee.1 (by omega)) fun r4 my=>?_
  rw[yB (by omega),bs];exact .rt ⟨zEk h7 ho,my.1⟩
theorem zT9{s:zE}(hs:Src s){n:Int}:Ans (zMx s n) fun r=>DrP r.1∧Src r.2:=by unfold zMx;refine .bd (zK7 hs) fun r hr=>.bd (yR hr.2 (by omega)) fun r1 gE=>.cd (fun _=>.bd (zT8 gE.1 hr.1) fun r2 gA=>.rt gA) fun _=>.cd (fun _=>.cd (fun _=>.bd (zN6 gE.1 hr.1) fun r2 gA=>.rt gA) fun _=>.rt ⟨hr.1.drp,gE.1⟩) fun _=>.cd (fun _=>.bd (zN6 gE.1 hr.1) fun r2 gA=>.rt gA) fun _=>.rt ⟨hr.1.drp,gE.1⟩
theorem DrE.drm{m:zC}(h:DrE m):DrM m:=⟨h.p,by have:=h.d;omega,by have:=h.l;omega⟩
theorem zK8{s:zE}(hs:Src s){n:Int}:Ans (zSw s n) fun r=>DrP r.1∧DrM r.2.1∧Src r.2.2:=by
 have fin:∀{s:zE}{x:SPr}{m:zC},Src s→DrP x→DrE m→Ans (
   (f_e s 30).bind fun r4=>
   cond (r4.1==0) (
    (rng (m.Dim+1)).bind fun v5=>
    dq (x,(zC.mk m.Prime v5 m.zB),r4.2)) (
    cond (r4.1==1) (
     (zEl r4.2 [2,3,4,11]).bind fun r6=>
     dq (x,(zC.mk r6.1 m.Dim m.zB),r6.2)) (
     cond (r4.1==2) (
      (f_z m.Dim).bind fun r7=>
      (zU m.zB [r7]).bind fun v8=>
      dq (x,(zC.mk m.Prime m.Dim v8),r4.2)) (
      cond (r4.1==3) (
       (zMx r4.2 n).bind fun r9=>
       dq (r9.1,m,r9.2)) (
       cond (r4.1==4) (
        cond (decide ((m.zB.length:Int)> 0)) (
         (ixO m.zB 0).bind fun v10=>
         (ixO v10 0).bind fun v11=>
         (f_e r4.2 m.Prime).bind fun r12=>
         (ixO v11 0).bind fun _=>
         dq (x,(zC.mk m.Prime m.Dim (m.zB.set (0:Int).toNat (v10.set (0:Int).toNat (v11.set (0:Int).toNat r12.1)))),r12.2)) (
         dq (x,m,r4.2))) (
        dq (x,m,r4.2))))))) fun r=>DrP r.1∧DrM r.2.1∧Src r.2.2:=fun{s x m} hs hx hm=>by
  have hp:=hm.p;have hd:=hm.d;have hl:=hm.l;refine .bd (yR hs (by omega)) fun r hr=>.cd (fun _=>.rg (by omega) (.rt ⟨hx,⟨hp,by simp only;omega,by simp only;omega⟩,hr.1⟩)) fun _=>.cd (fun _=>.bd (zAV hr.1 (by simp) (by simp)) fun r1 gE=>.rt ⟨hx,⟨by have:=gE.2;simp at this;simp only;omega,by simp only;omega,by simp only;omega⟩,gE.1⟩) fun _=>
   .cd (fun _=>?_) fun _=>.cd (fun _=>.bd (zT9 hr.1) fun r1 gE=>.rt ⟨gE.1,hm.drm,gE.2⟩) fun _=>.cd (fun _=>.cd (fun hl=>?_) fun _=>.rt ⟨hx,hm.drm,hr.1⟩) fun _=>.rt ⟨hx,hm.drm,hr.1⟩
  ·obtain⟨D,hD⟩:∃D:Nat,m.Dim=(D:Int):=⟨m.Dim.toNat,by omega⟩
   rw[hD,zV2 (by omega),bs,zR (by simp;omega),bs];exact .rt ⟨hx,⟨hp,by simp only;omega,by simp;omega⟩,hr.1⟩
  ·simp only[decide_eq_true_eq]at hl
   have h0:=hm.a (m.zB.getD 0 []) (zD0 (by omega));have h1:0<(m.zB.getD 0 []).length:=by
    rcases Qp (m.zB.getD 0 []).length with e|e
    ·exact absurd (by rw[List.length_eq_zero_iff.1 e];rfl) h0
    ·exact e
   rw[show(0:Int)=((0:Nat):Int)from rfl,zW [] (by omega),bs,zW [] (by omega),bs];refine .bd (yR hr.1 (by omega)) fun r1 gE=>?_
   rw[yB (by omega),bs];exact .rt ⟨hx,⟨hp,by simp only;omega,by simp;omega⟩,gE.1⟩
 unfold zSw;refine .bd (zK7 hs) fun r hr=>.bd (zQC hr.2 hr.1) fun r1 gE=>.cd (fun e=>.bd (yR gE.1 (by omega)) fun r2 gA=>.cd (fun _=>fin gA.1 (gE.2 e).1 (gE.2 e).2) fun _=>.bd (zJc gA.1 hr.1.drp) fun r3 ee=>fin ee.1 hr.1.drp ee.2) fun _=>.bd (zJc gE.1 hr.1.drp) fun r3 ee=>fin ee.1 hr.1.drp ee.2
end Go.Pl

namespace Go.Pl
open Go Go.Ab Go.Wk Go.Pc
abbrev VU(n:Int):Prop:=(Lit.int .u8 n).wf=du
theorem vu{c:List Int}(h:VL VU c)(i:Nat)(hi:i<c.length):0≤c[i]∧c[i]≤255:=by have:=h.2 c[i] (Kz hi);simp only[VU,Lit.wf,J2,IntKind.min,IntKind.max,IntKind.signed,IntKind.bits]at this;simpa using this
theorem zWF{c:List Int}:zRT c=dq (decide ((c.length:Int)> 4096)):=rfl
theorem zK9{α:Type}{c:List Int}{P:α→Prop}{o:Option α}{k:α→Option Bool}(hb:∀i(h:i<c.length),0≤c[i]∧c[i]≤255)(ho:(∀s,Src s→zLo c=dq s→Ans o P))(hk:∀r,P r→k r=dq du):
  ((zRT c).bind fun r1=>cond r1 (dq du) (o.bind k))=dq du:=by
 rw[zWF,bs]
 by_cases h:(c.length:Int)> 4096
 ·rw[dx h,zI]
 ·rw[dw h,zJ]
  obtain⟨s,h1,h2⟩:=zT2 hb (by omega);obtain⟨r,h3,h4⟩:=ho s h2 h1;rw[h3,bs];exact hk r h4
section
variable {n D:Nat}{m:zC} (hm:MOk n m D) (hn:n≤14)
 include hm hn
 omit hn in
theorem zWG:zGH m n D=fxR m n D:=by
  have h7:=hm.p.pos;have h3:=hm.d3;unfold zGH fxR qT inn gl;refine Lt fun k hk=>?_
  have hk:=Jp.1 hk
  congr 1
  refine Lt fun g hg=>?_
  have hA:=hm.mat g (Jp.1 hg);unfold uW mvr mkv;refine Lt fun j hj=>?_
  have hj:=Jp.1 hj;have hr:=(hA.2 k hk).2 j hj;have e:at0 (yL m.Prime D (uD D k) (m.zB.getD g [])) j=ent (m.zB.getD g []) k j:=by rw[yL,zK hj,vH (k:=k) hk (fun i hi gf=>by rw[uD,zK hi,if_neg gf,Ld]),uD,zK hk,if_pos rfl,Kw];exact wK hr
  rw[e,uD,zK hj]
  by_cases h:j=k
  ·rw[if_pos h,if_pos h,h];rfl
  · rw[if_neg h,if_neg h,Jw,Lp]
    exact wK hr
end
end Go.Pl

namespace Go.Pl
open Go Go.Ab Go.Wk Go.Pc
theorem zKA{a b:List Int}(h:a.length≤1000000):zUP a b=dq (a==b):=zE9 h
theorem zFg{A B:Mx}(hA:A.length≤1000000)(h:∀r∈A,r.length≤1000000):zSz A B=dq (A==B):=
 zJV (t:=zUP) (body:=zSy A B) rfl (fun _=>rfl) (by omega) (by grind[zKA])
theorem zO9{A:zF}(hA:A.Rows.length≤1000000)(h:∀r∈A.Rows,r.length≤1000000):zPh A A=dq du:=by unfold zPh;rw[beq_self_eq_true,zI,beq_self_eq_true,zI,zFg hA h,bs,beq_self_eq_true]
end Go.Pl

namespace Go.Pl
open Go Go.Ab Go.Wk Go.Pc
structure IsM (x:SPr) (m:zC) (D:Nat):Prop where
 gr:zBF x
 ok:MOk x.zA.length m D
 rel:zIP x m D
section
variable {x:SPr}{m:zC}{D:Nat} (h:IsM x m D)
 include h
theorem IsM.sp:zFs x m=dq du:=by
 have h6:=h.gr.1.os.1;rcases kS (x:=x) (m:=m) (by omega)with⟨e,_⟩|⟨_,k⟩
 ·exact e
 ·exact absurd ⟨h.gr,D,h.ok,h.rel⟩ k
theorem IsM.im:f_w x m=dq du:=by
 have h6:=h.gr.1.os.1;have:=h.ok.len;rcases kT (x:=x) (m:=m) (by omega) (by omega)with⟨e,_⟩|⟨_,k⟩
 ·exact e
 ·exact absurd ⟨h.gr,D,h.ok,h.rel⟩ k
end
end Go.Pl

namespace Go.Pl
open Go Go.Ab Go.Wk Go.Pc
theorem zTA{s:zE}{m:zC}(hs:Src s)(hm:DrM m):Ans (zUO s m) fun r=>Src r.2∧r.1.length≤100∧r.1.length≠0:=by
 have hd:=hm.d;have hp:=hm.p;unfold zUO;refine .bd (P:=fun t=>Src ⟨t.1,t.2.1,t.2.2.1⟩∧t.2.2.2.length≤10∧t.2.2.2.length≠0) (.lp (fun i t=>t.2.2.2.2=i∧Src ⟨t.1,t.2.1,t.2.2.1⟩∧t.2.2.2.1.length=i) m.Dim.toNat ⟨rfl,hs,rfl⟩ fun i t hi ht=>?_) fun t ht=>.bd (yR ht.1 (by omega)) fun r hr=>.cd (fun _=>?_) fun _=>.rt ⟨hr.1,by simp only;omega,ht.2.2⟩
 ·unfold zSx
  refine .cd (fun hl=>.bd (yR ht.2.1 (by omega)) fun r hr=>?_) fun hl=>.rt ⟨ht.2.1,by simp only;omega,by simp only[decide_eq_false_iff_not]at hl;simp only;omega⟩
  simp only[decide_eq_true_eq]at hl;rw[zR (by simp;omega),bs];exact .rg (by omega) (.rt ⟨by omega,by simp only;omega,hr.1,by simp[ht.2.2]⟩)
 ·rw[zR (by simp;omega),bs]
  exact .rt ⟨hr.1,by simp;omega,by simp⟩
theorem zCN{x:SPr}{m:zC}(hx:DrP x)(hm:DrM m):(∃D,IsM x m D)∨(zFs x m=dq dv∧f_w x m=dq dv):=by
 have hn:=hx.n;have hl:=hm.l;rcases(kS (x:=x) (m:=m) (by omega)).both (kT (by omega) (by omega))with⟨_,_,c,D,hD,hr⟩|⟨s1,i1,_⟩
 ·exact .inl ⟨D,c,hD,hr⟩
 ·exact .inr ⟨s1,i1⟩
end Go.Pl

namespace Go.Pl
open Go Go.Ab Go.Wk Go.Pc
end Go.Pl

namespace Go.Pl
open Go Go.Ab Go.Wk Go.Pc
end Go.Pl

namespace Go.Pl
open Go Go.Ab Go.Wk Go.Pc
end Go.Pl

namespace Go.Pl
open Go Go.Ab Go.Wk Go.Pc
end Go.Pl

namespace Go.Pl
open Go Go.Ab Go.Wk Go.Pc
theorem zJd{A B:List Mx}(hA:A.length≤1000000)(h:∀M∈A,M.length≤1000000∧ ∀r∈M,r.length≤1000000):zXg A B=dq (A==B):=
 zJV (t:=zSz) (body:=zS0 A B) rfl (fun _=>rfl) (by omega) fun M hM _ _=>zFg (h M hM).1 (h M hM).2
theorem zB5{α:Type}{l:List α}{x d:α}(h:x∈l):∃i,i<l.length∧l.getD i d=x:=by obtain⟨i,hi,rfl⟩:=Js.1 h;exact⟨i,hi,by grind⟩
section
variable {x:SPr}{m:zC}{D:Nat} (h:IsM x m D)
 include h
theorem IsM.spres:zVx x:=by
 have h6:=h.gr.1.os.1;have fj:=h.gr.1.pl;have gJ:=h.gr.1.cl;refine⟨by simp only[S1,c1];omega,?_,?_⟩
 ·have:=zIb (c:=c1) (b:=14) (xs:=x.zN) fun y hy=>by
   obtain⟨i,hi,rfl⟩:=zB5 (d:=[]) hy;have:=zD1 h.gr.1 (show i<x.zA.length by omega);simp only[c1];omega
  have:x.zN.length*14≤14*14:=Kf 14 (by omega);simp only[S2,c2];omega
 ·have:=zIb (c:=c2) (b:=300) (xs:=x.zD) fun y hy=>by
   obtain⟨i,hi,rfl⟩:=zB5 (d:=[]) hy;have hZ:i<x.zA.length:=by omega
   have hl:=zEH h.gr.1 hZ;have:=zIb (c:=c1) (b:=14) (xs:=x.zD.getD i []) fun z hz=>by obtain⟨j,hj,rfl⟩:=zB5 (d:=[]) hz;have:=zEI h.gr.1 hZ (show j+i+1<x.zA.length by omega);simp only[c1];omega
   have:(x.zD.getD i []).length*14≤14*14:=Kf 14 (by omega);simp only[c2];omega
  have:x.zD.length*300≤14*300:=Kf 300 (by omega);simp only[S3,c3];omega
theorem IsM.smod:zTj m:=by
 have h6:=h.gr.1.os.1;have h3:=h.ok.d3;have hl:=h.ok.len;have:=zIb (c:=c2) (b:=100) (xs:=m.zB) fun y hy=>by
  obtain⟨i,hi,rfl⟩:=zB5 (d:=[]) hy;have hA:=h.ok.mat i (by omega);have fM:=hA.1;have:=zIb (c:=c1) (b:=3) (xs:=m.zB.getD i []) fun z hz=>by obtain⟨j,hj,rfl⟩:=zB5 (d:=[]) hz;have:=(hA.2 j (by omega)).1;simp only[c1];omega
  simp only[c2];omega
 have:m.zB.length*100≤14*100:=Kf 100 (by omega);simp only[zTj,S3,c3];omega
end
end Go.Pl

namespace Go.Pl
open Go Go.Ab Go.Wk Go.Pc
theorem zAI{m:zC}{n D:Nat}(h:MOk n m D)(hn:n≤14):zPg m m=dq du:=by
 have hl:=h.len;have h3:=h.d3;unfold zPg;rw[beq_self_eq_true,zI,beq_self_eq_true,zI,zJd (by omega) (fun M hM=>by obtain⟨i,hi,rfl⟩:=zB5 (d:=[]) hM;have hA:=(h.mat i (by omega)).small (by omega);exact⟨by omega,fun r hr=>by have:=hA.2 r hr;omega⟩),bs,beq_self_eq_true]
end Go.Pl

namespace Go.Pl
open Go Go.Ab Go.Wk Go.Pc
theorem zGS{p:Int}(hp:Prime p){n:Nat}(hn:n≤100000){R:Mx}{pv:Nat→Nat}(h:Red p n R pv){v:List Int}(hv:Row p n v):Sp p n R (mkv n fun j=>at0 (cl p n R pv v R.length) j-at0 v j):=by
 obtain⟨cf,eH⟩:=zIT hp hn h hv R.length (Jd _);refine⟨cf,fun j hj=>?_⟩;rw[zK hj,Qz,eH j hj,←Qz]
 congr 1
 omega
section
variable {x:SPr}{m:zC}{D:Nat}
theorem zTB(h:MOk x.zA.length m D){v:List Int}{i:Nat}(hi:i<x.zA.length*D):at0 (inn m x.zA.length D v).flatten i%m.Prime=(S (zGH m x.zA.length D).length fun k=>at0 v k*ent (zGH m x.zA.length D) k i)%m.Prime:=by
 have h7:=h.p.pos;have h1:=h.d1;have hd:D*(i/D)+i%D=i:=Nat.div_add_mod i D;have hj:i%D<D:=Nat.mod_lt _ h1;have hg:i/D<x.zA.length:=by refine Qi ?_;rw[H5];exact hi
 have hl:∀u:List Int,(inn m x.zA.length D u).length=x.zA.length:=fun u=>by simp[inn]
 have key:∀u:List Int,at0 (inn m x.zA.length D u).flatten i=(at0 (yL m.Prime D u (m.zB.getD (i/D) [])) (i%D)+ -1*at0 u (i%D))%m.Prime:=fun u=>by have:=zGR (F:=fun i=>uW m.Prime D (yL m.Prime D u (m.zB.getD i [])) (-1) u) hj (Jf x.zA.length) (i/D) (i/D) (fun _ _=>zKm) (Ur hg);rw[H5,hd]at this;rw[inn,this,uW,zK hj]
 have hA:=h.mat _ hg;have aO:(zGH m x.zA.length D).length=D:=by simp[zGH]
 rw[key,Je,aO];have e:∀k,k<D→(at0 v k*ent (zGH m x.zA.length D) k i)%m.Prime=(at0 v k*ent (m.zB.getD (i/D) []) k (i%D)+ -1*(if k=i%D then at0 v k else 0))%m.Prime:=fun k hk=>by
  have e1:ent (zGH m x.zA.length D) k i=at0 (inn m x.zA.length D (uD D k)).flatten i:=by simp[ent,zGH,hk]
  have e2:at0 (yL m.Prime D (uD D k) (m.zB.getD (i/D) [])) (i%D)=ent (m.zB.getD (i/D) []) k (i%D):=by rw[yL,zK hj,vH (k:=k) hk (fun l hl gf=>by rw[uD,zK hl,if_neg gf,Ld]),uD,zK hk,if_pos rfl,Kw];exact wK ((hA.2 k hk).2 _ hj)
  rw[e1,key,e2,uD,zK hj,J6,Je,←J6]
  congr 1
  by_cases g:k=i%D
  ·rw[if_pos g,if_pos g.symm];rw[Int.mul_add,K7];omega
  ·rw[if_neg g,if_neg (fun e=>g e.symm)];rw[Jw,Lp,Lp]
 rw[wY e,zAR,vK,vH (f:=fun k=>if k=i%D then at0 v k else 0) hj (fun l _ gf=>if_neg gf),if_pos rfl,Jv,yL,zK hj,Je,←Jv]
theorem zN7{p:Int}(hp:Prime p){n:Nat}(hn:n≤100000){R:Mx}{pv:Nat→Nat}(h:Red p n R pv){v w:List Int}(hv:Row p n v)(hw:Row p n w)(hs:Sp p n R (mkv n fun j=>at0 w j-at0 v j)):cl p n R pv w R.length=cl p n R pv v R.length:=by
 have h7:=hp.pos;have ha:=zAE hp hn h hw R.length;have hb:=zAE hp hn h hv R.length;have za:=zDz hp hn h hw R.length (Jd _);have zb:=zDz hp hn h hv R.length (Jd _);have da:=zGS hp hn h hw;have db:=zGS hp hn h hv
 generalize cl p n R pv w R.length=a at*
 generalize cl p n R pv v R.length=b at*
 have d1:Sp p n R (mkv n fun j=>(at0 a j-at0 w j)-(at0 b j-at0 v j)):=sC (k:=-1) da db fun j hj=>by rw[zK hj,zK hj,zK hj];congr 1;omega
 have d2:Sp p n R (mkv n fun j=>at0 a j-at0 b j):=sC (k:=1) d1 hs fun j hj=>by rw[zK hj,zK hj,zK hj];congr 1;omega
 have hx:=h.expand d2;rw[vA ha.1,vA hb.1];refine yK fun j hj=>?_
 have e:=hx j hj;rw[yC (g:=fun _=>0) (fun i hi=>by rw[zK (h.lt i hi),za i hi,zb i hi];simp),tF,zK hj,H8]at e;have e2:=Jo.2 e;rw[wK (ha.2 j hj),wK (hb.2 j hj)]at e2;exact e2
end
end Go.Pl

namespace Go.Pl
open Go Go.Ab Go.Wk Go.Pc
theorem qE{n D i:Nat}(h1:1≤D)(hi:i<n*D):∃g j,g<n∧j<D∧i=g*D+j:=by refine⟨i/D,i%D,Qi (by rw[H5];exact hi),Nat.mod_lt _ h1,?_⟩;rw[H5];exact(Nat.div_add_mod i D).symm
end Go.Pl

namespace Go.Pl
open Go Go.Ab Go.Wk Go.Pc
end Go.Pl

namespace Go.Pl
open Go Go.Ab Go.Wk Go.Pc
end Go.Pl

namespace Go.Pl
open Go Go.Ab Go.Wk Go.Pc
end Go.Pl

namespace Go.Pl
open Go Go.Ab Go.Wk Go.Pc
end Go.Pl

namespace Go.Pl
open Go Go.Ab Go.Wk Go.Pc
end Go.Pl

namespace Go.Pl
open Go Go.Ab Go.Wk Go.Pc
end Go.Pl

namespace Go.Pl
open Go Go.Ab Go.Wk Go.Pc
def cmb(p:Int)(N D:Nat)(c:List Int)(U:Mx):List Int:=mkv D fun j=>(S N fun l=>at0 c l*ent U l j)%p
theorem zN8{p:Int}(hp:0<p){N D:Nat}{c:List Int}{U:Mx}:Row p D (cmb p N D c U):=by refine⟨zO _ _,fun j hj=>?_⟩;rw[cmb,zK hj];have e1:=K8 (S N fun l=>at0 c l*ent U l j) (show p≠0 by omega);have e2:=Jx (S N fun l=>at0 c l*ent U l j) hp;omega
theorem zAz{p:Int}{K N D:Nat}{c:List Int}{B U:Mx}:cmb p N D (cmb p K N c B) U=mkv D fun j=>(S K fun k=>at0 c k*at0 (cmb p N D (B.getD k []) U) j)%p:=by
 refine yK fun j hj=>?_
 have e1:(S N fun l=>at0 (cmb p K N c B) l*ent U l j)%p=(S N fun l=>S K fun k=>at0 c k*(ent B k l*ent U l j))%p:=wY fun l hl=>by
  rw[cmb,zK hl,J6,Je,←J6,←zFc]
  congr 1
  exact yC fun k _=>by rw[K9]
 have e2:(S K fun k=>at0 c k*at0 (cmb p N D (B.getD k []) U) j)%p=(S K fun k=>S N fun l=>at0 c k*(ent B k l*ent U l j))%p:=wY fun k _=>by rw[cmb,zK hj,J6,Je,←J6,←vK]
 rw[e1,e2,zCs]
theorem zAd{p:Int}{D:Nat}{c:List Int}{A:Mx}:cmb p D D c A=yL p D c A:=rfl
theorem zKB{p:Int}{N D k:Nat}{U:Mx}(hk:k<N)(hU:Row p D (U.getD k [])):cmb p N D (uD N k) U=U.getD k []:=by
 rw[vA hU.1];refine yK fun j hj=>?_
 rw[vH (k:=k) hk (fun l hl gf=>by rw[uD,zK hl,if_neg gf,Ld]),uD,zK hk,if_pos rfl,Kw];exact wK (hU.2 j hj)
theorem zCO{p:Int}{D k:Nat}{A:Mx}(hk:k<D)(hA:Mat p D A):yL p D (uD D k) A=A.getD k []:=by rw[←zAd];exact zKB hk (hA.2 k hk)
theorem tI{n i:Nat}{f:Nat→Mx}(hi:i<n):(gl n f).getD i []=f i:=by simp[gl,hi]
section
variable {x:SPr}{m:zC}{D:Nat} (h:IsM x m D) {U:Mx}{pv:Nat→Nat} (hU:Red m.Prime D U pv) (hI:Inv m x.zA.length D U)
 include h hU hI
 omit hI in
theorem zTC{A:Mx}:Mat m.Prime U.length (rsM m.Prime D U.length U pv A):=by have h7:=h.ok.p.pos;refine⟨yG,fun k hk=>?_⟩;rw[rsM,yF hk];refine⟨zO _ _,fun l hl=>?_⟩;rw[zK hl];exact(uK (p:=m.Prime) (D:=D) (r:=U.getD k []) (B:=A) (by omega)).2 _ (hU.lt l hl)
theorem zTD{g:Nat}(hg:g<x.zA.length){k:Nat}(hk:k<U.length):cmb m.Prime U.length D ((rsM m.Prime D U.length U pv (m.zB.getD g [])).getD k []) U=yL m.Prime D (U.getD k []) (m.zB.getD g []):=by
 have h7:=h.ok.p.pos;have hr:Row m.Prime D (yL m.Prime D (U.getD k []) (m.zB.getD g [])):=uK (by omega);have hs:=hI _ (zB3 hk) g hg;have hx:=hU.expand hs;rw[vA hr.1];refine yK fun j hj=>?_
 rw[←wK (hr.2 j hj),hx j hj]
 congr 1
 exact yC fun l hl=>by rw[rsM,yF hk,zK hl]
theorem zTE{g:Nat}(hg:g<x.zA.length){c:List Int}:cmb m.Prime U.length D (yL m.Prime U.length c (rsM m.Prime D U.length U pv (m.zB.getD g []))) U=yL m.Prime D (cmb m.Prime U.length D c U) (m.zB.getD g []):=by
 rw[←zAd,←zAd,zAz,zAz];refine yK fun j hj=>?_
 congr 1
 exact yC fun k hk=>by rw[zTD h hU hI hg hk];rfl
theorem zN9{ws:List Nat}(hw:∀w∈ws,w<x.zA.length):∀{c:List Int}(B A:Mx),B.length=U.length→A.length=D→cmb m.Prime U.length D (yL m.Prime U.length c B) U=yL m.Prime D (cmb m.Prime U.length D c U) A→
  cmb m.Prime U.length D (yL m.Prime U.length c (wM m.Prime U.length (gl x.zA.length fun i=>rsM m.Prime D U.length U pv (m.zB.getD i [])) ws B)) U=yL m.Prime D (cmb m.Prime U.length D c U) (wM m.Prime D m.zB ws A):=by
 induction ws with
 |nil=>intro c B A _ _ e;exact e
 |cons w ws ih=>
  intro c B A hB hA e;have fF:=hw w (by simp);refine ih (fun a ha=>hw a (by simp[ha])) (PM m.Prime U.length B ((gl x.zA.length fun i=>rsM m.Prime D U.length U pv (m.zB.getD i [])).getD w [])) (PM m.Prime D A (m.zB.getD w [])) (by rw[yU,hB]) (by rw[yU,hA]) ?_;rw[tI fF,←zCM hB,←zCM hA,zTE h hU hI fF,e]
theorem zWH(h1:1≤U.length):IsM x ⟨m.Prime,(U.length:Int),gl x.zA.length fun i=>rsM m.Prime D U.length U pv (m.zB.getD i [])⟩ U.length:=by
 have h7:=h.ok.p.pos;have h3:=h.ok.d3;have tv:U.length≤D:=hU.len_le;have gH:MOk x.zA.length ⟨m.Prime,(U.length:Int),gl x.zA.length fun i=>rsM m.Prime D U.length U pv (m.zB.getD i [])⟩ U.length:=⟨h.ok.p,rfl,h1,by omega,yG,fun i hi=>by
  simp only
  rw[tI hi];exact zTC h hU⟩
 refine⟨h.gr,gH,(tP h.gr.1 gH).1 fun q hq=>?_⟩;obtain⟨⟨g1,_⟩,g2,_⟩:=zB1 h.gr.1 hq;have hA:=(tP h.gr.1 h.ok).2 h.rel q hq;simp only
 have dn:=uV (p:=m.Prime) (D:=U.length) (by omega);have hm:∀ws:List Nat,Mat m.Prime U.length (wM m.Prime U.length (gl x.zA.length fun i=>rsM m.Prime D U.length U pv (m.zB.getD i [])) ws (idM U.length)):=fun ws=>zAC (by omega) ws dn
 have e0:∀c:List Int,Row m.Prime U.length c→cmb m.Prime U.length D (yL m.Prime U.length c (idM U.length)) U=yL m.Prime D (cmb m.Prime U.length D c U) (idM D):=fun c hc=>by rw[zC0 hc,zC0 (zN8 (by omega))]
 have inj:∀{a b:List Int},Row m.Prime U.length a→Row m.Prime U.length b→cmb m.Prime U.length D a U=cmb m.Prime U.length D b U→a=b:=fun{a b} ha hb e=>by
  have at_:∀{c:List Int},Row m.Prime U.length c→ ∀l,l<U.length→at0 (cmb m.Prime U.length D c U) (pv l)=at0 c l:=fun{c} hc l hl=>by rw[cmb,zK (hU.lt l hl),vH (k:=l) hl (fun k hk gf=>by rw[hU.off l k hl hk gf,Jw]),hU.one l hl,K7];exact wK (hc.2 l hl)
  rw[vA ha.1,vA hb.1];exact yK fun l hl=>by rw[←at_ ha l hl,←at_ hb l hl,e]
 refine zBG (D:=U.length) (hm q.1).1 (hm q.2).1 fun i hi=>?_
 have hu:=zEE (D:=U.length) (k:=i) h7.1;rw[←zCO hi (hm q.1),←zCO hi (hm q.2)];refine inj (uK (by omega)) (uK (by omega)) ?_;rw[zN9 h hU hI g1 (idM U.length) (idM D) (wD _) (wD _) (e0 _ hu),zN9 h hU hI g2 (idM U.length) (idM D) (wD _) (wD _) (e0 _ hu),hA]
end
end Go.Pl

namespace Go.Pl
open Go Go.Ab Go.Wk Go.Pc
theorem zIi{p:Int}{D:Nat}{U:Mx}{pv:Nat→Nat}(hU:Red p D U pv):(yD D U.length pv).length+U.length=D:=by
 have key:∀c,c≤D→ ∃t,t≤U.length∧(∀i,i<t→pv i<c)∧(∀i,t≤i→i<U.length→c≤pv i)∧(yD c U.length pv).length+t=c:=by
  intro c
  induction c with
  |zero=>intro _;exact⟨0,by omega,fun i hi=>by omega,fun i _ _=>by omega,rfl⟩
  |succ c ih=>
   intro hc;obtain⟨t,t1,t2,t3,t4⟩:=ih (by omega);have e:yD (c+1) U.length pv=yD c U.length pv++if(Jf U.length).all (fun i=>pv i != c)then[c]else[]:=by
    simp only[yD,Kj,G6]
    congr 1
    by_cases g:(Jf U.length).all (fun i=>pv i != c)
    ·simp[g]
    ·simp[g]
   by_cases g:t<U.length∧pv t=c
   ·have g2:(Jf U.length).all (fun i=>pv i != c)=dv:=by
     rw[Q6];exact⟨t,Jp.2 g.1,by simp[g.2]⟩
    refine⟨t+1,by omega,fun i hi=>?_,fun i hi fD=>?_,?_⟩
    ·by_cases e:i=t
     ·subst e;omega
     ·have:=t2 i (by omega);omega
    ·have:=hU.mono t i (by omega) fD;omega
    ·rw[e,g2];simp;omega
   ·have g2:(Jf U.length).all (fun i=>pv i != c)=du:=by
     rw[Jt];intro i hi;have hi:=Jp.1 hi;simp only[bne_iff_ne];intro e2;rcases Jm i t with q|q
     ·have:=t2 i q;omega
     ·by_cases e3:i=t
      ·subst e3;exact g ⟨hi,e2⟩
      ·have a:=hU.mono t i (by omega) hi
       have b:=t3 t (Jd _) (by omega);omega
    refine⟨t,t1,fun i hi=>by have:=t2 i hi;omega,fun i hi fD=>?_,?_⟩
    ·have a:=t3 i hi fD
     have b:pv i≠c:=by have:=(Jt.1 g2) i (Jp.2 fD);simpa using this
     omega
    ·rw[e,g2];simp;omega
 obtain⟨t,t1,t2,t3,t4⟩:=key D (Jd _);have:t=U.length:=by
  rcases Jm t U.length with g|g
  ·have a:=t3 t (Jd _) g
   have b:=hU.lt t g;omega
  ·omega
 omega
theorem zFA{D N a i:Nat}{pv:Nat→Nat}(ha:a<(yD D N pv).length)(hi:i<N):pv i≠(yD D N pv).getD a 0:=by
 have hm:(yD D N pv).getD a 0∈yD D N pv:=by rw[J4,J7 ha];exact Kz ha
 have:=(U4.1 hm).2;have:=(Jt.1 this) i (Jp.2 hi);simpa using this
theorem zNA{D N a b:Nat}{pv:Nat→Nat}(ha:a<(yD D N pv).length)(hb:b<(yD D N pv).length)(e:(yD D N pv).getD a 0=(yD D N pv).getD b 0):a=b:=by
 have hn:(yD D N pv).Nodup:=List.Nodup.sublist List.filter_sublist List.nodup_range;rw[J4,J7 ha,J4,J7 hb]at e;have e:(yD D N pv)[a]=(yD D N pv)[b]:=e;have hw:=List.pairwise_iff_getElem.1 hn;rcases Gy a b with g|g|g
 ·exact absurd e (hw a b ha hb g)
 ·exact g
 ·exact absurd e.symm (hw b a hb ha g)
theorem zQF{N:Nat}{pv:Nat→Nat}{f:Nat→Int}(hf:∀i,i<N→f (pv i)=0):∀d,S d f=S (yD d N pv).length fun a=>f ((yD d N pv).getD a 0)
 |0=>rfl
 |d+1=>by
  have ih:=zQF hf d;have e:yD (d+1) N pv=yD d N pv++if(Jf N).all (fun i=>pv i != d)then[d]else[]:=by
   simp only[yD,Kj,G6]
   congr 1
   by_cases g:(Jf N).all (fun i=>pv i != d)
   ·simp[g]
   ·simp[g]
  show S d f+f d=_;rw[e,ih]
  by_cases g:(Jf N).all (fun i=>pv i != d)
  ·rw[if_pos g,Ji]
   show _=S ((yD d N pv).length+1) _;show _=S (yD d N pv).length _+f ((yD d N pv++[d]).getD (yD d N pv).length 0)
   congr 1
   ·exact yC fun a ha=>by rw[J4,J4,L6 ha]
   ·rw[J4,Jg (Jd _)];simp
  ·rw[if_neg g,Jk]
   have hz:f d=0:=by
    have g2:(Jf N).all (fun i=>pv i != d)=dv:=by simpa using g
    obtain⟨i,hi,e⟩:=Q6.1 g2;have e:pv i=d:=by simpa using e
    rw[←e];exact hf i (Jp.1 hi)
   rw[hz,Lp]
section
variable {p:Int} (hp:Prime p) {D:Nat} (hD:D≤100000) {U:Mx}{pv:Nat→Nat} (hU:Red p D U pv)
 include hp hD hU
theorem zNB{v:List Int}(hv:Row p D v)(hz:∀i,i<U.length→at0 v (pv i)=0):cl p D U pv v U.length=v:=by
 have ha:=zAE hp hD hU hv U.length;have za:=zDz hp hD hU hv U.length (Jd _);have hx:=hU.expand (zGS hp hD hU hv);rw[vA ha.1]
 conv=>rhs;rw[vA hv.1]
 refine yK fun j hj=>?_
 have e:=hx j hj;rw[yC (g:=fun _=>0) (fun i hi=>by rw[zK (hU.lt i hi),za i hi,hz i hi];simp),tF,zK hj,H8]at e;have e2:=Jo.2 e;rw[wK (ha.2 j hj),wK (hv.2 j hj)]at e2;exact e2
theorem zWI{K:Nat}{c:Nat→Int}{V:Nat→List Int}(hV:∀k,k<K→Row p D (V k)):cl p D U pv (mkv D fun j=>(S K fun k=>c k*at0 (V k) j)%p) U.length=mkv D fun j=>(S K fun k=>c k*at0 (cl p D U pv (V k) U.length) j)%p:=by
 have h7:=hp.pos;have row:∀f:Nat→Int,Row p D (mkv D fun j=>f j%p):=fun f=>by refine⟨zO _ _,fun j hj=>?_⟩;rw[zK hj];have e1:=K8 (f j) (show p≠0 by omega);have e2:=Jx (f j) (show 0<p by omega);omega
 have hy:=row fun j=>S K fun k=>c k*at0 (cl p D U pv (V k) U.length) j
 have hv:=row fun j=>S K fun k=>c k*at0 (V k) j
 have hz:∀i,i<U.length→at0 (mkv D fun j=>(S K fun k=>c k*at0 (cl p D U pv (V k) U.length) j)%p) (pv i)=0:=fun i hi=>by rw[zK (hU.lt i hi),yC (g:=fun _=>0) (fun k hk=>by rw[zDz hp hD hU (hV k hk) U.length (Jd _) i hi,Jw]),tF,H8]
 rw[←zNB hp hD hU hy hz]
 symm
 refine zN7 hp hD hU hv hy ?_;refine zED (out:=gl K fun k=>mkv D fun j=>at0 (cl p D U pv (V k) U.length) j-at0 (V k) j) (cf:=c) (fun k hk=>?_) fun j hj=>?_
 ·rw[yG]at hk
  rw[yF hk];exact zGS hp hD hU (hV k hk)
 ·rw[zK hj,zK hj,zK hj,Qe,Qd,yG]
  congr 1
  rw[G8,show -(S K fun k=>c k*at0 (V k) j)=S K fun k=> -1*(c k*at0 (V k) j)from by rw[vK];omega,←zAR];refine yC fun k hk=>?_
  rw[ent,yF hk,zK hj,Gv];omega
end
section
variable {x:SPr}{m:zC}{D:Nat} (h:IsM x m D) {U:Mx}{pv:Nat→Nat} (hU:Red m.Prime D U pv) (hI:Inv m x.zA.length D U)
def pim(p:Int)(D:Nat)(U:Mx)(pv:Nat→Nat)(v:List Int):List Int:=mkv (yD D U.length pv).length fun b=>at0 (cl p D U pv v U.length) ((yD D U.length pv).getD b 0)
 include h hU
theorem zTF{A:Mx}(hA:Mat m.Prime D A):Mat m.Prime (yD D U.length pv).length (qtM m.Prime D U pv A):=by
 have h3:=h.ok.d3;refine⟨yG,fun a ha=>?_⟩;rw[qtM,yF ha];refine⟨zO _ _,fun b hb=>?_⟩;rw[zK hb];exact(zAE h.ok.p (by omega) hU (hA.2 _ (zBe ha)) U.length).2 _ (zBe hb)
 include hI
 omit h hU in
theorem zWJ{g:Nat}(hg:g<x.zA.length){v:List Int}(hv:Sp m.Prime D U v):Sp m.Prime D U (yL m.Prime D v (m.zB.getD g [])):=by
  obtain⟨c,hc⟩:=hv;refine zED (out:=gl U.length fun l=>yL m.Prime D (U.getD l []) (m.zB.getD g [])) (cf:=c) (fun l hl=>?_) fun j hj=>?_
  · rw[yG]at hl
    rw[yF hl];exact hI _ (zB3 hl) g hg
  · have e1:(S D fun i=>at0 v i*ent (m.zB.getD g []) i j)%m.Prime=(S D fun i=>S U.length fun l=>c l*(ent U l i*ent (m.zB.getD g []) i j))%m.Prime:=wY fun i hi=>by
      rw[J6,←hc i hi,←J6,←zFc]
      congr 1
      exact yC fun l _=>by rw[K9]
    have e2:(S U.length fun l=>c l*ent (gl U.length fun l=>yL m.Prime D (U.getD l []) (m.zB.getD g [])) l j)%m.Prime=(S U.length fun l=>S D fun i=>c l*(ent U l i*ent (m.zB.getD g []) i j))%m.Prime:=wY fun l hl=>by rw[ent,yF hl,yL,zK hj,J6,Je,←J6,←vK]
    rw[yL,zK hj,Je,e1,yG,e2,zCs]
theorem zTG{g:Nat}(hg:g<x.zA.length){v:List Int}(hv:Row m.Prime D v):yL m.Prime (yD D U.length pv).length (pim m.Prime D U pv v) (qtM m.Prime D U pv (m.zB.getD g []))=pim m.Prime D U pv (yL m.Prime D v (m.zB.getD g [])):=by
 have h7:=h.ok.p.pos;have h3:=h.ok.d3;have hp:=h.ok.p;have hA:=h.ok.mat g hg;have hw:=zAE hp (by omega) hU hv U.length;have zw:=zDz hp (by omega) hU hv U.length (Jd _);have e1:cl m.Prime D U pv (yL m.Prime D v (m.zB.getD g [])) U.length=cl m.Prime D U pv (yL m.Prime D (cl m.Prime D U pv v U.length) (m.zB.getD g [])) U.length:=by
  symm
  refine zN7 hp (by omega) hU (uK (by omega)) (uK (by omega)) (zKo (zWJ hI hg (zGS hp (by omega) hU hv)) fun j hj=>?_);rw[zK hj,yL,zK hj,yL,zK hj,yL,zK hj,Qe,Qd,Je]
  congr 1
  rw[G8,show -(S D fun l=>at0 v l*ent (m.zB.getD g []) l j)=S D fun l=> -1*(at0 v l*ent (m.zB.getD g []) l j)from by rw[vK];omega,←zAR];exact yC fun l hl=>by rw[zK hl,Int.sub_mul,G8,Int.neg_mul,Kw]
 have e2:yL m.Prime D (cl m.Prime D U pv v U.length) (m.zB.getD g [])=mkv D fun j=>(S (yD D U.length pv).length fun a=>at0 (pim m.Prime D U pv v) a*at0 ((m.zB.getD g []).getD ((yD D U.length pv).getD a 0) []) j)%m.Prime:=yK fun j hj=>by
  rw[zQF (N:=U.length) (pv:=pv) (fun i hi=>by rw[zw i hi,Ld])]
  congr 1
  exact yC fun a ha=>by rw[pim,zK ha]
 have e3:=zWI hp (by omega) hU (K:=(yD D U.length pv).length) (c:=at0 (pim m.Prime D U pv v)) (V:=fun a=>(m.zB.getD g []).getD ((yD D U.length pv).getD a 0) []) fun a ha=>hA.2 _ (zBe ha)
 conv=>rhs;rw[pim,e1,e2,e3]
 refine yK fun b hb=>?_
 rw[zK (zBe hb)]
 congr 1
 exact yC fun a ha=>by rw[ent,qtM,yF ha,zK hb]
theorem zNC{ws:List Nat}(hw:∀w∈ws,w<x.zA.length):∀{c u:List Int}(B A:Mx),B.length=(yD D U.length pv).length→A.length=D→yL m.Prime (yD D U.length pv).length c B=pim m.Prime D U pv (yL m.Prime D u A)→
  yL m.Prime (yD D U.length pv).length c (wM m.Prime (yD D U.length pv).length (gl x.zA.length fun i=>qtM m.Prime D U pv (m.zB.getD i [])) ws B)=pim m.Prime D U pv (yL m.Prime D u (wM m.Prime D m.zB ws A)):=by
 have h7:=h.ok.p.pos
 induction ws with
 |nil=>intro c u B A _ _ e;exact e
 |cons w ws ih=>
  intro c u B A hB hA e;have fF:=hw w (by simp);refine ih (fun a ha=>hw a (by simp[ha])) (PM m.Prime (yD D U.length pv).length B ((gl x.zA.length fun i=>qtM m.Prime D U pv (m.zB.getD i [])).getD w [])) (PM m.Prime D A (m.zB.getD w [])) (by rw[yU,hB]) (by rw[yU,hA]) ?_;rw[tI fF,←zCM hB,←zCM hA,e,zTG h hU hI fF (uK (by omega))]
theorem zWK(h1:1≤(yD D U.length pv).length):IsM x ⟨m.Prime,((yD D U.length pv).length:Int),gl x.zA.length fun i=>qtM m.Prime D U pv (m.zB.getD i [])⟩ (yD D U.length pv).length:=by
 have h7:=h.ok.p.pos;have h3:=h.ok.d3;have hp:=h.ok.p;have hl:=zF8 (D:=D) (N:=U.length) (pv:=pv);have gH:MOk x.zA.length ⟨m.Prime,((yD D U.length pv).length:Int),gl x.zA.length fun i=>qtM m.Prime D U pv (m.zB.getD i [])⟩ (yD D U.length pv).length:=⟨h.ok.p,rfl,h1,by omega,yG,fun i hi=>by
  simp only
  rw[tI hi];exact zTF h hU (h.ok.mat i hi)⟩
 refine⟨h.gr,gH,(tP h.gr.1 gH).1 fun q hq=>?_⟩;obtain⟨⟨g1,_⟩,g2,_⟩:=zB1 h.gr.1 hq;have hA:=(tP h.gr.1 h.ok).2 h.rel q hq;simp only
 have dn:=uV (p:=m.Prime) (D:=(yD D U.length pv).length) (by omega);have hm:∀ws:List Nat,Mat m.Prime (yD D U.length pv).length (wM m.Prime (yD D U.length pv).length (gl x.zA.length fun i=>qtM m.Prime D U pv (m.zB.getD i [])) ws (idM (yD D U.length pv).length)):=fun ws=>zAC (by omega) ws dn
 refine zBG (D:=(yD D U.length pv).length) (hm q.1).1 (hm q.2).1 fun a ha=>?_
 have hu:=zEE (D:=(yD D U.length pv).length) (k:=a) h7.1;have hv:=zEE (D:=D) (k:=(yD D U.length pv).getD a 0) h7.1;have e0:yL m.Prime (yD D U.length pv).length (uD (yD D U.length pv).length a) (idM (yD D U.length pv).length)=pim m.Prime D U pv (yL m.Prime D (uD D ((yD D U.length pv).getD a 0)) (idM D)):=by
  rw[zC0 hu,zC0 hv,pim,zNB hp (by omega) hU hv (fun i hi=>by rw[uD,zK (hU.lt i hi),if_neg (zFA ha hi)])];refine yK fun b hb=>?_
  rw[uD,zK (zBe hb)]
  by_cases e:b=a
  ·rw[if_pos e,if_pos (by rw[e])]
  ·rw[if_neg e,if_neg (fun e2=>e (zNA hb ha e2))]
 rw[←zCO ha (hm q.1),←zCO ha (hm q.2),zNC h hU hI g1 _ (idM D) (wD _) (wD _) e0,zNC h hU hI g2 _ (idM D) (wD _) (wD _) e0,hA]
end
end Go.Pl

namespace Go.Pl
open Go Go.Ab Go.Wk Go.Pc
section
variable {x:SPr}{m:zC}{D:Nat} (h:IsM x m D)
 include h
theorem zEJ:∃K pk,Red m.Prime D K pk∧Inv m x.zA.length D K∧(∀v,Sp m.Prime D K v↔ ∀g,g<x.zA.length→ ∀j,j<D→at0 (yL m.Prime D v (m.zB.getD g [])) j%m.Prime=at0 v j%m.Prime)∧zUo x m=dq (⟨m.Prime,(D:Int),K⟩,0)∧f_L x m=dq (⟨m.Prime,(D:Int),K⟩,0):=by
 have h6:=h.gr.1.os.1;have h3:=h.ok.d3;have h1:=h.ok.d1;have h7:=h.ok.p.pos;have hnD:x.zA.length*D≤14*3:=Jj h6 h3;obtain⟨K,pk,k1,k2,k3,k4⟩:=zIf h.ok.p (c:=x.zA.length*D) (N:=D) (by omega) (zWC h.ok h6) yG;have hKl:K.length≤D:=k3.len_le;have er:rng ((D:Int)*(x.zA.length:Int))=dq ((x.zA.length*D:Nat):Int):=by grind[zH]
 have e0:ixO (fxR m x.zA.length D) 0=dq (qT m D x.zA.length 0):=zB2 (i:=0) (by omega);have iff:∀v,Sp m.Prime D K v↔ ∀g,g<x.zA.length→ ∀j,j<D→at0 (yL m.Prime D v (m.zB.getD g [])) j%m.Prime=at0 v j%m.Prime:=fun v=>by
  have aO:(zGH m x.zA.length D).length=D:=by simp[zGH]
  have key:∀g,g<x.zA.length→ ∀j,j<D→(S D fun k=>at0 v k*ent (fxR m x.zA.length D) k (g*D+j))%m.Prime=(at0 (yL m.Prime D v (m.zB.getD g [])) j+ -1*at0 v j)%m.Prime:=fun g hg j hj=>by have hb:=uH (D:=D) hg;have e:=zTB h.ok (v:=v) (i:=g*D+j) (by omega);rw[aO,zWG h.ok]at e;have e2:=zGR (F:=fun i=>uW m.Prime D (yL m.Prime D v (m.zB.getD i [])) (-1) v) hj (Jf x.zA.length) g g (fun _ _=>zKm) (Ur hg);rw[←e,inn,e2,uW,zK hj,Je]
  rw[k4];constructor
  ·intro g a ha j hj
   have hb:=uH (D:=D) ha;have e:=g (a*D+j) (by omega);rw[key a ha j hj]at e;exact Jo.2 (by rw[←e];congr 1;omega)
  ·intro g i hi
   obtain⟨a,j,ha,hj,rfl⟩:=qE h1 hi;have e:=Jo.1 (g a ha j hj);rw[key a ha j hj,←e];congr 1;omega
 refine⟨K,pk,k3,fun r hr g hg=>?_,iff,?_,?_⟩
 ·have hs:=zAG (p:=m.Prime) (n:=D) hr
  exact zKo hs fun j hj=>(iff r).1 hs g hg j hj
 ·unfold zUo zWZ zRM
  rw[h.sp,bs,J5,zJ,zT0 h.ok h6,bs,h.ok.d,h.ok.len,er,bs,k1,bs,bs,qD (by omega) (fun i hi=>by rw[(k3.row i hi).1];omega),bs,bs]
 ·unfold f_L
  rw[h.im,bs,J5,zJ,h.ok.d,xD (by omega),bs,zT1 h.ok h6 rfl,bs,e0,bs,zEG,k2,bs]
theorem zIj:∃R pv,Red m.Prime D R pv∧Inv m x.zA.length D R∧tQ m.Prime D R (mvA m D x.zA.length)∧zUn x m=dq (⟨m.Prime,(D:Int),R⟩,0)∧zOW x m=dq (⟨m.Prime,(D:Int),R⟩,0):=by
 have h6:=h.gr.1.os.1;have hD:=h.ok;have h3:=hD.d3;have h7:=hD.p.pos;have cC:x.zA.length*D≤14*3:=Jj h6 h3;have gm:=zF4 hD h6 x.zA.length;have hH:=zNx hD h6 x.zA.length (Jd _);obtain⟨R,pv,r1,r2,r3,r4⟩:=wG hD.p (n:=D) (by omega) (rows:=mvA m D x.zA.length) (by omega) (by grind);have pK:R.length≤D:=r3.len_le;have e1:zG (zIo m) ([],0)=dq (mvA m D x.zA.length):=by
  have:=zQ (body:=zIo m) (r:=mvA m D x.zA.length) (fun i=>(mvA m D i,(i:Int))) x.zA.length (fun i hi=>by
   have cj:=zF4 hD h6 i;have cW:i*D≤14*3:=Jj (by omega) h3;unfold zIo;simp only
   rw[hD.len,yE hi,zI,zW [] (by rw[hD.len];exact hi),bs,zGI hD.p h3 (hD.mat i hi),bs,zR (by rw[cj,mvd,yG];omega),bs,zH (by omega) (by omega),bs,cs];rfl) (by
   unfold zIo;simp only
   rw[hD.len,wS,zJ])
  exact this
 have e2:zG (zIp x m) ([],0)=dq (mvA m D x.zA.length):=by
  have:=zQ (body:=zIp x m) (r:=mvA m D x.zA.length) (fun i=>(mvA m D i,(i:Int))) x.zA.length (fun i hi=>by
   have cj:=zF4 hD h6 i;have cW:i*D≤14*3:=Jj (by omega) h3;unfold zIp;simp only
   rw[yE hi,zI,zGJ hD.p h3 (hD.mat i hi) rfl (zW [] (by rw[hD.len];exact hi)),bs,zR (by rw[cj,mvd,yG];omega),bs,zH (by omega) (by omega),bs,cs];rfl) (by
   unfold zIp;simp)
  exact this
 refine⟨R,pv,r3,fun r hr g hg=>?_,r4,?_,?_⟩
 ·have hs:=zAG (p:=m.Prime) (n:=D) hr
  have hw:Sp m.Prime D R (mkv D fun j=>S D fun k=>at0 r k*at0 (mvr m.Prime D (m.zB.getD g []) k) j):=by
   refine zED (out:=gl D fun k=>mvr m.Prime D (m.zB.getD g []) k) (cf:=at0 r) (fun k hk=>?_) fun j hj=>?_
   ·rw[yG]at hk
    rw[yF hk];exact r4.iff.2 (zAG (zF5 hD h6 hg hk _ hg))
   ·rw[zK hj,yG]
    congr 1
    exact yC fun k hk=>by rw[ent,yF hk]
  refine sC (k:=1) hs hw fun j hj=>?_
  have hA:=hD.mat g hg;have t:∀k,k<D→(at0 r k*at0 (mvr m.Prime D (m.zB.getD g []) k) j)%m.Prime=(at0 r k*ent (m.zB.getD g []) k j+ -1*(at0 r k*if k=j then 1 else 0))%m.Prime:=fun k hk=>by
   rw[mvr,zK hj,J6]
   by_cases e:j=k
   ·rw[if_pos e,if_pos e.symm,Je,←J6,Gv,K7,←e]
    congr 1;omega
   ·rw[if_neg e,if_neg fun q=>e q.symm,←J6,Jw]
    congr 1;omega
  rw[zK hj,yL,zK hj,Je,Kw,Jv,wY t,zAR,vK,vH (f:=fun k=>at0 r k*if k=j then 1 else 0) hj (fun k _ gf=>by rw[if_neg gf,Jw]),if_pos rfl,K7,←Jv]
  congr 1
  omega
 ·unfold zUn zRM
  rw[h.sp,bs,J5,zJ,e1,bs,zO1 hD h6 rfl r3 r4 r1,bs,qD (by omega) (fun i hi=>by rw[(r3.row i hi).1];omega),bs,bs,hD.d]
 ·unfold zOW zRH
  rw[h.im,bs,J5,zJ,e2,bs,r2,bs,bs,hD.d]
end
theorem zTH{p d:Int}{v:List Int}(hp:-100≤p∧p≤100)(hl:v.length≤1000):Ans (f_Z p d v) fun _=>True:=by
 unfold f_Z;refine .cd (fun _=>.rt trivial) fun _=>?_
 have:=tO (body:=zMj p v) v.length (fun i=>0≤at0 v i∧at0 v i≤p-1) rfl (fun i hi _=>by
  unfold zMj;rw[yE hi,zI,yB hi,bs,zH (by omega) (by omega),bs];exact vG (qB _ _ _) (by omega) rfl) (by
  unfold zMj;rw[wS,zJ])
 rcases this with⟨e,_⟩|⟨e,_⟩
 ·exact⟨_,e,trivial⟩
 ·exact⟨_,e,trivial⟩
theorem zOA{c:List Int}{s:zE}(hs:Src s)(e:zLo c=dq s):Ans (zUS c) fun r=>DrP r.1∧DrM r.2.1:=by
 unfold zUS;rw[e,bs];refine .bd (zK8 hs) fun r hr=>?_
 obtain⟨x,m,t⟩:=r;obtain⟨hx,hm,ht⟩:=hr;simp only at hx hm ht;have hp:=hm.p;have hd:=hm.d;obtain⟨D,hD⟩:∃D:Nat,m.Dim=D:=⟨m.Dim.toNat,by omega⟩;refine .bd (yR ht (by omega)) fun r3 ee=>?_
 obtain⟨N,hN⟩:∃N:Nat,r3.1=N:=⟨r3.1.toNat,by omega⟩;refine .bd (P:=fun t=>Src ⟨t.1,t.2.1,t.2.2.1⟩∧t.2.2.2.length≤100∧(Prime m.Prime→ ∀v∈t.2.2.2,Row m.Prime D v)) (.lp (fun i t=>t.2.2.2.2=(N:Int)-i∧Src ⟨t.1,t.2.1,t.2.2.1⟩∧t.2.2.2.1.length≤i∧(Prime m.Prime→ ∀v∈t.2.2.2.1,Row m.Prime D v)) N ⟨by rw[hN];simp,ee.1,by simp,by simp⟩ fun i t hi ht=>?_) fun t ht=>?_
 ·unfold zS3
  refine .cd (fun hl=>.bd (zTA ht.2.1 hm) fun v hv=>?_) fun hl=>.rt ⟨ht.2.1,by simp only;omega,ht.2.2.2⟩
  simp only[decide_eq_true_eq]at hl;simp only[hD];have skip:∀{b:zE},Src b→Ans ((rng (t.2.2.2.2-1)).bind fun v9=>dq (Sum.inl (b.code,b.at_,b.seed,t.2.2.2.1,v9):((List Int)×Int×Int×(List (List Int))×Int)⊕((List Int)×Int×Int×(List (List Int))))) (Ei (fun s'=>i<N∧(s'.2.2.2.2=(N:Int)-((i+1:Nat):Int)∧Src ⟨s'.1,s'.2.1,s'.2.2.1⟩∧s'.2.2.2.1.length≤i+1∧(Prime m.Prime→ ∀v∈s'.2.2.2.1,Row m.Prime D v))) (fun t=>Src ⟨t.1,t.2.1,t.2.2.1⟩∧t.2.2.2.length≤100∧(Prime m.Prime→ ∀v∈t.2.2.2,Row m.Prime D v))):=fun{b} hb=>.rg (by omega) (.rt ⟨by omega,by simp only;omega,hb,by simp only;omega,ht.2.2.2⟩)
  refine .bd (P:=fun b=>Prime m.Prime→b=du→Row m.Prime D v.1) ?_ fun b hb=>.cd (fun hbt=>?_) fun _=>skip hv.1
  ·by_cases eB:Prime m.Prime
   ·rcases zCt (r:=v.1) (D:=D) eB (by omega)with⟨e,k⟩|⟨e,k⟩
    ·exact⟨_,e,fun _ _=>k⟩
    ·exact⟨_,e,fun _ q=>(by cases q)⟩
   ·exact(zTH hp (by omega)).mp fun _ _ q=>absurd q eB
  ·rcases zA9 m.Prime with⟨e,eB⟩|⟨e,_⟩
   ·rw[e,bs,zI,zR (by simp;omega),bs]
    refine .rg (by omega) (.rt ⟨by omega,by simp only;omega,hv.1,by simp;omega,fun _ w hw=>?_⟩);rcases K6.1 hw with hw|hw
    ·exact ht.2.2.2 eB w hw
    ·rw[List.mem_singleton.1 hw];exact hb eB hbt
   ·rw[e,bs,zJ];exact skip hv.1
 ·have red:Prime m.Prime→ ∃R pv,f_o m.Prime t.2.2.2=dq R∧Red m.Prime D R pv:=fun eB=>by
   obtain⟨R,pv,r1,_,r3,_⟩:=wG eB (n:=D) (by omega) (rows:=t.2.2.2) (by omega) (fun i hi=>ht.2.2 eB _ (zB3 hi));exact⟨R,pv,r1,r3⟩
  have tail:∀{Q:SPr×zC×zF→Prop},(∀u,Q (x,m,u))→Ans ((zFr m.Prime).bind fun r16=>cond r16 ((f_o m.Prime t.2.2.2).bind fun r17=>dq (x,m,zF.mk m.Prime m.Dim r17)) (dq (x,m,zF.mk m.Prime m.Dim t.2.2.2))) Q:=fun hQ=>by
   rcases zA9 m.Prime with⟨e,eB⟩|⟨e,_⟩
   ·obtain⟨R,pv,r1,_⟩:=red eB
    rw[e,bs,zI,r1,bs];exact .rt (hQ _)
   ·rw[e,bs,zJ];exact .rt (hQ _)
  refine .bd (yR ht.1 (by omega)) fun r12 fU=>.cd (fun _=>.rt ⟨hx,hm⟩) fun _=>?_
  rcases zCN hx hm with⟨D',h⟩|⟨s1,_⟩
  ·have:D'=D:=by have:=h.ok.d;omega
   subst this;have h3:=h.ok.d3;rw[h.sp,bs,zI];refine .bd (yR fU.1 (by omega)) fun r14 hr14=>.cd (fun _=>?_) fun _=>tail fun _=>⟨hx,hm⟩
   obtain⟨R,pv,r1,r2⟩:=red h.ok.p;obtain⟨W,w1,_⟩:=zKv h.ok h.gr.1.os.1 D' R pv r2 (by omega);unfold f_B;rw[r1,bs,w1,bs];exact .rt ⟨hx,hm⟩
  ·rw[s1,bs,zJ]
   exact tail fun _=>⟨hx,hm⟩
theorem once{σ ρ:Type}{b:σ→Option (σ⊕ρ)}{s:σ}{r:ρ}(h:b s=dq (.inr r)):zG b s=dq r:=by rw[yN,h]
theorem zGT(c:List Int)(hb:∀i(h:i<c.length),0≤c[i]∧c[i]≤255):f_t c=dq du:=by
 unfold f_t zXi;refine zK9 hb (P:=fun r=>DrP r.1∧DrM r.2.1) (fun s hs e=>.bd (zOA hs e) fun r hr=>.rt hr) fun r hr=>?_
 obtain⟨x,m,u⟩:=r;obtain⟨hx,hm⟩:=hr;simp only at hx hm ⊢
 have l1:∀{b:Bool}{k:Int},zG (zS4 (b,k) (b,k)) ()=dq dv:=fun{b k}=>once (by unfold zS4;simp only[bne_self_eq_false,zJ])
 rcases zCN hx hm with⟨D,h⟩|⟨s1,i1⟩
 ·have h6:=h.gr.1.os.1
  have h3:=h.ok.d3;have h1:=h.ok.d1;have one:∀{o:Option Bool}{P:Prop},IsB o P→P→o=dq du:=fun h p=>by
   rcases h with⟨e,_⟩|⟨_,k⟩
   ·exact e
   ·exact absurd p k
  have subI:∀{v:zF},Fit m D v→Inv m x.zA.length D v.Rows→zEM x m v=dq (du,0):=fun{v} hF hI=>by unfold zEM;rw[h.im,bs,J5,zJ,one (zKx h.ok) hF,bs,J5,zJ,one (zGK h.ok h6 hF) hI,bs]
  rcases(zQ4 h.ok (u:=u)).both (zKx h.ok (u:=u))with⟨s2,i2,hF⟩|⟨s2,i2,_⟩
  ·rcases(zLU h.ok h6 hF).both (zGK h.ok h6 hF)with⟨s3,i3,hI⟩|⟨s3,i3,_⟩
   ·have cH:zEM x m u=dq (du,0):=subI hF hI
    have cG:zHx x m u=dq (du,0):=by unfold zHx;rw[h.sp,bs,J5,zJ,s2,bs,J5,zJ,s3,bs]
    obtain⟨e1,e2,pv,hR⟩:=hF;have tv:u.Rows.length≤D:=hR.len_le;have hoc:=zIi hR;have hu:u=zF.mk m.Prime (D:Int) u.Rows:=by rw[←e1,←e2]
    obtain⟨K,pk,k1,k2,_,k3,k4⟩:=zEJ h;obtain⟨R,pr,m1,m2,_,m3,m4⟩:=zIj h;have hKl:=k1.len_le;have pK:=m1.len_le;have lk:∀{W:Mx}{pw:Nat→Nat},Red m.Prime D W pw→zPh ⟨m.Prime,(D:Int),W⟩ ⟨m.Prime,(D:Int),W⟩=dq du:=fun{W pw} hW=>zO9 (by have:=hW.len_le;simp only;omega) (fun r hr=>by obtain⟨i,hi,rfl⟩:=Js.1 hr;have:=(hW.row i hi).1;rw[J4,J7 hi,Gu]at this;omega)
    have hfx:=subI (v:=⟨m.Prime,(D:Int),K⟩) ⟨rfl,rfl,pk,k1⟩ k2;have tj:=subI (v:=⟨m.Prime,(D:Int),R⟩) ⟨rfl,rfl,pr,m1⟩ m2;have l5:zG (zS7 (⟨m.Prime,(D:Int),K⟩,0) (⟨m.Prime,(D:Int),K⟩,0) (⟨m.Prime,(D:Int),R⟩,0) (⟨m.Prime,(D:Int),R⟩,0)) ()=dq dv:=once (by unfold zS7;simp only[bne_self_eq_false,zJ,lk k1,lk m1,bs,J5])
    have rest:∃r k,f_D x m u=dq (r,k)∧(u.Rows.length=0→k=5)∧(u.Rows.length≠0→k=0∧f_w x r=dq du∧r.Dim=(u.Rows.length:Int)):=by
     unfold f_D;rw[h.im,bs,J5,zJ,i2,bs,J5,zJ]
     by_cases h0:u.Rows.length=0
     ·rw[zAS (by omega),zI]
      exact⟨_,_,rfl,fun _=>rfl,fun g=>absurd h0 g⟩
     ·have ei:zG (zPa x m u) ([],0)=dq (gl x.zA.length fun i=>rsM m.Prime D u.Rows.length u.Rows pv (m.zB.getD i [])):=by
       conv=>lhs;rw[hu]
       exact zHn h.ok h6 hR hI rfl
      rw[zFf (by omega),zJ,i3,bs,J5,zJ,ei,bs];exact⟨_,_,rfl,fun g=>absurd g h0,fun _=>⟨rfl,(zWH h hR hI (by omega)).im,rfl⟩⟩
    have quo:∃r k,f_v x m u=dq (r,k)∧(u.Rows.length=D→k=5)∧(u.Rows.length≠D→k=0∧f_w x r=dq du∧r.Dim=m.Dim-(u.Rows.length:Int)):=by
     unfold f_v;rw[h.im,bs,J5,zJ,i2,bs,J5,zJ]
     by_cases h0:u.Rows.length=D
     ·rw[zAS (by have:=h.ok.d;omega),zI]
      exact⟨_,_,rfl,fun _=>rfl,fun g=>absurd h0 g⟩
     ·have ei:zG (zOZ x m u (zCz D u.Rows.length pv)) ([],0)=dq (gl x.zA.length fun i=>qtM m.Prime D u.Rows pv (m.zB.getD i [])):=by
       conv=>lhs;rw[hu]
       exact zO8 h.ok h6 hR rfl
      rw[zFf (by have:=h.ok.d;omega),zJ,i3,bs,J5,zJ,zK6 h.ok.p (by omega) hR h.ok.d rfl,bs,ei,bs];have hq:=zWK h hR hI (by omega);refine⟨_,_,rfl,fun g=>absurd g h0,fun _=>⟨rfl,?_,?_⟩⟩
      ·have:=hq.im
       rw[show(((zCz D u.Rows.length pv).length:Nat):Int)=((yD D u.Rows.length pv).length:Int)from by simp[zCz]];exact this
      ·have:=h.ok.d
       simp only[zCz,Ju];omega
    obtain⟨r,k,q1,q2,q3⟩:=rest;obtain⟨r',k',q4,q5,q6⟩:=quo;have bJ:=h.ok.d;have l3:zG (zS5 (x,m,u) (r,k) (r',k')) ()=dq dv:=once (by
     unfold zS5 zMy;simp only
     by_cases a:u.Rows.length=0
     ·have:=q2 a
      subst this;rw[show((5:Int)==0)=dv from rfl,zJ];obtain⟨rfl,b1,b2⟩:=q6 (by omega);rw[show((0:Int)==0)=du from rfl,zI,b1,bs,bs,J5,zJ,zH (by omega) (by omega),bs,b2,bne_self_eq_false]
     ·obtain⟨rfl,a1,a2⟩:=q3 a
      rw[show((0:Int)==0)=du from rfl,zI,a1,bs,bs,J5,zJ,a2,bne_self_eq_false,zJ]
      by_cases b:u.Rows.length=D
      ·have:=q5 b
       subst this;rw[show((5:Int)==0)=dv from rfl,zJ]
      ·obtain⟨rfl,b1,b2⟩:=q6 b
       rw[show((0:Int)==0)=du from rfl,zI,b1,bs,bs,J5,zJ,zH (by omega) (by omega),bs,b2,bne_self_eq_false])
    have l4:zG (zS6 (x,m,u) (r,k) (r',k')) ()=dq dv:=once (by
     unfold zS6;simp only
     have a:(k==0)=decide ((u.Rows.length:Int)> 0):=by
      by_cases a:u.Rows.length=0
      ·rw[q2 a,dw (by omega)];rfl
      ·rw[(q3 a).1,dx (by omega)];rfl
     have b:(k'==0)=decide ((u.Rows.length:Int)<m.Dim):=by
      by_cases b:u.Rows.length=D
      ·rw[q5 b,dw (by omega)];rfl
      ·rw[(q6 b).1,dx (by omega)];rfl
     rw[a,b,bne_self_eq_false,zJ,bne_self_eq_false])
    rw[cH,bs,cG,bs,l1,bs,zJ];simp only[bne_self_eq_false,zJ];rw[q1,bs,q4,bs];simp only[J5,zJ];rw[l3,bs,zJ,l4,bs,zJ,k4,bs,k3,bs,m4,bs,m3,bs,l5,bs,zJ];simp only[hfx,tj,bs,beq_self_eq_true,zI]
   ·have cH:zEM x m u=dq (dv,0):=by
     unfold zEM;rw[h.im,bs,J5,zJ,i2,bs,J5,zJ,i3,bs]
    have cG:zHx x m u=dq (dv,0):=by unfold zHx;rw[h.sp,bs,J5,zJ,s2,bs,J5,zJ,s3,bs]
    have q1:∃r,f_D x m u=dq (r,5):=by
     unfold f_D;rw[h.im,bs,J5,zJ,i2,bs,J5,zJ];cases((u.Rows.length:Int)==0)with
     |true=>exact⟨_,rfl⟩
     |false=>rw[zJ,i3,bs];exact⟨_,rfl⟩
    have q2:∃r,f_v x m u=dq (r,5):=by
     unfold f_v;rw[h.im,bs,J5,zJ,i2,bs,J5,zJ];cases((u.Rows.length:Int)==m.Dim)with
     |true=>exact⟨_,rfl⟩
     |false=>rw[zJ,i3,bs];exact⟨_,rfl⟩
    obtain⟨r,q1⟩:=q1;obtain⟨r',q2⟩:=q2;have l2:zG (zUT (r,5) (r',5)) ()=dq du:=once rfl;rw[cH,bs,cG,bs,l1,bs,zJ];simp only[bne_self_eq_false,zJ];rw[q1,bs,q2,bs];simp only[Jr,zI];rw[l2,bs]
  ·have cH:zEM x m u=dq (dv,1):=by
    unfold zEM;rw[h.im,bs,J5,zJ,i2,bs];rfl
   have cG:zHx x m u=dq (dv,1):=by unfold zHx;rw[h.sp,bs,J5,zJ,s2,bs];rfl
   rw[cH,bs,cG,bs,l1,bs,zJ];rfl
 ·have cH:zEM x m u=dq (dv,1):=by
   unfold zEM;rw[i1,bs];rfl
  have cG:zHx x m u=dq (dv,1):=by unfold zHx;rw[s1,bs];rfl
  rw[cH,bs,cG,bs,l1,bs,zJ];rfl
theorem zD2(c:List Int)(h:VL VU c):f_t c=dq du:=zGT c (vu h)
end Go.Pl

namespace Go.Pl
open Go Go.Ab Go.Wk Go.Pc
section
variable {p:Int} (hp:2≤p) {D:Nat}
theorem zBf{A:Mx}{i j:Nat}(hi:i<D)(hj:j<D):ent (trM D A) i j=ent A j i:=by rw[ent,trM,yF hi,zK hj]
theorem sX{A:Mx}(hA:Mat p D A):Mat p D (trM D A):=by refine⟨yG,fun i hi=>?_⟩;rw[trM,yF hi];refine⟨zO _ _,fun j hj=>?_⟩;rw[zK hj];exact(hA.2 j hj).2 i hi
theorem zFB{A B:Mx}(hA:Mat p D A)(hB:Mat p D B)(h:∀i j,i<D→j<D→ent A i j=ent B i j):A=B:=by
 refine zBG hA.1 hB.1 fun i hi=>?_
 rw[vA (hA.2 i hi).1,vA (hB.2 i hi).1];exact yK fun j hj=>h i j hi hj
theorem zND{A:Mx}(hA:Mat p D A):trM D (trM D A)=A:=
 zFB (p:=p) (sX (sX hA)) hA fun i j hi hj=>by rw[zBf hi hj,zBf hj hi]
theorem zGU{A B:Mx}(hA:A.length=D){i j:Nat}(hi:i<D)(hj:j<D):ent (PM p D A B) i j=(S D fun l=>ent A i l*ent B l j)%p:=by
 rw[ent,qK (by omega),yL,zK hj]
 include hp
theorem zNE{A B:Mx}(hA:Mat p D A)(hB:Mat p D B):trM D (PM p D A B)=PM p D (trM D B) (trM D A):=
 zFB (p:=p) (sX (jR (by omega) hA.1)) (jR (by omega) (sX hB).1) fun i j hi hj=>by
  rw[zBf hi hj,zGU hA.1 hj hi,zGU (sX hB).1 hi hj]
  congr 1
  exact yC fun l hl=>by rw[zBf hi hl,zBf hl hj,Kk]
theorem zKC:trM D (idM D)=idM D:=
 zFB (p:=p) (sX (uV hp)) (uV hp) fun i j hi hj=>by
  rw[zBf hi hj,ent,ent,vR hi,vR hj,zK hi,zK hj]
  by_cases e:i=j
  ·rw[if_pos e,if_pos e.symm]
  ·rw[if_neg e,if_neg fun q=>e q.symm]
 omit hp in
theorem zKD{A B C:Mx}(hA:Mat p D A)(hB:Mat p D B)(hC:Mat p D C)(h1:PM p D B A=idM D)(h2:PM p D A C=idM D):B=C:=by have e:PM p D (PM p D B A) C=PM p D B (PM p D A C):=zAB hB.1 hA.1;rw[h1,h2,zAw hC,zG7 hB]at e;exact e.symm
end
section
variable {x:SPr}{m:zC}{D:Nat} (h:IsM x m D)
structure Ivs (x:SPr) (m:zC) (D:Nat) (B:Nat→Mx):Prop where
 mat:∀i,i<x.zA.length→Mat m.Prime D (B i)
 r:∀i,i<x.zA.length→PM m.Prime D (m.zB.getD i []) (B i)=idM D
 l:∀i,i<x.zA.length→PM m.Prime D (B i) (m.zB.getD i [])=idM D
def dua(x:SPr)(m:zC)(D:Nat)(B:Nat→Mx):zC:=⟨m.Prime,(D:Int),gl x.zA.length fun i=>trM D (B i)⟩
 include h
theorem zGV:∃B,Ivs x m D B∧zR6 x m=dq (dua x m D B,0)∧zOM x m=dq (dua x m D B,0):=by
 have hP:=h.gr.1;have hD:=h.ok;have h6:=hP.os.1;have h3:=hD.d3;have h7:=hD.p.pos;have cZ:∀i,∃w,i<x.zA.length→zD3 (x.zA.length:Int) (i:Int)=dq (tK x.zA.length i)∧zOL x (tK x.zA.length i)=dq w∧V (suf x 0) w∧f_J m w=dq (zBd m D w)∧Mat m.Prime D (zBd m D w)∧
   PM m.Prime D (m.zB.getD i []) (zBd m D w)=idM D∧PM m.Prime D (zBd m D w) (m.zB.getD i [])=idM D:=fun i=>by
  by_cases hi:i<x.zA.length
  ·obtain⟨w,hw⟩:=zTz hP hD h.rel h.gr.2.1 hi
   grind
  ·exact⟨[],fun h=>absurd h hi⟩
 have hw:=fun i=>Classical.choose_spec (cZ i)
 let w:Nat→Vec:=fun i=>Classical.choose (cZ i)
 refine⟨fun i=>zBd m D (w i),⟨fun i hi=>(hw i hi).2.2.2.2.1,fun i hi=>(hw i hi).2.2.2.2.2.1,fun i hi=>(hw i hi).2.2.2.2.2.2⟩,?_,?_⟩
 ·have e1:zG (zKU x m) ([],0)=dq (gl x.zA.length fun i=>trM D (zBd m D (w i))):=
   xS x.zA.length (fun i=>trM D (zBd m D (w i))) (fun i acc hi ha=>by
    obtain⟨w1,w2,w3,w4,w5,w6,w7⟩:=hw i hi;unfold zKU;simp only
    rw[hD.len,yE hi,zI,w1,bs,w2,bs,w4,bs,zJa h3 w5,bs,zR (by simp;omega),bs,zH (by omega) (by omega),bs,cs]) (fun acc=>by
    unfold zKU;simp only
    rw[hD.len,wS,zJ])
  unfold zR6;rw[h.sp,bs,J5,zJ,e1,bs,hD.d];rfl
 ·have e2:zG (zLa x m) ([],0)=dq (gl x.zA.length fun i=>trM D (zBd m D (w i))):=
   xS x.zA.length (fun i=>trM D (zBd m D (w i))) (fun i acc hi ha=>by
    obtain⟨w1,w2,w3,w4,w5,w6,w7⟩:=hw i hi;unfold zLa;simp only
    rw[yE hi,zI,tE hD h6 hi,bs,zGQ hD.p h3 (hD.mat i hi) w5 w6 w7,bs];simp only
    rw[zFq h3 w5,bs,zR (by simp;omega),bs,zH (by omega) (by omega),bs,cs]) (fun acc=>by
    unfold zLa;simp)
  unfold zOM;rw[h.im,bs,J5,zJ,e2,bs,hD.d];rfl
variable {B:Nat→Mx} (hB:Ivs x m D B)
 include hB
theorem zWL:MOk x.zA.length (dua x m D B) D:=⟨h.ok.p,rfl,h.ok.d1,h.ok.d3,yG,fun i hi=>by show Mat m.Prime D ((gl x.zA.length fun i=>trM D (B i)).getD i []);rw[tI hi];exact sX (hB.mat i hi)⟩
theorem zKE{ws:List Nat}(hw:∀w∈ws,w<x.zA.length):∀(M N:Mx),Mat m.Prime D M→Mat m.Prime D N→PM m.Prime D M (trM D N)=idM D→PM m.Prime D (trM D N) M=idM D→
  PM m.Prime D (wM m.Prime D m.zB ws M) (trM D (wM m.Prime D (dua x m D B).zB ws N))=idM D∧PM m.Prime D (trM D (wM m.Prime D (dua x m D B).zB ws N)) (wM m.Prime D m.zB ws M)=idM D:=by
 have h7:=h.ok.p.pos
 induction ws with
 |nil=>intro M N _ _ e1 e2;exact⟨e1,e2⟩
 |cons w ws ih=>
  intro M N hM hN e1 e2;have fF:=hw w (by simp);have hA:=h.ok.mat w fF;have tw:=hB.mat w fF;have hT:=sX tw;have eA:(dua x m D B).zB.getD w []=trM D (B w):=tI fF;have eT:trM D (PM m.Prime D N (trM D (B w)))=PM m.Prime D (B w) (trM D N):=by rw[zNE h7.1 hN hT,zND tw]
  have dh:=sX hN;refine ih (fun a ha=>hw a (by simp[ha])) (PM m.Prime D M (m.zB.getD w [])) (PM m.Prime D N ((dua x m D B).zB.getD w [])) (jR (by omega) hM.1) (jR (by omega) hN.1) ?_ ?_
  ·rw[eA,eT,zAB hM.1 hA.1,←zAB hA.1 tw.1,hB.r w fF,zAw dh,e1]
  ·rw[eA,eT,zAB tw.1 dh.1,←zAB dh.1 hM.1,e2,zAw hA,hB.l w fF]
theorem zCP:IsM x (dua x m D B) D:=by
 have h7:=h.ok.p.pos;have gH:=zWL h hB;refine⟨h.gr,gH,(tP h.gr.1 gH).1 fun q hq=>?_⟩;obtain⟨⟨g1,_⟩,g2,_⟩:=zB1 h.gr.1 hq;have hA:=(tP h.gr.1 h.ok).2 h.rel q hq;have hI:=uV (p:=m.Prime) (D:=D) h7.1;have e0:PM m.Prime D (idM D) (trM D (idM D))=idM D:=by rw[zKC h7.1,zAw hI]
 have e0':PM m.Prime D (trM D (idM D)) (idM D)=idM D:=by rw[zKC h7.1,zAw hI]
 obtain⟨a1,a2⟩:=zKE h hB g1 (idM D) (idM D) hI hI e0 e0';obtain⟨b1,b2⟩:=zKE h hB g2 (idM D) (idM D) hI hI e0 e0';rw[←hA]at b1;have hm:∀ws,Mat m.Prime D (wM m.Prime D (dua x m D B).zB ws (idM D)):=fun ws=>zAC (by omega) ws hI
 have e:=zKD (zAC (A:=m.zB) (by omega) q.1 hI) (sX (hm q.1)) (sX (hm q.2)) a2 b1;have e2:=congrArg (trM D) e;rw[zND (hm q.1),zND (hm q.2)]at e2;exact e2
theorem zTI{C:Nat→Mx}(hC:Ivs x (dua x m D B) D C):dua x (dua x m D B) D C=m:=by
 have h7:=h.ok.p.pos;have key:∀i,i<x.zA.length→trM D (C i)=m.zB.getD i []:=fun i hi=>by
  have hA:=h.ok.mat i hi;have hBi:=hB.mat i hi;have eA:(dua x m D B).zB.getD i []=trM D (B i):=tI hi;have c2:=hC.l i hi;rw[eA]at c2;have e1:PM m.Prime D (trM D (B i)) (trM D (m.zB.getD i []))=idM D:=by rw[←zNE h7.1 hA hBi,hB.r i hi,zKC h7.1]
  have e:=zKD (sX hBi) (hC.mat i hi) (sX hA) c2 e1;rw[e,zND hA]
 have hd:=h.ok.d;have e:(gl x.zA.length fun i=>trM D (C i))=m.zB:=by
  refine Qc (by rw[yG,h.ok.len]) fun i h1 h2=>?_
  rw[yG]at h1;have:=key i h1;rw[J4,J7 h2,Gu]at this;simp only[gl,List.getElem_map,List.getElem_range];exact this
 show zC.mk m.Prime (D:Int) (gl x.zA.length fun i=>trM D (C i))=m;rw[e,←hd]
end
end Go.Pl

namespace Go.Pl
open Go Go.Ab Go.Wk Go.Pc
theorem zQG{p:Int}(hp:2≤p){N:Nat}:Red p N (gl N (ur N)) (fun i=>i):=by
 have cE:(gl N (ur N)).length=N:=yG;have bI:∀i j,i<N→j<N→ent (gl N (ur N)) i j=if j=i then 1 else 0:=fun i j hi hj=>by rw[ent,yF hi,ur,zK hj]
 refine⟨fun i hi=>?_,fun i hi=>by omega,fun i hi=>?_,fun i hi j hj=>?_,by grind,fun i j ev hj=>ev⟩
 ·rw[cE]at hi
  rw[yF hi];refine⟨zO _ _,fun j hj=>?_⟩
  grind
 all_goals grind
section
variable {p:Int}{D:Nat}{R:Mx}{pv:Nat→Nat}
theorem zWM{N j:Nat}(hj:j<D):(∃i,i<N∧pv i=j)∨ ∃a,a<(yD D N pv).length∧(yD D N pv).getD a 0=j:=by
 by_cases g:∃i,i<N∧pv i=j
 ·exact .inl g
 ·have hm:j∈yD D N pv:=by
   refine U4.2 ⟨Jp.2 hj,?_⟩;rw[Jt];intro i hi;simp only[bne_iff_ne];exact fun e=>g ⟨i,Jp.1 hi,e⟩
  obtain⟨a,ha,e⟩:=Js.1 hm;exact .inr ⟨a,ha,by rw[J4,J7 ha];exact e⟩
def npv(p:Int)(D:Nat)(R:Mx)(pv:Nat→Nat)(a:Nat):List Int:=mkv D fun j=>((if j=(yD D R.length pv).getD a 0 then 1 else 0)-S R.length fun i=>ent R i ((yD D R.length pv).getD a 0)*(if j=pv i then 1 else 0))%p
variable (hp:Prime p) (hR:Red p D R pv)
 include hp in
theorem zTJ{a:Nat}:Row p D (npv p D R pv a):=by
  have h7:=hp.pos;refine⟨zO _ _,fun j hj=>?_⟩;rw[npv,zK hj]
  generalize ((if j=(yD D R.length pv).getD a 0 then 1 else 0)-S R.length fun i=>ent R i ((yD D R.length pv).getD a 0)*(if j=pv i then 1 else 0):Int)=e
  have e1:=K8 e (show p≠0 by omega);have e2:=Jx e (show 0<p by omega);omega
 include hR
theorem zNF{i k:Nat}(hi:i<R.length)(hk:k<R.length)(e:pv i=pv k):i=k:=by
 rcases Gy i k with g|g|g
 ·have:=hR.mono i k g hk;omega
 ·exact g
 ·have:=hR.mono k i g hi;omega
theorem zNG{a l:Nat}(ha:a<(yD D R.length pv).length)(hl:l<R.length):at0 (npv p D R pv a) (pv l)%p=(-1*ent R l ((yD D R.length pv).getD a 0))%p:=by
 rw[npv,zK (hR.lt l hl),Je,if_neg (zFA ha hl),vH (k:=l) hl (fun i hi gf=>by rw[if_neg (fun e=>gf (zNF hR hl hi e).symm),Jw]),if_pos rfl,K7]
 congr 1;omega
 omit hR in
theorem zJe{a b:Nat}(ha:a<(yD D R.length pv).length)(hb:b<(yD D R.length pv).length):at0 (npv p D R pv a) ((yD D R.length pv).getD b 0)%p=(if b=a then 1 else 0)%p:=by
  rw[npv,zK (zBe hb),Je,yC (g:=fun _=>0) (fun i hi=>by rw[if_neg (fun e=>zFA hb hi e.symm),Jw]),tF,Gz]
  by_cases e:b=a
  ·rw[if_pos (by rw[e]),if_pos e]
  ·rw[if_neg (fun q=>e (zNA hb ha q)),if_neg e]
theorem zKF{x:List Int}{l:Nat}(hl:l<R.length):(S D fun j=>at0 x j*ent R l j)=at0 x (pv l)+S (yD D R.length pv).length fun a=>at0 x ((yD D R.length pv).getD a 0)*ent R l ((yD D R.length pv).getD a 0):=by
 have e:=zQF (N:=R.length) (pv:=pv) (f:=fun j=>at0 x j*ent R l j+ -1*(if j=pv l then at0 x (pv l)else 0)) (fun i hi=>by
  by_cases g:i=l
  ·subst g
   rw[hR.one i hi,if_pos rfl];omega
  ·rw[hR.off i l hi hl (fun q=>g q.symm),if_neg (fun q=>g (zNF hR hi hl q))];omega) D
 rw[zAR,vK,vH (f:=fun j=>if j=pv l then at0 x (pv l)else 0) (hR.lt l hl) (fun i _ gf=>if_neg gf),if_pos rfl]at e;have e2:(S (yD D R.length pv).length fun a=>at0 x ((yD D R.length pv).getD a 0)*ent R l ((yD D R.length pv).getD a 0)+ -1*(if(yD D R.length pv).getD a 0=pv l then at0 x (pv l)else 0))=S (yD D R.length pv).length fun a=>at0 x ((yD D R.length pv).getD a 0)*ent R l ((yD D R.length pv).getD a 0):=yC fun a ha=>by rw[if_neg (fun q=>zFA ha hl q.symm)];omega
 rw[e2]at e;omega
 include hp
theorem zLZ{K:Mx}{pk:Nat→Nat}(hD:D≤1000)(hK:Red p D K pk)(hS:∀x,Sp p D K x↔ ∀i,i<R.length→(S D fun j=>at0 x j*ent R i j)%p=0):K.length+R.length=D:=by
 have h7:=hp.pos;have hq:=zIi hR;have hKl:=hK.len_le;have hEK:∀a,a<(yD D R.length pv).length→Sp p D K (npv p D R pv a):=fun a ha=>(hS _).2 fun l hl=>by
  rw[zKF hR hl,Jv,zNG hR ha hl];have e:(S (yD D R.length pv).length fun b=>at0 (npv p D R pv a) ((yD D R.length pv).getD b 0)*ent R l ((yD D R.length pv).getD b 0))%p=ent R l ((yD D R.length pv).getD a 0)%p:=by rw[wY (g:=fun b=>(if b=a then 1 else 0)*ent R l ((yD D R.length pv).getD b 0)) (fun b hb=>by rw[J6,zJe ha hb,←J6]),vH (k:=a) ha (fun b _ gf=>by rw[if_neg gf,Ld]),if_pos rfl,Kw]
  rw[e,←Jv,show -1*ent R l ((yD D R.length pv).getD a 0)+ent R l ((yD D R.length pv).getD a 0)=0 by omega,H8]
 have hKE:∀x,Sp p D K x→Sp p D (gl (yD D R.length pv).length (npv p D R pv)) x:=fun x hx=>by
  have hz:=(hS x).1 hx;refine⟨fun a=>at0 x ((yD D R.length pv).getD a 0),fun j hj=>?_⟩;rw[yG,yC (g:=fun a=>at0 x ((yD D R.length pv).getD a 0)*at0 (npv p D R pv a) j) (fun a ha=>by rw[ent,yF ha])];rcases zWM (pv:=pv) (N:=R.length) hj with⟨l,hl,rfl⟩|⟨b,hb,rfl⟩
  ·have e:=hz l hl
   rw[zKF hR hl]at e;rw[wY (g:=fun a=> -1*(at0 x ((yD D R.length pv).getD a 0)*ent R l ((yD D R.length pv).getD a 0))) (fun a ha=>by
    rw[J6,zNG hR ha hl,←J6]
    congr 1
    rw[←K9,←K9,Kk _ (-1)]),vK]
   exact Jo.2 (by rw[show(-1*(S (yD D R.length pv).length fun a=>at0 x ((yD D R.length pv).getD a 0)*ent R l ((yD D R.length pv).getD a 0))-at0 x (pv l))= -(at0 x (pv l)+S (yD D R.length pv).length fun a=>at0 x ((yD D R.length pv).getD a 0)*ent R l ((yD D R.length pv).getD a 0))by omega];exact Int.emod_eq_zero_of_dvd (Int.dvd_neg.2 (Int.dvd_of_emod_eq_zero e)))
  ·rw[wY (g:=fun a=>at0 x ((yD D R.length pv).getD a 0)*(if b=a then 1 else 0)) (fun a ha=>by rw[J6,zJe ha hb,←J6]),vH (k:=b) hb (fun a _ gf=>by rw[if_neg (fun q=>gf q.symm),Jw]),if_pos rfl,K7]
 have pG:(gl (yD D R.length pv).length (npv p D R pv)).length=(yD D R.length pv).length:=yG;have le1:K.length≤(yD D R.length pv).length:=by have:=zAF hp (n:=D) (by omega) (rows:=gl (yD D R.length pv).length (npv p D R pv)) (by omega) (fun i hi=>by rw[pG]at hi;rw[yF hi];exact zTJ hp) hK ⟨fun i hi=>hKE _ (vU hi),fun i hi=>by rw[pG]at hi;rw[yF hi];exact hEK i hi⟩;omega
 have le2:(yD D R.length pv).length≤K.length:=by
  have bo:=zF8 (D:=D) (N:=R.length) (pv:=pv);have fj:(gl K.length fun i=>mkv (yD D R.length pv).length fun a=>at0 (K.getD i []) ((yD D R.length pv).getD a 0)).length=K.length:=yG;have eB:∀i,i<K.length→Row p (yD D R.length pv).length ((gl K.length fun i=>mkv (yD D R.length pv).length fun a=>at0 (K.getD i []) ((yD D R.length pv).getD a 0)).getD i []):=fun i hi=>by rw[yF hi];refine⟨zO _ _,fun a ha=>?_⟩;rw[zK ha];exact(hK.row i hi).2 _ (zBe ha)
  obtain⟨R3,pv3,_,_,g3,g4⟩:=wG hp (n:=(yD D R.length pv).length) (by omega) (rows:=gl K.length fun i=>mkv (yD D R.length pv).length fun a=>at0 (K.getD i []) ((yD D R.length pv).getD a 0)) (by omega) (by rw[fj];exact eB);have g5:=zAF hp (n:=(yD D R.length pv).length) (by omega) (by omega) (by rw[fj];exact eB) g3 g4;have cE:(gl (yD D R.length pv).length (ur (yD D R.length pv).length)).length=(yD D R.length pv).length:=yG;have g6:=(zQG (p:=p) (by omega) (N:=(yD D R.length pv).length)).le_of (by omega) g3 (fun i hi=>by
   rw[cE]at hi;refine g4.iff.2 ?_;obtain⟨cf,eH⟩:=hEK i hi;refine⟨cf,fun a ha=>?_⟩;rw[fj,yF hi,ur,zK ha];have:=eH _ (zBe ha);rw[zJe hi ha]at this;rw[←this]
   congr 1
   exact yC fun k hk=>by rw[ent,yF hk,zK ha])
  omega
 omega
end
end Go.Pl

namespace Go.Pl
open Go Go.Ab Go.Wk Go.Pc
section
variable {x:SPr}{m:zC}{D:Nat}
theorem zNH{P:List Int→Prop}:∀i,(∀g,g<i→ ∀k,k<D→P (mvr m.Prime D (m.zB.getD g []) k))→ ∀r∈mvA m D i,P r
 |0,_,r,hr=>by simp[mvA]at hr
 |i+1,h,r,hr=>by
  rw[mvA,K6]at hr;rcases hr with hr|hr
  ·exact zNH i (fun g hg=>h g (by omega)) r hr
  ·obtain⟨k,hk,rfl⟩:=Ja.1 hr
   exact h i (by omega) k (Jp.1 hk)
theorem zNI{p:Int}{x v:List Int}{M:Mx}(h:∀i,i<M.length→(S D fun j=>at0 x j*ent M i j)%p=0)(hv:Sp p D M v):(S D fun j=>at0 x j*at0 v j)%p=0:=by
 obtain⟨c,hc⟩:=hv;have e:(S D fun j=>at0 x j*at0 v j)%p=(S D fun j=>S M.length fun i=>c i*(at0 x j*ent M i j))%p:=wY fun j hj=>by
  rw[J6,←hc j hj,←J6,←vK]
  congr 1
  exact yC fun i _=>by rw[←K9,←K9,Kk (at0 x j)]
 rw[e,zCs,wY (g:=fun _=>0) (fun i hi=>by rw[vK,J6,h i hi,Jw]),tF,H8]
theorem zKG{p:Int}{u v:List Int}{A:Mx}(h:∀j,j<D→at0 u j%p=at0 v j%p):yL p D u A=yL p D v A:=yK fun j _=>wY fun l hl=>by rw[J6,h l hl,←J6]
theorem zMa{p:Int}{v:List Int}{j:Nat}(hj:j<D):at0 (yL p D v (idM D)) j=at0 v j%p:=by
 rw[yL,zK hj]
 congr 1
 rw[vH (k:=j) hj (fun l hl gf=>by rw[ent,vR hl,zK hj,if_neg (fun q=>gf q.symm),Jw]),ent,vR hj,zK hj,if_pos rfl,K7]
variable (h:IsM x m D) {B:Nat→Mx} (hB:Ivs x m D B)
 include h hB
theorem zTK{v:List Int}{R:Mx}(hs:tQ m.Prime D R (mvA m D x.zA.length)):(∀g,g<x.zA.length→ ∀j,j<D→at0 (yL m.Prime D v ((dua x m D B).zB.getD g [])) j%m.Prime=at0 v j%m.Prime)↔ ∀i,i<R.length→(S D fun j=>at0 v j*ent R i j)%m.Prime=0:=by
 have h7:=h.ok.p.pos;have eT:∀g,g<x.zA.length→(dua x m D B).zB.getD g []=trM D (B g):=fun g hg=>tI hg
 have inv1:∀g,g<x.zA.length→PM m.Prime D (trM D (B g)) (trM D (m.zB.getD g []))=idM D:=fun g hg=>by rw[←zNE h7.1 (h.ok.mat g hg) (hB.mat g hg),hB.r g hg,zKC h7.1]
 have inv2:∀g,g<x.zA.length→PM m.Prime D (trM D (m.zB.getD g [])) (trM D (B g))=idM D:=fun g hg=>by rw[←zNE h7.1 (hB.mat g hg) (h.ok.mat g hg),hB.l g hg,zKC h7.1]
 have flip:∀{T U:Mx},T.length=D→PM m.Prime D T U=idM D→(∀j,j<D→at0 (yL m.Prime D v T) j%m.Prime=at0 v j%m.Prime)→ ∀j,j<D→at0 (yL m.Prime D v U) j%m.Prime=at0 v j%m.Prime:=fun{T U} hT e1 e2 j hj=>by have e3:yL m.Prime D (yL m.Prime D v T) U=yL m.Prime D v U:=zKG e2;rw[zCM hT,e1]at e3;rw[←e3,zMa hj,Je]
 have mv:∀g,g<x.zA.length→ ∀k,k<D→(S D fun j=>at0 v j*at0 (mvr m.Prime D (m.zB.getD g []) k) j)%m.Prime=(at0 (yL m.Prime D v (trM D (m.zB.getD g []))) k+ -1*at0 v k)%m.Prime:=fun g hg k hk=>by
  have t:∀j,j<D→(at0 v j*at0 (mvr m.Prime D (m.zB.getD g []) k) j)%m.Prime=(at0 v j*ent (trM D (m.zB.getD g [])) j k+ -1*(at0 v j*if j=k then 1 else 0))%m.Prime:=fun j hj=>by
   rw[mvr,zK hj,zBf hj hk,J6]
   by_cases e:j=k
   ·rw[if_pos e,if_pos e,Je,←J6,Gv,K7,e]
    congr 1;omega
   ·rw[if_neg e,if_neg e,←J6,Jw]
    congr 1;omega
  rw[wY t,zAR,vK,vH (f:=fun j=>at0 v j*if j=k then 1 else 0) hk (fun j _ gf=>by rw[if_neg gf,Jw]),if_pos rfl,K7,yL,zK hk,Int.emod_add_emod]
 constructor
 ·intro g i hi
  refine zNI (M:=mvA m D x.zA.length) (fun i hi=>?_) (hs.1 i hi);refine zNH (P:=fun r=>(S D fun j=>at0 v j*at0 r j)%m.Prime=0) x.zA.length (fun a ha k hk=>?_) _ (zB3 hi);have hT:=sX (hB.mat a ha);have e1:∀j,j<D→at0 (yL m.Prime D v (trM D (B a))) j%m.Prime=at0 v j%m.Prime:=fun j hj=>by rw[←eT a ha];exact g a ha j hj
  have e:=flip hT.1 (inv1 a ha) e1 k hk;rw[mv a ha k hk,←Jo.1 e]
  congr 1;omega
 ·intro g a ha
  have hT:=sX (h.ok.mat a ha);rw[eT a ha];refine flip hT.1 (inv2 a ha) fun k hk=>?_
  have gz:=zF5 h.ok h.gr.1.os.1 ha hk x.zA.length ha;have e:=zNI (x:=v) (fun i hi=>g i hi) (hs.iff.2 (zAG gz));rw[mv a ha k hk]at e;exact Jo.2 (by rw[←e];congr 1;omega)
theorem zOB:∃K R,f_L x (dua x m D B)=dq (⟨m.Prime,(D:Int),K⟩,0)∧zOW x m=dq (⟨m.Prime,(D:Int),R⟩,0)∧K.length+R.length=D:=by have h3:=h.ok.d3;obtain⟨K,pk,k1,_,k3,_,k5⟩:=zEJ (zCP h hB);obtain⟨R,pv,r1,_,r3,_,r5⟩:=zIj h;refine⟨K,R,k5,r5,zLZ h.ok.p r1 (by omega) k1 fun v=>?_⟩;rw[←zTK h hB r3];exact k3 v
end
end Go.Pl

namespace Go.Pl
open Go Go.Ab Go.Wk Go.Pc
theorem zB6{β:Type}{L:Nat}{F:Nat→List β}{d:β}:∀{n:Nat},(∀i,i<n→(F i).length=L)→ ∀{a b:Nat},a<n→b<L→(gl n F).flatten.getD (a*L+b) d=(F a).getD b d
 |0,_,a,b,ha,_=>by omega
 |n+1,h,a,b,ha,hb=>by
  have hl:=kW (F:=F) (n:=n) fun i hi=>h i (by omega)
  rw[zCL,Lh,J4,Kg,hl]
  by_cases e:a<n
  ·have:=uH (D:=L) e
   rw[if_pos (by omega),←J4];exact zB6 (fun i hi=>h i (by omega)) e hb
  ·obtain rfl:a=n:=by omega
   rw[if_neg (by omega),L5,J4];simp
theorem zQH{f:Nat→Int}{n:Nat}:∀k:Nat,S (n+k) f=S n f+S k fun b=>f (n+b)
 |0=>by show S n f=S n f+0;omega
 |k+1=>by show S (n+k) f+f (n+k)=S n f+(S k (fun b=>f (n+b))+f (n+k));rw[zQH k];omega
theorem zJf{f:Nat→Int}{E:Nat}:∀D:Nat,S (D*E) f=S D fun a=>S E fun b=>f (a*E+b)
 |0=>by rw[Nat.zero_mul];rfl
 |D+1=>by rw[Kx,zQH,zJf D];rfl
def zOC(x:SPr)(m q:zC)(D E:Nat)(v:List Int):Prop:=∀g,g<x.zA.length→ ∀k l,k<D→l<E→(S D fun a=>ent (m.zB.getD g []) k a*at0 v (a*E+l))%m.Prime=(S E fun b=>at0 v (k*E+b)*ent (q.zB.getD g []) b l)%m.Prime
section
variable {x:SPr}{m q:zC}{D E:Nat} (h:IsM x m D) (h':IsM x q E) (gG:q.Prime=m.Prime)
 include h h' gG
 omit h h' gG in
theorem zNJ{v:List Int}{g k l:Nat}(hg:g<x.zA.length)(hk:k<D)(hl:l<E):(S (D*E) fun i=>at0 v i*ent (call m q x.zA.length D E) i (g*(D*E)+(k*E+l)))%m.Prime=((S D fun a=>ent (m.zB.getD g []) k a*at0 v (a*E+l))+ -1*S E fun b=>at0 v (k*E+b)*ent (q.zB.getD g []) b l)%m.Prime:=by
  have hkl:k*E+l<D*E:=by have:=uH (D:=E) hk;omega
  have e:∀a,a<D→ ∀b,b<E→ent (call m q x.zA.length D E) (a*E+b) (g*(D*E)+(k*E+l))=cv m q a b g k l:=fun a ha b hb=>by rw[ent,call,zB6 (F:=fun a=>zEh m q x.zA.length D E a) (L:=E) (fun _ _=>yG) ha hb,zEh,yF hb,at0,zEg,zB6 (F:=fun g=>zIX m q D E a b g) (fun _ _=>zEi) hg hkl,zIX,zB6 (F:=fun k=>zIW m q E a b g k) (fun _ _=>zO _ _) hk hl];exact zK hl
  rw[zJf,yC (g:=fun a=>S E fun b=>at0 v (a*E+b)*cv m q a b g k l) (fun a ha=>yC fun b hb=>by rw[e a ha b hb])];have t:∀a,a<D→(S E fun b=>at0 v (a*E+b)*cv m q a b g k l)%m.Prime=(ent (m.zB.getD g []) k a*at0 v (a*E+l)+ -1*(if k=a then S E (fun b=>at0 v (a*E+b)*ent (q.zB.getD g []) b l)else 0))%m.Prime:=fun a ha=>by
    rw[wY (g:=fun b=>(if b=l then ent (m.zB.getD g []) k a*at0 v (a*E+l)else 0)+ -1*(at0 v (a*E+b)*if k=a then ent (q.zB.getD g []) b l else 0)) (fun b hb=>by
      rw[cv,J6,Je,←J6,Gv]
      by_cases e:l=b
      ·rw[if_pos e,if_pos e.symm,e,Kk (at0 v _) (ent _ _ _)];congr 1;omega
      ·rw[if_neg e,if_neg (show¬b=l from fun q=>e q.symm),Jw];congr 1;omega),zAR,vH (f:=fun b=>if b=l then ent (m.zB.getD g []) k a*at0 v (a*E+l)else 0) hl (fun b _ gf=>if_neg gf),if_pos rfl,vK]
    by_cases e:k=a
    ·simp only[if_pos e]
    ·simp only[if_neg e,Jw,tF]
  rw[wY t,zAR,vK,vH (f:=fun a=>if k=a then S E (fun b=>at0 v (a*E+b)*ent (q.zB.getD g []) b l)else 0) hk (fun a _ gf=>if_neg (fun q=>gf q.symm)),if_pos rfl]
theorem zEK:∃K pk,Red m.Prime (D*E) K pk∧(∀v,Sp m.Prime (D*E) K v↔zOC x m q D E v)∧f_j x m q=dq ((K.length:Int),0)∧f_g x m q=dq ((K.length:Int),0):=by
 have h6:=h.gr.1.os.1;have h3:=h.ok.d3;have k3:=h'.ok.d3;have h1:=h.ok.d1;have k1:=h'.ok.d1;have cy:D*E≤3*3:=Jj h3 k3;have hDE1:1*1≤D*E:=Jj h1 k1;have bt:x.zA.length*(D*E)≤14*9:=Jj h6 cy;obtain⟨K,pk,n1,_,n3,n4⟩:=zIf h.ok.p (c:=x.zA.length*(D*E)) (N:=D*E) (by omega) (zK0 h.ok h'.ok h6 gG) zGM;have hs:f_j x m q=dq ((K.length:Int),0):=by
  unfold f_j zRd;have er1:rng (m.Dim*q.Dim)=dq ((D*E:Nat):Int):=by rw[h.ok.d,h'.ok.d,←Lj];exact zH (by omega) (by omega)
  have er2:rng (((D*E:Nat):Int)*(m.zB.length:Int))=dq ((x.zA.length*(D*E):Nat):Int):=by rw[h.ok.len,Kk,←Lj];exact zH (by omega) (by omega)
  simp only[h.sp,h'.sp,bs,J5,zJ,sJ gG.symm,zGN h.ok h'.ok h6 gG,er1,er2,n1,bne_self_eq_false]
 obtain⟨g,k,a1,a2⟩:=zBT h.spres h.smod h'.smod;rw[hs]at a1;obtain⟨rfl,rfl⟩:=Ja1.inj (Lw.inj a1);refine⟨K,pk,n3,fun v=>?_,hs,a2⟩;rw[n4];constructor
 ·intro g a ha k l hk hl
  have hkl:k*E+l<D*E:=by have:=uH (D:=E) hk;omega
  have:=uH (D:=D*E) ha;have e:=g (a*(D*E)+(k*E+l)) (by omega);rw[zNJ ha hk hl]at e;exact Jo.2 (by rw[←e];congr 1;omega)
 ·intro g j hj
  obtain⟨a,i,ha,hi,rfl⟩:=qE (D:=D*E) (by omega) hj;obtain⟨k,l,hk,hl,rfl⟩:=qE (D:=E) k1 hi;rw[zNJ ha hk hl,←Jo.1 (g a ha k l hk hl)]
  congr 1;omega
end
end Go.Pl

namespace Go.Pl
open Go Go.Ab Go.Wk Go.Pc
section
variable {p:Int}{D E:Nat}{A B C Q X:Mx}
theorem zKH(hp:2≤p)(hA:Mat p D A)(hC:Mat p E C)(h1:PM p D A B=idM D)(h2:PM p E C Q=idM E)(hX:∀b,b<D→yL p E (X.getD b []) C=cmb p D E (B.getD b []) X){k:Nat}(hk:k<D):cmb p D E (A.getD k []) X=yL p E (X.getD k []) Q:=by
 have e1:cmb p E E (cmb p D E (A.getD k []) X) C=cmb p D E (cmb p D D (A.getD k []) B) X:=by
  rw[zAz,zAz];refine yK fun j hj=>?_
  congr 1
  exact yC fun b hb=>by rw[zAd,hX b hb]
 have e2:cmb p D D (A.getD k []) B=(idM D).getD k []:=by rw[zAd,←h1,qK (by rw[hA.1];exact hk)]
 have e3:yL p E (cmb p E E (cmb p D E (A.getD k []) X) C) Q=yL p E (X.getD k []) Q:=by
  refine zKG fun j hj=>?_
  rw[e1,e2,cmb,zK hj,Je]
  congr 1
  rw[vH (k:=k) hk (fun l hl gf=>by rw[vR hk,zK hl,if_neg gf,Ld]),vR hk,zK hk,if_pos rfl,Kw]
 rw[←e3,zAd (c:=cmb p D E (A.getD k []) X),zCM hC.1,h2,zC0 (zN8 (by omega))]
end
theorem zNK{p:Int}(hp:Prime p){N:Nat}(hN:N≤1000){K1 K2:Mx}{p1 p2:Nat→Nat}(h1:Red p N K1 p1)(h2:Red p N K2 p2){s t:Nat→Nat}(hs:∀i,i<N→s i<N)(ht:∀i,i<N→t i<N∧s (t i)=i)(a:∀y,Sp p N K2 y→Sp p N K1 (mkv N fun i=>at0 y (s i)))(b:∀y,Sp p N K1 y→Sp p N K2 (mkv N fun i=>at0 y (t i))):K2.length≤K1.length:=by
 have _:=hs;have hl:=h1.len_le;have pG:(gl K1.length fun i=>mkv N fun j=>at0 (K1.getD i []) (t j)).length=K1.length:=yG;have:=zAF hp (n:=N) (by omega) (rows:=gl K1.length fun i=>mkv N fun j=>at0 (K1.getD i []) (t j)) (by omega) (fun i hi=>by rw[pG]at hi;rw[yF hi];refine⟨zO _ _,fun j hj=>?_⟩;rw[zK hj];exact(h1.row i hi).2 _ (ht j hj).1) h2 ⟨fun i hi=>?_,fun i hi=>?_⟩
 ·omega
 ·obtain⟨c,hc⟩:=a _ (vU hi)
  refine⟨c,fun j hj=>?_⟩;have e:=hc (t j) (ht j hj).1;rw[zK (ht j hj).1,(ht j hj).2]at e;rw[←e,pG]
  congr 1
  exact yC fun k hk=>by rw[ent,yF hk,zK hj]
 ·rw[pG]at hi
  rw[yF hi];exact b _ (vU hi)
section
variable {x:SPr}{m q:zC}{D E:Nat}
theorem zNL{v:List Int}:zOC x m q D E v↔ ∀g,g<x.zA.length→ ∀k,k<D→cmb m.Prime D E ((m.zB.getD g []).getD k []) (sS D E v)=yL m.Prime E ((sS D E v).getD k []) (q.zB.getD g []):=by
 have e1:∀g k l,k<D→l<E→at0 (cmb m.Prime D E ((m.zB.getD g []).getD k []) (sS D E v)) l=(S D fun a=>ent (m.zB.getD g []) k a*at0 v (a*E+l))%m.Prime:=fun g k l hk hl=>by
  rw[cmb,zK hl]
  congr 1
  refine yC fun a ha=>?_
  show at0 ((m.zB.getD g []).getD k []) a*at0 ((sS D E v).getD a []) l=_;rw[sS,yF ha,zK hl]
 have e2:∀g k l,k<D→l<E→at0 (yL m.Prime E ((sS D E v).getD k []) (q.zB.getD g [])) l=(S E fun b=>at0 v (k*E+b)*ent (q.zB.getD g []) b l)%m.Prime:=fun g k l hk hl=>by
  rw[yL,zK hl]
  congr 1
  exact yC fun b hb=>by rw[sS,yF hk,zK hb]
 constructor
 ·intro h g hg k hk
  have a:(cmb m.Prime D E ((m.zB.getD g []).getD k []) (sS D E v)).length=E:=zO _ _;have b:(yL m.Prime E ((sS D E v).getD k []) (q.zB.getD g [])).length=E:=zO _ _;rw[vA a,vA b];exact yK fun l hl=>by rw[e1 g k l hk hl,e2 g k l hk hl,h g hg k l hk hl]
 ·intro h g hg k l hk hl
  rw[←e1 g k l hk hl,←e2 g k l hk hl,h g hg k hk]
end
end Go.Pl
