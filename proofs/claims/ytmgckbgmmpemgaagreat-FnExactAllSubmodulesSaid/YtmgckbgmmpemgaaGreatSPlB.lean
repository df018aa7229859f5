/- x -/
import Derived.Test.YtmgckbgmmpemgaaGreatSPlA
import Derived.Test.YtmgckbgmmpemgaaGreatSWF
import Derived.Test.YtmgckbgmmpemgaaGreatSAbB
open Bool renaming and_eq_true→J1,not_true→Jg,not_false→Jv
open List renaming replicate→J2,append_nil→Ja,mem_map→Jb,map_cons→Jh,length_append→Ji,take_succ_eq_append_getElem→Jk,take_of_length_le→Jo,range→Jq,all_eq_true→Jy,length_cons→K5,getElem_mem→K7,mem_append→Ka,mem_iff_getElem→Kh,length_take→Kj,range_succ→Ll,map_append→H6,length_filter_le→Hg,map_nil→G4,length_nil→G5,filter_append→Uk,mem_filter→Qd
open Nat renaming le_refl→Jf,lt_or_ge→Jt,zero_le→K6,le_trans→Lh,mul_le_mul→Hv
open Int renaming emod_eq_of_lt→Jx,one_mul→Gp,sub_mul→Qi
open Option renaming bind_eq_some_iff→Gl
open Prod renaming mk→Q2
open Option renaming some→VU,none→VV
open Bool renaming true→VW,false→VX
namespace Go.Pl
open Go Go.Ab Go.Wk Go.Pc
theorem zLD{v:List Int}{k:Nat}(hl:v.length≤1000000)(hk:k<v.length)(h0:∀j,j<k→at0 v j=0)(h1:at0 v k≠0):zSv v=VU (k:Int):=by
 unfold zSv;have:=yB (body:=zKT v) (r:=.inr (k:Int)) (fun i=>(i:Int)) k (fun i hi=>by
  unfold zKT zSu;rw[wD (by omega),zR,xV (by omega),bs,bs,h0 i hi,bne_self_eq_false,zT,zL (by omega) (by omega),bs,cs]) (by
  unfold zKT zSu;rw[wD hk,zR,xV hk,bs,bs,zAT h1,zR])
 grind
section
variable {p:Int} (hp:Prime p) {n:Nat} (hn:n≤100000) {R:Mx}{pv:Nat→Nat} (h:Red p n R pv) {v:List Int} (hv:Row p n v)
 include hp hn h
theorem zK9(hm:R.length≤100000):zSw R=VU (gl R.length fun i=>(pv i:Int)):=by
 have h7:=hp.pos;unfold zSw;rw[zK8 (body:=zKU R) R.length (fun i=>(pv i:Int)) (fun i acc hi ha=>by
  have hr:=h.row i hi;have h1:=h.one i hi;unfold zKU;simp only
  rw[wD hi,zR,wA [] hi,bs,zLD (k:=pv i) (by rw[hr.1];omega) (by grind) (fun j hj=>h.low i hi j hj) (by grind),bs,vP (by simp;omega),bs,zL (by omega) (by omega),bs,cs]) (fun acc=>by
  unfold zKU;simp),bs]
 include hv
theorem zU4{i:Nat}(hi:i<R.length):kD p n (cl p n R pv v i) (0-at0 (cl p n R pv v i) (pv i)) (R.getD i [])=cl p n R pv v (i+1):=by
 have _:=hp;have _:=hn;have _:=h;have _:=hv;have _:=hi;rw[cl];refine tJ fun j _=>?_
 generalize at0 (cl p n R pv v i) (pv i)=a
 generalize at0 (R.getD i []) j=b
 rw[Qi,Qi,Int.zero_mul];have e:at0 (cl p n R pv v i) j+(p*b-a*b)=at0 (cl p n R pv v i) j+(0-a*b)+p*b:=by omega
 simp_all
theorem zHp{c:Int}(hm:R.length≤100000):zSx (zD.mk p c R) v=VU (cl p n R pv v R.length):=by
 have h7:=hp.pos;have:=yB (body:=zI8 (zD.mk p c R) (gl R.length fun i=>(pv i:Int))) (r:=cl p n R pv v R.length) (fun i=>(cl p n R pv v i,(i:Int))) R.length (fun i hi=>by
  have hr:=zHo hp hn h hv i;have ha:=hr.2 (pv i) (h.lt i hi);unfold zI8;simp only
  rw[zU3,wD hi,zR,zWv hi,bs,wA [] hi,bs,xV (by rw[hr.1];exact h.lt i hi),bs,zL (by omega) (by omega),bs,zI0 hp hr (h.row i hi) (by omega) (by omega),bs,zL (by omega) (by omega),bs,cs,zU4 hp hn h hv hi]) (by
  unfold zI8;simp)
 unfold zSx;rw[zHn (by rw[hv.1];omega),bs];simp only
 rw[zK9 hp hn h hm,bs];have e:zI (zI8 (zD.mk p c R) (gl R.length fun i=>(pv i:Int))) (v,0)=VU (cl p n R pv v R.length):=this;rw[e,bs]
theorem zRP:(∀j,j<n→at0 (cl p n R pv v R.length) j=0)↔Sp p n R v:=by
 have h7:=hp.pos;obtain⟨cf,mi⟩:=zNc hp hn h hv R.length (Jf _);have hr:=zHo hp hn h hv R.length;have hs:Sp p n R (mkv n fun j=>S R.length fun k=>cf k*ent R k j):=⟨cf,by grind[vE]⟩;constructor
 ·intro h0
  refine zAJ (v:=mkv n fun _=>0) (w:=mkv n fun j=>S R.length fun k=>cf k*ent R k j) (k:=-1) (zDl fun j hj=>by rw[vE hj];rfl) hs fun j hj=>?_
  have h1:=mi j hj;rw[h0 j hj]at h1;rw[vE hj,vE hj]
  generalize (S R.length fun k=>cf k*ent R k j)=s at h1 ⊢
  have h2:(at0 v j+s)%p=0:=by rw[←h1];rfl
  have h3:(at0 v j-(0+ -1*s))%p=0:=by grind
  exact Int.emod_eq_emod_iff_emod_sub_eq_zero.2 h3
 ·intro pq j hj
  have h1:Sp p n R (cl p n R pv v R.length):=zAJ (k:=1) pq hs fun j hj=>by rw[mi j hj,vE hj,Gp]
  have h2:=h.expand h1 j hj;rw[zBc (g:=fun _=>0) (fun i hi=>by rw[zPG hp hn h hv R.length (Jf _) i hi,Int.zero_mul]),zCk]at h2;have h3:=hr.2 j hj;rw[Jx h3.1 (by omega)]at h2;rw[h2];rfl
end
end Go.Pl

namespace Go.Pl
open Go Go.Ab Go.Wk Go.Pc
section
variable {p:Int} (hp:1<p) {n:Nat}{R R':Mx}{pv pv':Nat→Nat} (h:Red p n R pv) (h':Red p n R' pv') (hs:∀i,i<R.length→Sp p n R' (R.getD i []))
 include hp h h' hs
theorem Red.lt_of{i i2 k k2:Nat}(hii:i<i2)(bl:i2<R.length)(hk:k<R'.length)(e:pv' k=pv i)(e2:pv' k2=pv i2):k<k2:=by
 have _:=hp;have _:=hs;have h1:=h.mono i i2 hii bl;refine Classical.byContradiction fun hn=>?_
 rcases Jt k2 k with g|g
 ·have:=h'.mono k2 k g hk;omega
 grind
theorem Red.low_in:∀i,i<R.length→ ∃k,k<R'.length∧pv' k=pv i∧i≤k:=by
 intro i
 induction i with
 |zero=>intro hi;obtain⟨k,hk,e⟩:=h.piv_in hp h' hs hi;grind
 |succ i ih=>
  intro hi;obtain⟨k,hk,e,hik⟩:=ih (by omega);obtain⟨k2,fA,e2⟩:=h.piv_in hp h' hs hi;have:=h.lt_of hp h' hs (by simp) hi hk e e2
  grind
theorem Red.high_in:∀d i,i+d+1=R.length→ ∃k,k+d<R'.length∧pv' k=pv i:=by
 intro d
 induction d with
 |zero=>intro i hi;obtain⟨k,hk,e⟩:=h.piv_in hp h' hs (i:=i) (by omega);grind
 |succ d ih=>
  intro i hi;obtain⟨k2,fA,e2⟩:=ih (i+1) (by omega);obtain⟨k,hk,e⟩:=h.piv_in hp h' hs (i:=i) (by omega);have:=h.lt_of hp h' hs (by simp) (by omega) hk e e2
  grind
theorem Red.le_of:R.length≤R'.length:=by
 rcases Nat.eq_zero_or_pos R.length with g|g
 ·omega
 ·obtain⟨k,hk,_,hik⟩:=h.low_in hp h' hs (R.length-1) (by omega)
  omega
theorem Red.eq_of(hl:R.length=R'.length):R=R':=by
 have hpv:∀i,i<R.length→pv' i=pv i:=fun i hi=>by
  obtain⟨k,hk,e,hik⟩:=h.low_in hp h' hs i hi;obtain⟨k2,fA,e2⟩:=h.high_in hp h' hs (R.length-1-i) i (by omega);have h1:k2≤i:=by omega
  rcases Jt k2 k with g|g
  ·have:=h'.mono k2 k g hk;omega
  grind
 refine zFu (D:=R.length) rfl hl.symm fun i hi=>?_
 have ek:i<R'.length:=by omega
 have r1:=h.row i hi;have r2:=h'.row i ek;rw[zCl r1.1,zCl r2.1];refine tJ fun j hj=>?_
 have h1:=h'.expand (hs i hi) j hj;rw[zFL (k:=i) ek (fun k hk gk=>by
  have h3:=h.off k i (by omega) hi (Ne.symm gk)
  grind)]at h1
 have h4:=h.one i hi;simp only[ent]at h4;rw[hpv i hi,h4,Gp]at h1;have b1:=r1.2 j hj;have b2:=r2.2 j hj;simp only[ent]at h1
 rwa [Jx b1.1 (by omega),Jx b2.1 (by omega)]at h1
end
end Go.Pl

namespace Go.Pl
open Go Go.Ab Go.Wk Go.Pc
def Inv(m:zS)(n D:Nat)(R:Mx):Prop:=∀r∈R,∀i,i<n→Sp m.Prime D R (zBR m.Prime D r (m.zP.getD i []))
section
variable {n D:Nat}{m:zS} (hm:MOk n m D) (hn:n≤14)
 include hm hn
theorem zNe{R:Mx}{r:List Int}(hr:r∈R){i:Nat}:∀j,i<j→zBR m.Prime D r (m.zP.getD i [])∈spA m D R j
 |0,h=>by have _:=hm;have _:=hn;omega
 |j+1,h=>by
  rw[spA,Ka]
  by_cases e:i=j
  ·subst e;exact .inr (Jb.2 ⟨r,hr,rfl⟩)
  ·exact .inl (zNe hr j (by omega))
theorem zI3{R:Mx}{pv:Nat→Nat}(hR:Red m.Prime D R pv):∃R2 pv2,Red m.Prime D R2 pv2∧R.length≤R2.length∧(R2.length=R.length↔Inv m n D R)∧zQU m R=if R2.length=R.length then VU (.inr R)else VU (.inl R2):=by
 have h7:=hm.p.pos;have h3:=hm.d3;have dX:R.length≤D:=hR.len_le;have px:∀r∈R,Row m.Prime D r:=fun r h=>by
  obtain⟨i,hi,rfl⟩:=Kh.1 h;have:=hR.row i hi
  grind
 have ej:(zI (zOf m R) (R,0))=VU (spA m D R n):=by
  have:=yB (body:=zOf m R) (r:=spA m D R n) (fun i=>(spA m D R i,(i:Int))) n (fun i hi=>by
   have hl:=zJl hm hn (R:=R) i;have Vv:i*R.length≤14*3:=Hv (by omega) (by omega);unfold zOf;simp only
   rw[hm.len,wD hi,zR,wA [] (by rw[hm.len];exact hi),bs,hm.d,zJk hm.p h3 (by omega) hR.row (hm.mat i hi),bs,vP (by rw[hl,wO];omega),bs,zL (by omega) (by omega),bs,cs];rfl) (by
   unfold zOf;simp only
   rw[hm.len,zBa,zT])
  exact this
 have hl:=zJl hm hn (R:=R) n;have Vv:n*R.length≤14*3:=Hv (by omega) (by omega);have hrows:=zJm hm hn (R:=R) (P:=Row m.Prime D) px (by grind[zK3]) n (Jf _);obtain⟨R2,pv2,g1,_,g3,g4⟩:=zCS hm.p (n:=D) (by omega) (rows:=spA m D R n) (by omega) (by grind);have mH:∀i,i<R.length→Sp m.Prime D R2 (R.getD i []):=fun i hi=>g4.iff.2 (by grind[zLC,zPK])
 refine⟨R2,pv2,g3,hR.le_of (by omega) g3 mH,⟨fun gm=>?_,fun hI=>?_⟩,?_⟩
 ·have hu:=hR.eq_of (by omega) g3 mH gm.symm
  intro r hr i hi;rw[hu];exact g4.iff.2 (by grind[zLC,zNe])
 ·have pF:∀r∈spA m D R n,Sp m.Prime D R r:=zJm hm hn (R:=R) (P:=Sp m.Prime D R) (fun r h=>zLC h) (fun r h i hi=>hI r h i hi) n (Jf _)
  have:=g3.le_of (by omega) hR fun i hi=>kS (by grind) (g4.1 i hi)
  have:=hR.le_of (by omega) g3 mH;omega
 ·unfold zQU
  rw[zNP (by omega) (fun i hi=>by rw[(hR.row i hi).1];omega),bs,ej,bs,g1,bs]
  grind
theorem zPM:∀(d:Nat)(R:Mx)(pv:Nat→Nat),Red m.Prime D R pv→D-R.length≤d→ ∃W,zI (zQU m) R=VU W∧R.length≤W.length∧(W.length=R.length↔Inv m n D R):=by
 intro d
 induction d with
 |zero=>
  intro R pv hR hd;have dX:R.length≤D:=hR.len_le;obtain⟨R2,pv2,g1,g2,g3,g4⟩:=zI3 hm hn hR;have h2:R2.length≤D:=g1.len_le;have e:R2.length=R.length:=by omega
  rw[if_pos e]at g4;exact⟨R,by rw[xW,g4],Jf _,by grind⟩
 |succ d ih=>
  intro R pv hR hd;obtain⟨R2,pv2,g1,g2,g3,g4⟩:=zI3 hm hn hR
  by_cases e:R2.length=R.length
  ·rw[if_pos e]at g4
   exact⟨R,by rw[xW,g4],Jf _,by grind⟩
  ·rw[if_neg e]at g4
   grind[xW]
end
end Go.Pl

namespace Go.Pl
open Go Go.Ab Go.Wk Go.Pc
end Go.Pl

namespace Go.Pl
open Go Go.Ab Go.Wk Go.Pc
def zWw(u:zD):Prop:=Prime u.Prime∧ ∃C:Nat,C≤8∧u.yC=(C:Int)∧u.Rows.length≤8∧ ∀i,i<u.Rows.length→Row u.Prime C (u.Rows.getD i [])
theorem zNQ{u:zD}:IsB (zQT u) (zWw u):=by
 unfold zQT;rcases zDW u.Prime with⟨h1,h2⟩|⟨h1,h2⟩
 ·rw[h1,bs,Jg,zT]
  rcases zBy u.yC 0 8 with⟨h3,h4⟩|⟨h3,h4⟩
  ·obtain⟨C,hC⟩:∃C:Nat,u.yC=(C:Int):=⟨u.yC.toNat,by omega⟩
   rw[h3,bs,Jg,zT]
   by_cases hl:u.Rows.length≤8
   ·rw[VY (by omega),zT]
    refine(kO (body:=zI7 u) u.Rows.length (fun i=>Row u.Prime C (u.Rows.getD i [])) rfl (fun i hi _=>?_) ?_).iff ⟨fun g=>⟨h2,C,by omega,hC,hl,g⟩,fun⟨_,C',_,e,_,g⟩=>by grind⟩
    ·refine tP (zFM h2 (D:=C) (by omega)) (by omega) ?_
     unfold zI7;rw[wD hi,zR,wA [] hi,bs,hC]
    ·unfold zI7
     simp
   ·rw[VZ (by omega),zR]
    exact .inr ⟨rfl,fun⟨_,_,_,_,g,_⟩=>hl g⟩
  ·rw[h3,bs,Jv,zR]
   exact .inr ⟨rfl,fun⟨_,C,g1,g2,_⟩=>h4 (by omega)⟩
 ·rw[h1,bs,Jv,zR]
  exact .inr ⟨rfl,fun g=>h2 g.1⟩
def zPN(u:zD):Prop:=Prime u.Prime∧ ∃(C:Nat)(pv:Nat→Nat),C≤8∧u.yC=(C:Int)∧Red u.Prime C u.Rows pv
theorem zPN.mx{u:zD}(h:zPN u):zWw u:=by obtain⟨h1,C,pv,h2,h3,h4⟩:=h;exact⟨h1,C,h2,h3,by have:=h4.len_le;omega,h4.row⟩
theorem Row.len{p:Int}{n:Nat}{R:Mx}(h:∀i,i<R.length→Row p n (R.getD i [])):∀r∈R,r.length=n:=fun r hr=>by
 obtain⟨i,hi,rfl⟩:=Kh.1 hr;have:=(h i hi).1
 grind
theorem zHA{u:zD}:IsB (zSs u) (zPN u):=by
 unfold zSs;rcases zNQ (u:=u)with⟨h1,h2⟩|⟨h1,h2⟩
 ·obtain⟨g1,C,g2,g3,g4,g5⟩:=h2
  obtain⟨R,pv,r1,r2,r3,r4⟩:=zCS g1 (n:=C) (by omega) (rows:=u.Rows) (by omega) g5;have dX:R.length≤C:=r3.len_le;rw[h1,bs,zR,r1];simp only[bs];rw[zDZ (by omega) (fun r hr=>by rw[Row.len r3.row r hr];omega)];simp only[bs];refine IsB.of_bool ⟨fun e=>?_,fun⟨_,C',pv',_,e2,e3⟩=>?_⟩
  ·have e:R=u.Rows:=by grind
   exact⟨g1,C,pv,g2,g3,e▸r3⟩
  ·obtain rfl:C'=C:=by omega
   have:=g1.pos;have:=r3.unique (by omega) e3 r4;simp[this]
 ·rw[h1,bs,zT]
  exact .inr ⟨rfl,fun g=>h2 g.mx⟩
theorem zJn{v:List Int}(hl:v.length≤1000000):IsB (zQt v) (∀i,i<v.length→at0 v i=0):=by
 refine kO v.length (fun i=>at0 v i=0) rfl (fun i hi _=>?_) ?_
 ·refine tP (o:=VU (at0 v i==0)) (IsB.of_bool (by simp)) (by omega) ?_
  unfold zI5;rw[wD hi,zR,xV hi,bs,bs];rfl
 ·unfold zI5
  simp
theorem zHB{p:Int}(hp:Prime p){D:Nat}(hD:D≤3){A B:Mx}{q:Int}(hl:A.length≤1000)(hA:∀i,i<A.length→Row p D (A.getD i []))(hB:Mat p D B):f_G (zD.mk p q A) (zD.mk p (D:Int) B)=VU (zD.mk p (D:Int) (PM p D A B)):=by
 unfold f_G;have:=yB (body:=zKO (zD.mk p q A) (zD.mk p (D:Int) B)) (r:=PM p D A B) (fun i=>((PM p D A B).take i,(i:Int))) A.length (fun i hi=>by
  unfold zKO;simp only
  rw[wD hi,zR,wA [] (by omega),bs,zBS hp (by omega) (hA i hi) hB rfl,bs,vP (by rw[Kj,wO];simp;omega),bs,zL (by omega) (by omega),bs,cs,zDk hp (by omega) (by omega)]) (by
  unfold zKO;simp only
  rw[zBa,zT,Jo (by grind[wO])])
 grind
section
variable {n D:Nat}{m:zS} (hm:MOk n m D) (hn:n≤14)
 include hm
def Fit(m:zS)(D:Nat)(u:zD):Prop:=u.Prime=m.Prime∧u.yC=(D:Int)∧ ∃pv,Red m.Prime D u.Rows pv
theorem zRQ{u:zD}:(zPN u∧u.Prime=m.Prime∧u.yC=m.Dim)↔Fit m D u:=by
 have h3:=hm.d3;have hd:=hm.d;constructor
 ·rintro⟨⟨_,C,pv,_,g2,g3⟩,e1,e2⟩
  obtain rfl:C=D:=by omega
  exact⟨e1,g2,pv,e1▸g3⟩
 ·rintro⟨e1,e2,pv,e3⟩
  exact⟨⟨e1▸hm.p,D,pv,by omega,e2,e1▸e3⟩,e1,by omega⟩
 include hn
theorem zKA{R:Mx}:(∀i,i<n→ ∀k,k<R.length→Sp m.Prime D R (zBR m.Prime D (R.getD k []) (m.zP.getD i [])))↔Inv m n D R:=by
 have _:=hm;have _:=hn;constructor
 ·intro h r hr i hi
  obtain⟨k,hk,rfl⟩:=Kh.1 hr
  grind
 ·intro h i hi k hk
  exact h _ (zPJ hk) i hi
theorem zLE{u:zD}(hu:Fit m D u):IsB (f_B m u) (Inv m n D u.Rows):=by
 obtain⟨e1,e2,pv,hR⟩:=hu;have h7:=hm.p.pos;have h3:=hm.d3;have dX:u.Rows.length≤D:=hR.len_le;have hu:u=zD.mk m.Prime (D:Int) u.Rows:=by rw[←e1,←e2]
 refine IsB.iff ?_ (zKA hm hn);refine kO (body:=zQW m u) n (fun i=> ∀k,k<u.Rows.length→Sp m.Prime D u.Rows (zBR m.Prime D (u.Rows.getD k []) (m.zP.getD i []))) rfl (fun i hi _=>?_) ?_
 ·unfold zQW
  rw[hm.len,wD hi,zR,zDA hm hn hi,bs];have cU:f_G u (zD.mk m.Prime (D:Int) (m.zP.getD i []))=VU (zD.mk m.Prime (D:Int) (PM m.Prime D u.Rows (m.zP.getD i []))):=by
   conv=>lhs;rw[hu]
   exact zHB hm.p h3 (by omega) hR.row (hm.mat i hi)
  rw[cU,bs];have ej:=chk (body:=zQV u (zD.mk m.Prime (D:Int) (PM m.Prime D u.Rows (m.zP.getD i [])))) u.Rows.length 0 (K6 _) (fun k=>Sp m.Prime D u.Rows (zBR m.Prime D (u.Rows.getD k []) (m.zP.getD i []))) (fun _=>VX) (fun k _ hk _=>by
   have hw:Row m.Prime D (zBR m.Prime D (u.Rows.getD k []) (m.zP.getD i [])):=zK3 (by omega);have gK:=zHo hm.p (by omega) hR hw u.Rows.length;refine tP ((zJn (by rw[gK.1];omega)).iff (by rw[gK.1];exact zRP hm.p (by omega) hR hw)) (by omega) ?_;unfold zQV;simp only
   rw[wO,wD hk,zR,wA [] (by grind[wO]),bs,zCQ hk]
   conv=>lhs;rw[hu]
   rw[zHp hm.p (by omega) hR hw (by omega),bs]) (by
   unfold zQV;simp only
   rw[wO,zBa,zT])
  rcases ej with⟨g1,g2⟩|⟨k,_,hk,g1,g2⟩
  ·left
   rw[show((0:Nat):Int)=0 from rfl]at g1;rw[g1,bs];simp only
   rw[zL (by omega) (by omega),bs,cs]
   grind
  grind
 ·unfold zQW
  rw[hm.len,zBa,zT]
theorem zNR{R:Mx}{pv:Nat→Nat}(hR:Red m.Prime D R pv):f_o m.Prime R=VU R∧f_l m.Prime R=VU R:=by
 have _:=hn;have h7:=hm.p.pos;have h3:=hm.d3;have dX:R.length≤D:=hR.len_le;obtain⟨R2,pv2,r1,r2,r3,r4⟩:=zCS hm.p (n:=D) (by omega) (rows:=R) (by omega) hR.row;rw[←r3.unique (by omega) hR r4];rw[←r3.unique (by omega) hR r4]at r1 r2
 grind
theorem zLF{u:zD}(hu:Fit m D u):IsB (zOg m u.Rows) (Inv m n D u.Rows):=by
 obtain⟨e1,e2,pv,hR⟩:=hu;obtain⟨W,w1,w2,w3⟩:=zPM hm hn D u.Rows pv hR (by omega)
 grind[zOg,f_N,zNR,IsB.of_bool]
end
end Go.Pl

namespace Go.Pl
open Go Go.Ab Go.Wk Go.Pc
end Go.Pl

namespace Go.Pl
open Go Go.Ab Go.Wk Go.Pc
end Go.Pl

namespace Go.Pl
open Go Go.Ab Go.Wk Go.Pc
end Go.Pl

namespace Go.Pl
open Go Go.Ab Go.Wk Go.Pc
end Go.Pl

namespace Go.Pl
open Go Go.Ab Go.Wk Go.Pc
end Go.Pl

namespace Go.Pl
open Go Go.Ab Go.Wk Go.Pc
end Go.Pl

namespace Go.Pl
open Go Go.Ab Go.Wk Go.Pc
end Go.Pl

namespace Go.Pl
open Go Go.Ab Go.Wk Go.Pc
end Go.Pl

namespace Go.Pl
open Go Go.Ab Go.Wk Go.Pc
end Go.Pl

namespace Go.Pl
open Go Go.Ab Go.Wk Go.Pc
end Go.Pl

namespace Go.Pl
open Go Go.Ab Go.Wk Go.Pc
end Go.Pl

namespace Go.Pl
open Go Go.Ab Go.Wk Go.Pc
end Go.Pl

namespace Go.Pl
open Go Go.Ab Go.Wk Go.Pc
end Go.Pl

namespace Go.Pl
open Go Go.Ab Go.Wk Go.Pc
end Go.Pl

namespace Go.Pl
open Go Go.Ab Go.Wk Go.Pc
end Go.Pl

namespace Go.Pl
open Go Go.Ab Go.Wk Go.Pc
end Go.Pl

namespace Go.Pl
open Go Go.Ab Go.Wk Go.Pc
end Go.Pl

namespace Go.Pl
open Go Go.Ab Go.Wk Go.Pc
end Go.Pl

namespace Go.Pl
open Go Go.Ab Go.Wk Go.Pc
end Go.Pl

namespace Go.Pl
open Go Go.Ab Go.Wk Go.Pc
end Go.Pl

namespace Go.Pl
open Go Go.Ab Go.Wk Go.Pc
end Go.Pl

namespace Go.Pl
open Go Go.Ab Go.Wk Go.Pc
end Go.Pl

namespace Go.Pl
open Go Go.Ab Go.Wk Go.Pc
end Go.Pl

namespace Go.Pl
open Go Go.Ab Go.Wk Go.Pc
end Go.Pl

namespace Go.Pl
open Go Go.Ab Go.Wk Go.Pc
end Go.Pl

namespace Go.Pl
open Go Go.Ab Go.Wk Go.Pc
end Go.Pl

namespace Go.Pl
open Go Go.Ab Go.Wk Go.Pc
end Go.Pl

namespace Go.Pl
open Go Go.Ab Go.Wk Go.Pc
end Go.Pl

namespace Go.Pl
open Go Go.Ab Go.Wk Go.Pc
end Go.Pl

namespace Go.Pl
open Go Go.Ab Go.Wk Go.Pc
end Go.Pl

namespace Go.Pl
open Go Go.Ab Go.Wk Go.Pc
end Go.Pl

namespace Go.Pl
open Go Go.Ab Go.Wk Go.Pc
end Go.Pl

namespace Go.Pl
open Go Go.Ab Go.Wk Go.Pc
end Go.Pl

namespace Go.Pl
open Go Go.Ab Go.Wk Go.Pc
end Go.Pl

namespace Go.Pl
open Go Go.Ab Go.Wk Go.Pc
end Go.Pl

namespace Go.Pl
open Go Go.Ab Go.Wk Go.Pc
end Go.Pl

namespace Go.Pl
open Go Go.Ab Go.Wk Go.Pc
end Go.Pl

namespace Go.Pl
open Go Go.Ab Go.Wk Go.Pc
end Go.Pl

namespace Go.Pl
open Go Go.Ab Go.Wk Go.Pc
end Go.Pl

namespace Go.Pl
open Go Go.Ab Go.Wk Go.Pc
end Go.Pl

namespace Go.Pl
open Go Go.Ab Go.Wk Go.Pc
end Go.Pl

namespace Go.Pl
open Go Go.Ab Go.Wk Go.Pc
end Go.Pl

namespace Go.Pl
open Go Go.Ab Go.Wk Go.Pc
end Go.Pl

namespace Go.Pl
open Go Go.Ab Go.Wk Go.Pc
end Go.Pl

namespace Go.Pl
open Go Go.Ab Go.Wk Go.Pc
end Go.Pl

namespace Go.Pl
open Go Go.Ab Go.Wk Go.Pc
end Go.Pl

namespace Go.Pl
open Go Go.Ab Go.Wk Go.Pc
end Go.Pl

namespace Go.Pl
open Go Go.Ab Go.Wk Go.Pc
end Go.Pl

namespace Go.Pl
open Go Go.Ab Go.Wk Go.Pc
end Go.Pl

namespace Go.Pl
open Go Go.Ab Go.Wk Go.Pc
end Go.Pl

namespace Go.Pl
open Go Go.Ab Go.Wk Go.Pc
end Go.Pl

namespace Go.Pl
open Go Go.Ab Go.Wk Go.Pc
end Go.Pl

namespace Go.Pl
open Go Go.Ab Go.Wk Go.Pc
end Go.Pl

namespace Go.Pl
open Go Go.Ab Go.Wk Go.Pc
end Go.Pl

namespace Go.Pl
open Go Go.Ab Go.Wk Go.Pc
end Go.Pl

namespace Go.Pl
open Go Go.Ab Go.Wk Go.Pc
end Go.Pl

namespace Go.Pl
open Go Go.Ab Go.Wk Go.Pc
end Go.Pl

namespace Go.Pl
open Go Go.Ab Go.Wk Go.Pc
end Go.Pl

namespace Go.Pl
open Go Go.Ab Go.Wk Go.Pc
end Go.Pl

namespace Go.Pl
open Go Go.Ab Go.Wk Go.Pc
end Go.Pl

namespace Go.Pl
open Go Go.Ab Go.Wk Go.Pc
end Go.Pl

namespace Go.Pl
open Go Go.Ab Go.Wk Go.Pc
end Go.Pl

namespace Go.Pl
open Go Go.Ab Go.Wk Go.Pc
end Go.Pl

namespace Go.Pl
open Go Go.Ab Go.Wk Go.Pc
end Go.Pl

namespace Go.Pl
open Go Go.Ab Go.Wk Go.Pc
end Go.Pl

namespace Go.Pl
open Go Go.Ab Go.Wk Go.Pc
end Go.Pl

namespace Go.Pl
open Go Go.Ab Go.Wk Go.Pc
end Go.Pl

namespace Go.Pl
open Go Go.Ab Go.Wk Go.Pc
end Go.Pl

namespace Go.Pl
open Go Go.Ab Go.Wk Go.Pc
end Go.Pl

namespace Go.Pl
open Go Go.Ab Go.Wk Go.Pc
end Go.Pl

namespace Go.Pl
open Go Go.Ab Go.Wk Go.Pc
end Go.Pl

namespace Go.Pl
open Go Go.Ab Go.Wk Go.Pc
end Go.Pl

namespace Go.Pl
open Go Go.Ab Go.Wk Go.Pc
end Go.Pl

namespace Go.Pl
open Go Go.Ab Go.Wk Go.Pc
end Go.Pl

namespace Go.Pl
open Go Go.Ab Go.Wk Go.Pc
end Go.Pl

namespace Go.Pl
open Go Go.Ab Go.Wk Go.Pc
end Go.Pl

namespace Go.Pl
open Go Go.Ab Go.Wk Go.Pc
end Go.Pl

namespace Go.Pl
open Go Go.Ab Go.Wk Go.Pc
end Go.Pl

namespace Go.Pl
open Go Go.Ab Go.Wk Go.Pc
end Go.Pl

namespace Go.Pl
open Go Go.Ab Go.Wk Go.Pc
end Go.Pl

namespace Go.Pl
open Go Go.Ab Go.Wk Go.Pc
end Go.Pl

namespace Go.Pl
open Go Go.Ab Go.Wk Go.Pc
end Go.Pl

namespace Go.Pl
open Go Go.Ab Go.Wk Go.Pc
end Go.Pl

namespace Go.Pl
open Go Go.Ab Go.Wk Go.Pc
end Go.Pl

namespace Go.Pl
open Go Go.Ab Go.Wk Go.Pc
end Go.Pl

namespace Go.Pl
open Go Go.Ab Go.Wk Go.Pc
end Go.Pl

namespace Go.Pl
open Go Go.Ab Go.Wk Go.Pc
end Go.Pl

namespace Go.Pl
open Go Go.Ab Go.Wk Go.Pc
end Go.Pl

namespace Go.Pl
open Go Go.Ab Go.Wk Go.Pc
end Go.Pl

namespace Go.Pl
open Go Go.Ab Go.Wk Go.Pc
variable {x:SPr}{w:Pres x∧qE (suf x 0)}
end Go.Pl

namespace Go.Pl
open Go Go.Ab Go.Wk Go.Pc
variable {x:SPr}{w:Pres x∧qE (suf x 0)}
end Go.Pl

namespace Go.Pl
open Go Go.Ab Go.Wk Go.Pc
end Go.Pl

namespace Go.Pl
open Go Go.Ab Go.Wk Go.Pc
end Go.Pl

namespace Go.Pl
open Go Go.Ab Go.Wk Go.Pc
end Go.Pl

namespace Go.Pl
open Go Go.Ab Go.Wk Go.Pc
end Go.Pl

namespace Go.Pl
open Go Go.Ab Go.Wk Go.Pc
end Go.Pl

namespace Go.Pl
open Go Go.Ab Go.Wk Go.Pc
end Go.Pl

namespace Go.Pl
open Go Go.Ab Go.Wk Go.Pc
end Go.Pl

namespace Go.Pl
open Go Go.Ab Go.Wk Go.Pc
end Go.Pl

namespace Go.Pl
open Go Go.Ab
end Go.Pl

namespace Go.Wk
open Go Go.Ab Go.Pl
noncomputable def jV (x0:List Int) (x1:List Int):Option Bool:=
 cond ((x0.length:Int) != (x1.length:Int)) (
  VU VX) (
  (yZ (zRY x0 x1) 400 0).bind fun r4=>
  match r4 with
  |(.inl _)=>
   VU VW
  |(.inr r4)=>
   VU r4)
end Go.Wk
namespace Go.Pl
open Go Go.Ab Go.Wk
end Go.Pl

namespace Go.Pl
open Go Go.Ab Go.Wk Go.Pc
end Go.Pl

namespace Go.Pl
open Go Go.Ab Go.Wk Go.Pc
end Go.Pl

namespace Go.Pl
open Go Go.Ab Go.Wk Go.Pc
end Go.Pl

namespace Go.Pl
open Go Go.Ab Go.Wk Go.Pc
end Go.Pl

namespace Go.Pl
open Go Go.Ab Go.Wk Go.Pc
end Go.Pl

namespace Go.Pl
open Go Go.Ab Go.Wk
set_option maxHeartbeats 4000000
noncomputable def jV (x0:List Int) (x1:List Int):Option Bool:=
 cond ((x0.length:Int) != (x1.length:Int)) (
  VU VX) (
  (yZ (zRY x0 x1) 120 0).bind fun r4=>
  match r4 with
  |(.inl _)=>
   VU VW
  |(.inr r4)=>
   VU r4)
noncomputable def kT (x0:Int) (x1:Int) (x2:List Int):Option Bool:=
 cond ((x2.length:Int) != x1) (
  VU VX) (
  (yZ (zQi x0 x2) 120 0).bind fun r5=>
  match r5 with
  |(.inl _)=>
   VU VW
  |(.inr r5)=>
   VU r5)
noncomputable def kU (x0:List (List Int)) (x1:List (List Int)) (s1:Int):Option (Int⊕(Unit⊕Bool)):=
 cond (decide (s1<(x0.length:Int))) (
  (ixO x0 s1).bind fun v1=>
  (ixO x1 s1).bind fun v2=>
  (jV v1 v2).bind fun r3=>
  cond (!r3) (
   VU (.inr (.inr VX))) (
   (rng (s1+1)).bind fun v4=>
   VU (.inl v4))) (
  VU (.inr (.inl ())))
noncomputable def zAq (x0:List (List Int)) (x1:List (List Int)):Option Bool:=
 cond ((x0.length:Int) != (x1.length:Int)) (
  VU VX) (
  (yZ (kU x0 x1) 120 0).bind fun r5=>
  match r5 with
  |(.inl _)=>
   VU VW
  |(.inr r5)=>
   VU r5)
noncomputable def vQ (x0:List (List Int)):Option (List Int):=
 (yZ (zUV x0) 120 (0,0)).bind fun r4=>
 (zSl r4).bind fun r5=>
 (yZ (zUW x0) 120 (r5,0)).bind fun r9=>
 VU r9
noncomputable def sO (x0:List Int):Option Int:=
 (yZ (zHr x0) 120 0).bind fun r3=>
 match r3 with
 |(.inl _)=>
  VU (x0.length:Int)
 |(.inr r3)=>
  VU r3
noncomputable def tB (x0:Int) (x1:List Int) (x2:Int) (x3:List Int):Option (List Int):=
 (f_S x1).bind fun r1=>
 (yZ (zOc x0 x2 x3) 120 (r1,0)).bind fun r9=>
 VU r9
noncomputable def kV (x0:Int) (x1:List (List Int)) (s1:(List Int)×Int):Option (((List Int)×Int)⊕(List Int)):=
 cond (decide (s1.2<(x1.length:Int))) (
  (ixO x1 s1.2).bind fun v2=>
  (sO v2).bind fun r3=>
  cond (decide (r3<(s1.1.length:Int))) (
   (ixO s1.1 r3).bind fun v4=>
   cond (v4 != 0) (
    (ixO s1.1 r3).bind fun v5=>
    (rng (x0-v5)).bind fun v6=>
    (ixO x1 s1.2).bind fun v7=>
    (tB x0 s1.1 v6 v7).bind fun r8=>
    (rng (s1.2+1)).bind fun v9=>
    VU (.inl (r8,v9))) (
    (rng (s1.2+1)).bind fun v10=>
    VU (.inl (s1.1,v10)))) (
   (rng (s1.2+1)).bind fun v11=>
   VU (.inl (s1.1,v11)))) (
  VU (.inr s1.1))
noncomputable def zAr (x0:Int) (x1:List (List Int)) (x2:List Int):Option (List Int):=
 (f_S x2).bind fun r1=>
 (yZ (kV x0 x1) 120 (r1,0)).bind fun r12=>
 VU r12
noncomputable def zBm (x0:Int) (x1:Int):Option Int:=
 (yZ (zOd x0 x1) 120 1).bind fun r5=>
 match r5 with
 |(.inl _)=>
  VU 0
 |(.inr r5)=>
  VU r5
noncomputable def zAs (x0:Int) (x1:Int) (x2:List Int):Option (List Int):=
 (yW (x2.length:Int)).bind fun m1=>
 (tB x0 (J2 m1 (0:Int)) x1 x2).bind fun r2=>
 VU r2
noncomputable def kE (x0:Int) (s5:(List (List Int))×Int) (r3:Int) (r7:(List Int)) (s6:(List (List Int))×Bool×Int):Option (((List (List Int))×Bool×Int)⊕((List (List Int))×Bool)):=
 cond (decide (s6.2.2<(s5.1.length:Int))) (
  cond (!s6.2.1) (
   (ixO s5.1 s6.2.2).bind fun v8=>
   (sO v8).bind fun r9=>
   cond (decide (r9> r3)) (
    (xC s6.1 [r7]).bind fun v10=>
    (ixO s5.1 s6.2.2).bind fun v11=>
    (ixO s5.1 s6.2.2).bind fun v12=>
    (ixO v12 r3).bind fun v13=>
    (rng (x0-v13)).bind fun v14=>
    (tB x0 v11 v14 r7).bind fun r15=>
    (xC v10 [r15]).bind fun v16=>
    (rng (s6.2.2+1)).bind fun v17=>
    VU (.inl (v16,VW,v17))) (
    (ixO s5.1 s6.2.2).bind fun v18=>
    (ixO s5.1 s6.2.2).bind fun v19=>
    (ixO v19 r3).bind fun v20=>
    (rng (x0-v20)).bind fun v21=>
    (tB x0 v18 v21 r7).bind fun r22=>
    (xC s6.1 [r22]).bind fun v23=>
    (rng (s6.2.2+1)).bind fun v24=>
    VU (.inl (v23,s6.2.1,v24)))) (
   (ixO s5.1 s6.2.2).bind fun v25=>
   (ixO s5.1 s6.2.2).bind fun v26=>
   (ixO v26 r3).bind fun v27=>
   (rng (x0-v27)).bind fun v28=>
   (tB x0 v25 v28 r7).bind fun r29=>
   (xC s6.1 [r29]).bind fun v30=>
   (rng (s6.2.2+1)).bind fun v31=>
   VU (.inl (v30,s6.2.1,v31)))) (
  VU (.inr (s6.1,s6.2.1)))
noncomputable def kF (x0:Int) (x1:List (List Int)) (s5:(List (List Int))×Int):Option (((List (List Int))×Int)⊕(List (List Int))):=
 cond (decide (s5.2<(x1.length:Int))) (
  (ixO x1 s5.2).bind fun v1=>
  (zAr x0 s5.1 v1).bind fun r2=>
  (sO r2).bind fun r3=>
  cond (r3==(r2.length:Int)) (
   (rng (s5.2+1)).bind fun v4=>
   VU (.inl (s5.1,v4))) (
   (ixO r2 r3).bind fun v5=>
   (zBm v5 x0).bind fun r6=>
   (zAs x0 r6 r2).bind fun r7=>
   (yZ (kE x0 s5 r3 r7) 120 ([],VX,0)).bind fun r32=>
   cond (!r32.2) (
    (xC r32.1 [r7]).bind fun v33=>
    (rng (s5.2+1)).bind fun v34=>
    VU (.inl (v33,v34))) (
    (rng (s5.2+1)).bind fun v35=>
    VU (.inl (r32.1,v35))))) (
  VU (.inr s5.1))
noncomputable def kW (x0:Int) (x1:List (List Int)):Option (List (List Int)):=
 (yZ (kF x0 x1) 120 ([],0)).bind fun r36=>
 VU r36
noncomputable def kX (x0:zD) (s1:Int):Option (Int⊕(Unit⊕Bool)):=
 cond (decide (s1<(x0.Rows.length:Int))) (
  (ixO x0.Rows s1).bind fun v3=>
  (kT x0.Prime x0.yC v3).bind fun r4=>
  cond (!r4) (
   VU (.inr (.inr VX))) (
   (rng (s1+1)).bind fun v5=>
   VU (.inl v5))) (
  VU (.inr (.inl ())))
noncomputable def zAt (x0:zD):Option Bool:=
 (zKD x0.Prime).bind fun r1=>
 cond (!r1) (
  VU VX) (
  (zHq x0.yC 0 8).bind fun r2=>
  cond (!r2) (
   VU VX) (
   cond (decide ((x0.Rows.length:Int)> 8)) (
    VU VX) (
    (yZ (kX x0) 120 0).bind fun r6=>
    match r6 with
    |(.inl _)=>
     VU VW
    |(.inr r6)=>
     VU r6)))
noncomputable def kG (x0:zD):Option Bool:=
 (zAt x0).bind fun r1=>
 cond r1 (
  (kW x0.Prime x0.Rows).bind fun r2=>
  (zAq r2 x0.Rows).bind fun r3=>
  VU r3) (
  VU VX)
noncomputable def tY (x0:List Int) (x1:Int):Option Int:=
 (yZ (zQX x0 x1) 120 0).bind fun r3=>
 match r3 with
 |(.inl _)=>
  VU (-1)
 |(.inr r3)=>
  VU r3
noncomputable def tC (x0:List Int) (x1:Int):Option Bool:=
 (tY x0 x1).bind fun r1=>
 VU (decide (r1≥0))
noncomputable def qN (x0:Int) (x1:Int):Option Int:=
 (yZ (zQY x0 x1) 120 (1,0)).bind fun r3=>
 VU r3
noncomputable def zAK (x0:List Int) (x1:List Int):Option Bool:=
 (yZ (zQZ x0 x1) 120 0).bind fun r6=>
 match r6 with
 |(.inl _)=>
  VU (decide ((x0.length:Int)<(x1.length:Int)))
 |(.inr r6)=>
  VU r6
noncomputable def kY (x0:Int) (x1:Int) (s5:(List Int)×Int):Option (((List Int)×Int)⊕(List Int)):=
 cond (decide (s5.2≤x1)) (
  (yZ (zUZ x0 s5) 120 ([1],1,1)).bind fun r9=>
  (xC r9 [1]).bind fun v10=>
  (rng (s5.2+1)).bind fun v11=>
  VU (.inl (v10,v11))) (
  VU (.inr s5.1))
noncomputable def zAu (x0:Int) (x1:Int) (x2:Int):Option Int:=
 (yZ (kY x0 x1) 120 ([1],1)).bind fun r12=>
 (ixO r12 x2).bind fun v13=>
 VU v13
noncomputable def sL (x0:Int) (x1:Int) (x2:Int):Option (Int×Int):=
 (zKD x0).bind fun r1=>
 cond (!r1) (
  VU (0,2)) (
  (zHq x1 0 8).bind fun r2=>
  cond (!r2) (
   VU (0,2)) (
   (zHq x2 0 x1).bind fun r3=>
   cond (!r3) (
    VU (0,2)) (
    (zAu x0 x1 x2).bind fun r4=>
    VU (r4,0))))
noncomputable def zAv (x0:List Int) (x2:Int) (s5:(List Int)×Int):Option (((List Int)×Int)⊕(List Int)):=
 cond (decide (s5.2<x2)) (
  (yZ (zVa x0 s5) 120 (VX,0)).bind fun r6=>
  cond (!r6) (
   (xC s5.1 [s5.2]).bind fun v7=>
   (rng (s5.2+1)).bind fun v8=>
   VU (.inl (v7,v8))) (
   (rng (s5.2+1)).bind fun v9=>
   VU (.inl (s5.1,v9)))) (
  VU (.inr s5.1))
noncomputable def jW (x0:List Int) (x1:Int) (x2:Int):Option (List Int):=
 (ixO x0 x1).bind fun v1=>
 (rng (v1+1)).bind fun v2=>
 (yZ (zAv x0 x2) 120 ([],v2)).bind fun r10=>
 VU r10
noncomputable def jY (x0:List (List Int)):Option (List Int):=
 (yZ (zRa x0) 120 ([],0)).bind fun r4=>
 VU r4
noncomputable def kH (x0:List zD) (x1:zD) (s1:(List zD)×Bool×Int):Option (((List zD)×Bool×Int)⊕((List zD)×Bool)):=
 cond (decide (s1.2.2<(x0.length:Int))) (
  cond (!s1.2.1) (
   (jY x1.Rows).bind fun r1=>
   (ixO x0 s1.2.2).bind fun v2=>
   (jY v2.Rows).bind fun r3=>
   (zAK r1 r3).bind fun r4=>
   cond r4 (
    (xC s1.1 [x1]).bind fun v5=>
    (ixO x0 s1.2.2).bind fun v6=>
    (xC v5 [v6]).bind fun v7=>
    (rng (s1.2.2+1)).bind fun v8=>
    VU (.inl (v7,VW,v8))) (
    (ixO x0 s1.2.2).bind fun v9=>
    (xC s1.1 [v9]).bind fun v10=>
    (rng (s1.2.2+1)).bind fun v11=>
    VU (.inl (v10,s1.2.1,v11)))) (
   (ixO x0 s1.2.2).bind fun v1=>
   (xC s1.1 [v1]).bind fun v2=>
   (rng (s1.2.2+1)).bind fun v3=>
   VU (.inl (v2,s1.2.1,v3)))) (
  VU (.inr (s1.1,s1.2.1)))
noncomputable def kZ (x0:List zD) (x1:zD):Option (List zD):=
 (yZ (kH x0 x1) 120 ([],VX,0)).bind fun r4=>
 cond (!r4.2) (
  (xC r4.1 [x1]).bind fun v5=>
  VU v5) (
  VU r4.1)
noncomputable def zAw (x1:Int) (x2:Int) (x3:List Int) (s5:Int×Int):Option ((Int×Int)⊕Int):=
 cond (decide (s5.2<(x3.length:Int))) (
  (jW x3 s5.2 x2).bind fun r1=>
  (yZ (zVb x1 r1) 120 (s5.1,0)).bind fun r4=>
  (rng (s5.2+1)).bind fun v5=>
  VU (.inl (r4,v5))) (
  VU (.inr s5.1))
noncomputable def zAx (x1:Int) (x2:Int) (x3:List Int) (s30:(List (List Int))×Int×Int):Option (((List (List Int))×Int×Int)⊕(List (List Int))):=
 cond (decide (s30.2.2<(x3.length:Int))) (
  (yW x2).bind fun m7=>
  (ixO x3 s30.2.2).bind fun v8=>
  (ixO (J2 m7 (0:Int)) v8).bind fun _=>
  (jW x3 s30.2.2 x2).bind fun r10=>
  (yZ (zVc x1 r10) 120 (s30.2.1,(J2 m7 (0:Int)).set v8.toNat 1,0)).bind fun r16=>
  (xC s30.1 [r16.2]).bind fun v17=>
  (rng (s30.2.2+1)).bind fun v18=>
  VU (.inl (v17,r16.1,v18))) (
  VU (.inr s30.1))
noncomputable def zAy (x1:Int) (x2:Int) (x3:List Int) (r6:Int) (s25:(List zD)×Int):Option (((List zD)×Int)⊕(List zD)):=
 cond (decide (s25.2<r6)) (
  (yZ (zAx x1 x2 x3) 120 ([],s25.2,0)).bind fun r19=>
  (kZ s25.1 (zD.mk x1 x2 r19)).bind fun r20=>
  (rng (s25.2+1)).bind fun v21=>
  VU (.inl (r20,v21))) (
  VU (.inr s25.1))
noncomputable def zAL (x0:List zD) (x1:Int) (x2:Int) (x3:List Int):Option (List zD):=
 (yZ (zAw x1 x2 x3) 120 (1,0)).bind fun r6=>
 (yZ (zAy x1 x2 x3 r6) 120 (x0,0)).bind fun r22=>
 VU r22
noncomputable def sS (x0:Int) (x1:Int) (x2:Int) (s5:(List zD)×Int):Option (((List zD)×Int)⊕(List zD)):=
 (shO (IntKind.wrap .u64 x1)).bind fun n2=>
 cond (decide (s5.2<(IntKind.wrap .i64 (1*2 ^ (min n2 (IntKind.bits .i64)))))) (
  (yZ (zVd x1 s5) 120 ([],0)).bind fun r8=>
  cond ((r8.length:Int)==x2) (
   (zAL s5.1 x0 x1 r8).bind fun r9=>
   (rng (s5.2+1)).bind fun v10=>
   VU (.inl (r9,v10))) (
   (rng (s5.2+1)).bind fun v11=>
   VU (.inl (s5.1,v11)))) (
  VU (.inr s5.1))
noncomputable def qO (x0:Int) (x1:Int) (x2:Int):Option ((List zD)×Int):=
 (sL x0 x1 x2).bind fun r1=>
 cond (r1.2 != 0) (
  VU ([],r1.2)) (
  cond (decide (r1.1> 200)) (
   VU ([],3)) (
   (yZ (sS x0 x1 x2) 120 ([],0)).bind fun r12=>
   VU (r12,0)))
noncomputable def zAz (g_f:Int→Int→Option (List (List Int))) (x0:Int) (x1:Int) (s5:(List (List Int))×Int):Option (((List (List Int))×Int)⊕(List (List Int))):=
 cond (decide (s5.2<x0)) (
  (rng (x1-1)).bind fun v2=>
  (g_f s5.2 v2).bind fun r3=>
  (yZ (zVe s5 r3) 120 (s5.1,0)).bind fun r8=>
  (rng (s5.2+1)).bind fun v9=>
  VU (.inl (r8,v9))) (
  VU (.inr s5.1))
noncomputable def zAM (g_f:Int→Int→Option (List (List Int))) (x0:Int) (x1:Int):Option (List (List Int)):=
 cond (x1==0) (
  VU [[]]) (
  (rng (x1-1)).bind fun v1=>
  (yZ (zAz g_f x0 x1) 120 ([],v1)).bind fun r10=>
  VU r10)
noncomputable def tZ:Nat→Int→Int→Option (List (List Int))
 |0=>fun _ _=>VV
 |n+1=>zAM (tZ n)
noncomputable def zCy (x0:Int) (x1:Int):Option (List (List Int)):=tZ 14 x0 x1
noncomputable def uJ (x0:List Int) (x1:List Int):Option Int:=
 (yZ (zRe x0 x1) 120 0).bind fun r5=>
 match r5 with
 |(.inl _)=>
  cond (decide ((x0.length:Int)<(x1.length:Int))) (
   VU (-1)) (
   VU 0)
 |(.inr r5)=>
  VU r5
noncomputable def zO (x0:zD) (x1:zD):Option Int:=
 (vQ x0.Rows).bind fun r1=>
 (vQ x1.Rows).bind fun r2=>
 (uJ r1 r2).bind fun r3=>
 VU r3
noncomputable def wG (x1:Int) (s6:(List zD)×Int):Option (((List zD)×Int)⊕(List zD)):=
 cond (decide (s6.2> x1)) (
  (ixO s6.1 s6.2).bind fun v2=>
  (rng (s6.2-1)).bind fun v3=>
  (ixO s6.1 v3).bind fun v4=>
  (zO v2 v4).bind fun r5=>
  cond (decide (r5<0)) (
   (neI v3 s6.2).bind fun _=>
   VU (.inl (xK s6.1 s6.2 v3 v4 v2,v3))) (
   VU (.inr s6.1))) (
  VU (.inr s6.1))
noncomputable def wH (x1:Int) (x2:Int) (s5:(List zD)×Int):Option (((List zD)×Int)⊕(List zD)):=
 cond (decide (s5.2<x2)) (
  (yZ (wG x1) 120 (s5.1,s5.2)).bind fun r2=>
  (rng (s5.2+1)).bind fun v3=>
  VU (.inl (r2,v3))) (
  VU (.inr s5.1))
noncomputable def wJ (x0:List zD) (x1:Int) (x2:Int):Option (List zD):=
 (rng (x1+1)).bind fun v1=>
 (yZ (wH x1 x2) 120 (x0,v1)).bind fun r4=>
 VU r4
noncomputable def xL (x0:List zD) (x1:Int) (x2:Int) (x3:Int):Option (Int×Int×Int):=
 (ixO x0 x2).bind fun v1=>
 (ixO x0 x1).bind fun v2=>
 (zO v1 v2).bind fun r3=>
 cond (decide (r3<0)) (
  (rng (x3+1)).bind fun v4=>
  VU (x2,x1,v4)) (
  VU (x1,x2,x3))
noncomputable def xM (x0:List zD) (x1:Int) (x2:Int) (x3:Int) (x4:Int):Option (Int×Int):=
 (xL x0 x1 x2 x4).bind fun r1=>
 (xL x0 r1.2.1 x3 r1.2.2).bind fun r2=>
 (xL x0 r1.1 r2.1 r2.2.2).bind fun r3=>
 VU (r3.2.1,r3.2.2)
noncomputable def yS (x0:List zD) (x1:Int) (x2:Int):Option (Int×Int):=
 (rng (x1-1)).bind fun v1=>
 (rng (x1+1)).bind fun v2=>
 (xM x0 v1 x1 v2 x2).bind fun r3=>
 VU (r3.1,r3.2)
noncomputable def xT (x0:List zD) (x1:Int) (x2:Int):Option (Int×Int):=
 (rng (x2-x1)).bind fun v1=>
 (yQ v1 4).bind fun v2=>
 (rng (v2*1)).bind fun v3=>
 (rng (x1+v3)).bind fun v4=>
 (yQ v1 4).bind fun v5=>
 (rng (v5*2)).bind fun v6=>
 (rng (x1+v6)).bind fun v7=>
 (yQ v1 4).bind fun v8=>
 (rng (v8*3)).bind fun v9=>
 (rng (x1+v9)).bind fun v10=>
 cond (decide (v1≥8)) (
  cond (decide (v1≥50)) (
   (yS x0 v4 0).bind fun r11=>
   (yS x0 v7 r11.2).bind fun r12=>
   (yS x0 v10 r12.2).bind fun r13=>
   (xM x0 r11.1 r12.1 r13.1 r13.2).bind fun r14=>
   cond (r14.2==0) (
    VU (r14.1,1)) (
    cond (r14.2==12) (
     VU (r14.1,2)) (
     VU (r14.1,0)))) (
   (xM x0 v4 v7 v10 0).bind fun r15=>
   cond (r15.2==0) (
    VU (r15.1,1)) (
    cond (r15.2==12) (
     VU (r15.1,2)) (
     VU (r15.1,0))))) (
  cond (0==0) (
   VU (v7,1)) (
   cond (0==12) (
    VU (v7,2)) (
    VU (v7,0))))
noncomputable def xN (x2:Int) (s17:(List zD)×Int×Int) (s18:Int):Option (Int⊕Int):=
 cond (decide (s18<x2)) (
  (ixO s17.1 s18).bind fun v2=>
  (rng (s18-1)).bind fun v3=>
  (ixO s17.1 v3).bind fun v4=>
  (zO v2 v4).bind fun r5=>
  cond (!decide (r5<0)) (
   (rng (s18+1)).bind fun v6=>
   VU (.inl v6)) (
   VU (.inr s18))) (
  VU (.inr s18))
noncomputable def xP (s20:(List zD)×Int):Option (((List zD)×Int)⊕(List zD)):=
 cond (decide (s20.2≥1)) (
  (ixO s20.1 s20.2).bind fun v9=>
  (rng (s20.2-1)).bind fun v10=>
  (ixO s20.1 v10).bind fun v11=>
  (zO v9 v11).bind fun r12=>
  cond (!decide (r12<0)) (
   VU (.inr s20.1)) (
   (neI v10 s20.2).bind fun _=>
   VU (.inl (xK s20.1 s20.2 v10 v11 v9,v10)))) (
  VU (.inr s20.1))
noncomputable def xQ (x2:Int) (s22:(List zD)×Int):Option (((List zD)×Int)⊕(List zD)):=
 cond (decide (s22.2<x2)) (
  (ixO s22.1 s22.2).bind fun v17=>
  (rng (s22.2-1)).bind fun v18=>
  (ixO s22.1 v18).bind fun v19=>
  (zO v17 v19).bind fun r20=>
  cond (!decide (r20<0)) (
   VU (.inr s22.1)) (
   (neI v18 s22.2).bind fun _=>
   (rng (s22.2+1)).bind fun v22=>
   VU (.inl (xK s22.1 s22.2 v18 v19 v17,v22)))) (
  VU (.inr s22.1))
noncomputable def xR (x2:Int) (s24:(List zD)×Int):Option (((List zD)×Int)⊕(List zD)):=
 cond (decide (s24.2<x2)) (
  (ixO s24.1 s24.2).bind fun v28=>
  (rng (s24.2-1)).bind fun v29=>
  (ixO s24.1 v29).bind fun v30=>
  (zO v28 v30).bind fun r31=>
  cond (!decide (r31<0)) (
   VU (.inr s24.1)) (
   (neI v29 s24.2).bind fun _=>
   (rng (s24.2+1)).bind fun v33=>
   VU (.inl (xK s24.1 s24.2 v29 v30 v28,v33)))) (
  VU (.inr s24.1))
noncomputable def xS (x1:Int) (x2:Int) (s17:(List zD)×Int×Int):Option (((List zD)×Int×Int)⊕((List zD)⊕(Bool×(List zD)))):=
 cond (decide (s17.2.2<5)) (
  (yZ (xN x2 s17) 120 s17.2.1).bind fun r2=>
  cond (r2==x2) (
   VU (.inr (.inr (VW,s17.1)))) (
   (rng (x2-x1)).bind fun v3=>
   cond (decide (v3<50)) (
    VU (.inr (.inr (VX,s17.1)))) (
    (rng (r2-1)).bind fun v4=>
    (ixO s17.1 v4).bind fun v5=>
    (ixO s17.1 r2).bind fun v6=>
    (neI v4 r2).bind fun _=>
    (rng (r2-x1)).bind fun v8=>
    cond (decide (v8≥2)) (
     (yZ xP 120 (xK s17.1 r2 v4 v5 v6,v4)).bind fun r14=>
     (rng (x2-r2)).bind fun v15=>
     cond (decide (v15≥2)) (
      (rng (r2+1)).bind fun v16=>
      (yZ (xQ x2) 120 (r14,v16)).bind fun r23=>
      (rng (s17.2.2+1)).bind fun v24=>
      VU (.inl (r23,r2,v24))) (
      (rng (s17.2.2+1)).bind fun v25=>
      VU (.inl (r14,r2,v25)))) (
     (rng (x2-r2)).bind fun v26=>
     cond (decide (v26≥2)) (
      (rng (r2+1)).bind fun v27=>
      (yZ (xR x2) 120 (xK s17.1 r2 v4 v5 v6,v27)).bind fun r34=>
      (rng (s17.2.2+1)).bind fun v35=>
      VU (.inl (r34,r2,v35))) (
      (rng (s17.2.2+1)).bind fun v36=>
      VU (.inl (xK s17.1 r2 v4 v5 v6,r2,v36))))))) (
  VU (.inr (.inl s17.1)))
noncomputable def yE (x0:List zD) (x1:Int) (x2:Int):Option (Bool×(List zD)):=
 (rng (x1+1)).bind fun v1=>
 (yZ (xS x1 x2) 120 (x0,v1,0)).bind fun r37=>
 match r37 with
 |(.inl r37)=>
  VU (VX,r37)
 |(.inr r37)=>
  VU r37
noncomputable def wQ (x0:List zD) (x1:Int) (x3:Int) (v1:zD) (v2:zD) (v5:Int) (s1:Int):Option (Int⊕Int):=
 cond (decide (s1≤v5)) (
  (ixO (xK x0 x1 x3 v1 v2) s1).bind fun v6=>
  (ixO (xK x0 x1 x3 v1 v2) x1).bind fun v7=>
  (zO v6 v7).bind fun r8=>
  cond (decide (r8<0)) (
   (rng (s1+1)).bind fun v9=>
   VU (.inl v9)) (
   VU (.inr s1))) (
  VU (.inr s1))
noncomputable def wR (x0:List zD) (x1:Int) (x3:Int) (v1:zD) (v2:zD) (r6:Int) (s3:Int):Option (Int⊕Int):=
 cond (decide (r6≤s3)) (
  (ixO (xK x0 x1 x3 v1 v2) s3).bind fun v7=>
  (ixO (xK x0 x1 x3 v1 v2) x1).bind fun v8=>
  (zO v7 v8).bind fun r9=>
  cond (!decide (r9<0)) (
   (rng (s3-1)).bind fun v10=>
   VU (.inl v10)) (
   VU (.inr s3))) (
  VU (.inr s3))
noncomputable def wS (x1:Int) (s13:(List zD)×Int×Int) (s14:Int):Option (Int⊕Int):=
 cond (decide (s14≤s13.2.2)) (
  (ixO s13.1 s14).bind fun v16=>
  (ixO s13.1 x1).bind fun v17=>
  (zO v16 v17).bind fun r18=>
  cond (decide (r18<0)) (
   (rng (s14+1)).bind fun v19=>
   VU (.inl v19)) (
   VU (.inr s14))) (
  VU (.inr s14))
noncomputable def wT (x1:Int) (s13:(List zD)×Int×Int) (r16:Int) (s16:Int):Option (Int⊕Int):=
 cond (decide (r16≤s16)) (
  (ixO s13.1 s16).bind fun v17=>
  (ixO s13.1 x1).bind fun v18=>
  (zO v17 v18).bind fun r19=>
  cond (!decide (r19<0)) (
   (rng (s16-1)).bind fun v20=>
   VU (.inl v20)) (
   VU (.inr s16))) (
  VU (.inr s16))
noncomputable def wU (x1:Int) (s13:(List zD)×Int×Int):Option (((List zD)×Int×Int)⊕((List zD)×Int)):=
 (yZ (wS x1 s13) 120 s13.2.1).bind fun r16=>
 (yZ (wT x1 s13 r16) 120 s13.2.2).bind fun r17=>
 cond (decide (r16> r17)) (
  VU (.inr (s13.1,r17))) (
  (ixO s13.1 r17).bind fun v18=>
  (ixO s13.1 r16).bind fun v19=>
  (neI r17 r16).bind fun _=>
  (rng (r16+1)).bind fun v21=>
  (rng (r17-1)).bind fun v22=>
  VU (.inl (xK s13.1 r16 r17 v18 v19,v21,v22)))
noncomputable def zG (x0:List zD) (x1:Int) (x2:Int) (x3:Int):Option (Int×Bool×(List zD)):=
 (ixO x0 x3).bind fun v1=>
 (ixO x0 x1).bind fun v2=>
 (neI x3 x1).bind fun _=>
 (rng (x1+1)).bind fun v4=>
 (rng (x2-1)).bind fun v5=>
 (yZ (wQ x0 x1 x3 v1 v2 v5) 120 v4).bind fun r6=>
 (yZ (wR x0 x1 x3 v1 v2 r6) 120 v5).bind fun r7=>
 cond (decide (r6> r7)) (
  (ixO (xK x0 x1 x3 v1 v2) x1).bind fun v8=>
  (ixO (xK x0 x1 x3 v1 v2) r7).bind fun v9=>
  (neI x1 r7).bind fun _=>
  VU (r7,VW,xK (xK x0 x1 x3 v1 v2) r7 x1 v8 v9)) (
  (ixO (xK x0 x1 x3 v1 v2) r7).bind fun v11=>
  (ixO (xK x0 x1 x3 v1 v2) r6).bind fun v12=>
  (neI r7 r6).bind fun _=>
  (rng (r6+1)).bind fun v14=>
  (rng (r7-1)).bind fun v15=>
  (yZ (wU x1) 120 (xK (xK x0 x1 x3 v1 v2) r6 r7 v11 v12,v14,v15)).bind fun r23=>
  (ixO r23.1 x1).bind fun v24=>
  (ixO r23.1 r23.2).bind fun v25=>
  (neI x1 r23.2).bind fun _=>
  VU (r23.2,VX,xK r23.1 r23.2 x1 v24 v25))
noncomputable def vB (g_a:(List zD)→Int→Int→Int→Option (List zD)) (s1:(List zD)×Int×Int×Int×Bool×Bool):Option (((List zD)×Int×Int×Int×Bool×Bool)⊕(List zD)):=
 (rng (s1.2.2.1-s1.2.1)).bind fun v1=>
 cond (decide (v1≤12)) (
  (wJ s1.1 s1.2.1 s1.2.2.1).bind fun r2=>
  VU (.inr r2)) (
  cond (s1.2.2.2.1==0) (
   (zVi s1.1 s1.2.1 s1.2.2.1).bind fun r3=>
   VU (.inr r3)) (
   cond (!s1.2.2.2.2.1) (
    (zSE s1.1 s1.2.1 s1.2.2.1).bind fun r4=>
    (rng (s1.2.2.2.1-1)).bind fun v5=>
    (xT r4 s1.2.1 s1.2.2.1).bind fun r6=>
    cond (r6.2==2) (
     (zOl r4 s1.2.1 s1.2.2.1).bind fun r7=>
     (rng (s1.2.2.1-1)).bind fun v8=>
     (rng (r6.1-s1.2.1)).bind fun v9=>
     (rng (v8-v9)).bind fun v10=>
     cond s1.2.2.2.2.1 (
      cond s1.2.2.2.2.2 (
       cond (1==1) (
        (yE r7 s1.2.1 s1.2.2.1).bind fun r11=>
        cond r11.1 (
         VU (.inr r11.2)) (
         cond (decide (s1.2.1> 0)) (
          (rng (s1.2.1-1)).bind fun v12=>
          (ixO r11.2 v12).bind fun v13=>
          (ixO r11.2 v10).bind fun v14=>
          (zO v13 v14).bind fun r15=>
          cond (!decide (r15<0)) (
           (f_i r11.2 s1.2.1 s1.2.2.1 v10).bind fun r16=>
           VU (.inl (r16.2,r16.1,s1.2.2.1,v5,s1.2.2.2.2.1,s1.2.2.2.2.2))) (
           (zG r11.2 s1.2.1 s1.2.2.1 v10).bind fun r17=>
           (rng (r17.1-s1.2.1)).bind fun v18=>
           (rng (s1.2.2.1-r17.1)).bind fun v19=>
           (yQ v1 8).bind fun v20=>
           cond (decide (v18<v19)) (
            (g_a r17.2.2 s1.2.1 r17.1 v5).bind fun r21=>
            (rng (r17.1+1)).bind fun v22=>
            VU (.inl (r21,v22,s1.2.2.1,v5,decide (v18≥v20),r17.2.1))) (
            (rng (r17.1+1)).bind fun v23=>
            (g_a r17.2.2 v23 s1.2.2.1 v5).bind fun r24=>
            VU (.inl (r24,s1.2.1,r17.1,v5,decide (v19≥v20),r17.2.1))))) (
          (zG r11.2 s1.2.1 s1.2.2.1 v10).bind fun r12=>
          (rng (r12.1-s1.2.1)).bind fun v13=>
          (rng (s1.2.2.1-r12.1)).bind fun v14=>
          (yQ v1 8).bind fun v15=>
          cond (decide (v13<v14)) (
           (g_a r12.2.2 s1.2.1 r12.1 v5).bind fun r16=>
           (rng (r12.1+1)).bind fun v17=>
           VU (.inl (r16,v17,s1.2.2.1,v5,decide (v13≥v15),r12.2.1))) (
           (rng (r12.1+1)).bind fun v18=>
           (g_a r12.2.2 v18 s1.2.2.1 v5).bind fun r19=>
           VU (.inl (r19,s1.2.1,r12.1,v5,decide (v14≥v15),r12.2.1)))))) (
        cond (decide (s1.2.1> 0)) (
         (rng (s1.2.1-1)).bind fun v20=>
         (ixO r7 v20).bind fun v21=>
         (ixO r7 v10).bind fun v22=>
         (zO v21 v22).bind fun r23=>
         cond (!decide (r23<0)) (
          (f_i r7 s1.2.1 s1.2.2.1 v10).bind fun r24=>
          VU (.inl (r24.2,r24.1,s1.2.2.1,v5,s1.2.2.2.2.1,s1.2.2.2.2.2))) (
          (zG r7 s1.2.1 s1.2.2.1 v10).bind fun r25=>
          (rng (r25.1-s1.2.1)).bind fun v26=>
          (rng (s1.2.2.1-r25.1)).bind fun v27=>
          (yQ v1 8).bind fun v28=>
          cond (decide (v26<v27)) (
           (g_a r25.2.2 s1.2.1 r25.1 v5).bind fun r29=>
           (rng (r25.1+1)).bind fun v30=>
           VU (.inl (r29,v30,s1.2.2.1,v5,decide (v26≥v28),r25.2.1))) (
           (rng (r25.1+1)).bind fun v31=>
           (g_a r25.2.2 v31 s1.2.2.1 v5).bind fun r32=>
           VU (.inl (r32,s1.2.1,r25.1,v5,decide (v27≥v28),r25.2.1))))) (
         (zG r7 s1.2.1 s1.2.2.1 v10).bind fun r20=>
         (rng (r20.1-s1.2.1)).bind fun v21=>
         (rng (s1.2.2.1-r20.1)).bind fun v22=>
         (yQ v1 8).bind fun v23=>
         cond (decide (v21<v22)) (
          (g_a r20.2.2 s1.2.1 r20.1 v5).bind fun r24=>
          (rng (r20.1+1)).bind fun v25=>
          VU (.inl (r24,v25,s1.2.2.1,v5,decide (v21≥v23),r20.2.1))) (
          (rng (r20.1+1)).bind fun v26=>
          (g_a r20.2.2 v26 s1.2.2.1 v5).bind fun r27=>
          VU (.inl (r27,s1.2.1,r20.1,v5,decide (v22≥v23),r20.2.1)))))) (
       cond (decide (s1.2.1> 0)) (
        (rng (s1.2.1-1)).bind fun v28=>
        (ixO r7 v28).bind fun v29=>
        (ixO r7 v10).bind fun v30=>
        (zO v29 v30).bind fun r31=>
        cond (!decide (r31<0)) (
         (f_i r7 s1.2.1 s1.2.2.1 v10).bind fun r32=>
         VU (.inl (r32.2,r32.1,s1.2.2.1,v5,s1.2.2.2.2.1,s1.2.2.2.2.2))) (
         (zG r7 s1.2.1 s1.2.2.1 v10).bind fun r33=>
         (rng (r33.1-s1.2.1)).bind fun v34=>
         (rng (s1.2.2.1-r33.1)).bind fun v35=>
         (yQ v1 8).bind fun v36=>
         cond (decide (v34<v35)) (
          (g_a r33.2.2 s1.2.1 r33.1 v5).bind fun r37=>
          (rng (r33.1+1)).bind fun v38=>
          VU (.inl (r37,v38,s1.2.2.1,v5,decide (v34≥v36),r33.2.1))) (
          (rng (r33.1+1)).bind fun v39=>
          (g_a r33.2.2 v39 s1.2.2.1 v5).bind fun r40=>
          VU (.inl (r40,s1.2.1,r33.1,v5,decide (v35≥v36),r33.2.1))))) (
        (zG r7 s1.2.1 s1.2.2.1 v10).bind fun r28=>
        (rng (r28.1-s1.2.1)).bind fun v29=>
        (rng (s1.2.2.1-r28.1)).bind fun v30=>
        (yQ v1 8).bind fun v31=>
        cond (decide (v29<v30)) (
         (g_a r28.2.2 s1.2.1 r28.1 v5).bind fun r32=>
         (rng (r28.1+1)).bind fun v33=>
         VU (.inl (r32,v33,s1.2.2.1,v5,decide (v29≥v31),r28.2.1))) (
         (rng (r28.1+1)).bind fun v34=>
         (g_a r28.2.2 v34 s1.2.2.1 v5).bind fun r35=>
         VU (.inl (r35,s1.2.1,r28.1,v5,decide (v30≥v31),r28.2.1)))))) (
      cond (decide (s1.2.1> 0)) (
       (rng (s1.2.1-1)).bind fun v36=>
       (ixO r7 v36).bind fun v37=>
       (ixO r7 v10).bind fun v38=>
       (zO v37 v38).bind fun r39=>
       cond (!decide (r39<0)) (
        (f_i r7 s1.2.1 s1.2.2.1 v10).bind fun r40=>
        VU (.inl (r40.2,r40.1,s1.2.2.1,v5,s1.2.2.2.2.1,s1.2.2.2.2.2))) (
        (zG r7 s1.2.1 s1.2.2.1 v10).bind fun r41=>
        (rng (r41.1-s1.2.1)).bind fun v42=>
        (rng (s1.2.2.1-r41.1)).bind fun v43=>
        (yQ v1 8).bind fun v44=>
        cond (decide (v42<v43)) (
         (g_a r41.2.2 s1.2.1 r41.1 v5).bind fun r45=>
         (rng (r41.1+1)).bind fun v46=>
         VU (.inl (r45,v46,s1.2.2.1,v5,decide (v42≥v44),r41.2.1))) (
         (rng (r41.1+1)).bind fun v47=>
         (g_a r41.2.2 v47 s1.2.2.1 v5).bind fun r48=>
         VU (.inl (r48,s1.2.1,r41.1,v5,decide (v43≥v44),r41.2.1))))) (
       (zG r7 s1.2.1 s1.2.2.1 v10).bind fun r36=>
       (rng (r36.1-s1.2.1)).bind fun v37=>
       (rng (s1.2.2.1-r36.1)).bind fun v38=>
       (yQ v1 8).bind fun v39=>
       cond (decide (v37<v38)) (
        (g_a r36.2.2 s1.2.1 r36.1 v5).bind fun r40=>
        (rng (r36.1+1)).bind fun v41=>
        VU (.inl (r40,v41,s1.2.2.1,v5,decide (v37≥v39),r36.2.1))) (
        (rng (r36.1+1)).bind fun v42=>
        (g_a r36.2.2 v42 s1.2.2.1 v5).bind fun r43=>
        VU (.inl (r43,s1.2.1,r36.1,v5,decide (v38≥v39),r36.2.1)))))) (
     cond s1.2.2.2.2.1 (
      cond s1.2.2.2.2.2 (
       cond (r6.2==1) (
        (yE r4 s1.2.1 s1.2.2.1).bind fun r44=>
        cond r44.1 (
         VU (.inr r44.2)) (
         cond (decide (s1.2.1> 0)) (
          (rng (s1.2.1-1)).bind fun v45=>
          (ixO r44.2 v45).bind fun v46=>
          (ixO r44.2 r6.1).bind fun v47=>
          (zO v46 v47).bind fun r48=>
          cond (!decide (r48<0)) (
           (f_i r44.2 s1.2.1 s1.2.2.1 r6.1).bind fun r49=>
           VU (.inl (r49.2,r49.1,s1.2.2.1,v5,s1.2.2.2.2.1,s1.2.2.2.2.2))) (
           (zG r44.2 s1.2.1 s1.2.2.1 r6.1).bind fun r50=>
           (rng (r50.1-s1.2.1)).bind fun v51=>
           (rng (s1.2.2.1-r50.1)).bind fun v52=>
           (yQ v1 8).bind fun v53=>
           cond (decide (v51<v52)) (
            (g_a r50.2.2 s1.2.1 r50.1 v5).bind fun r54=>
            (rng (r50.1+1)).bind fun v55=>
            VU (.inl (r54,v55,s1.2.2.1,v5,decide (v51≥v53),r50.2.1))) (
            (rng (r50.1+1)).bind fun v56=>
            (g_a r50.2.2 v56 s1.2.2.1 v5).bind fun r57=>
            VU (.inl (r57,s1.2.1,r50.1,v5,decide (v52≥v53),r50.2.1))))) (
          (zG r44.2 s1.2.1 s1.2.2.1 r6.1).bind fun r45=>
          (rng (r45.1-s1.2.1)).bind fun v46=>
          (rng (s1.2.2.1-r45.1)).bind fun v47=>
          (yQ v1 8).bind fun v48=>
          cond (decide (v46<v47)) (
           (g_a r45.2.2 s1.2.1 r45.1 v5).bind fun r49=>
           (rng (r45.1+1)).bind fun v50=>
           VU (.inl (r49,v50,s1.2.2.1,v5,decide (v46≥v48),r45.2.1))) (
           (rng (r45.1+1)).bind fun v51=>
           (g_a r45.2.2 v51 s1.2.2.1 v5).bind fun r52=>
           VU (.inl (r52,s1.2.1,r45.1,v5,decide (v47≥v48),r45.2.1)))))) (
        cond (decide (s1.2.1> 0)) (
         (rng (s1.2.1-1)).bind fun v53=>
         (ixO r4 v53).bind fun v54=>
         (ixO r4 r6.1).bind fun v55=>
         (zO v54 v55).bind fun r56=>
         cond (!decide (r56<0)) (
          (f_i r4 s1.2.1 s1.2.2.1 r6.1).bind fun r57=>
          VU (.inl (r57.2,r57.1,s1.2.2.1,v5,s1.2.2.2.2.1,s1.2.2.2.2.2))) (
          (zG r4 s1.2.1 s1.2.2.1 r6.1).bind fun r58=>
          (rng (r58.1-s1.2.1)).bind fun v59=>
          (rng (s1.2.2.1-r58.1)).bind fun v60=>
          (yQ v1 8).bind fun v61=>
          cond (decide (v59<v60)) (
           (g_a r58.2.2 s1.2.1 r58.1 v5).bind fun r62=>
           (rng (r58.1+1)).bind fun v63=>
           VU (.inl (r62,v63,s1.2.2.1,v5,decide (v59≥v61),r58.2.1))) (
           (rng (r58.1+1)).bind fun v64=>
           (g_a r58.2.2 v64 s1.2.2.1 v5).bind fun r65=>
           VU (.inl (r65,s1.2.1,r58.1,v5,decide (v60≥v61),r58.2.1))))) (
         (zG r4 s1.2.1 s1.2.2.1 r6.1).bind fun r53=>
         (rng (r53.1-s1.2.1)).bind fun v54=>
         (rng (s1.2.2.1-r53.1)).bind fun v55=>
         (yQ v1 8).bind fun v56=>
         cond (decide (v54<v55)) (
          (g_a r53.2.2 s1.2.1 r53.1 v5).bind fun r57=>
          (rng (r53.1+1)).bind fun v58=>
          VU (.inl (r57,v58,s1.2.2.1,v5,decide (v54≥v56),r53.2.1))) (
          (rng (r53.1+1)).bind fun v59=>
          (g_a r53.2.2 v59 s1.2.2.1 v5).bind fun r60=>
          VU (.inl (r60,s1.2.1,r53.1,v5,decide (v55≥v56),r53.2.1)))))) (
       cond (decide (s1.2.1> 0)) (
        (rng (s1.2.1-1)).bind fun v61=>
        (ixO r4 v61).bind fun v62=>
        (ixO r4 r6.1).bind fun v63=>
        (zO v62 v63).bind fun r64=>
        cond (!decide (r64<0)) (
         (f_i r4 s1.2.1 s1.2.2.1 r6.1).bind fun r65=>
         VU (.inl (r65.2,r65.1,s1.2.2.1,v5,s1.2.2.2.2.1,s1.2.2.2.2.2))) (
         (zG r4 s1.2.1 s1.2.2.1 r6.1).bind fun r66=>
         (rng (r66.1-s1.2.1)).bind fun v67=>
         (rng (s1.2.2.1-r66.1)).bind fun v68=>
         (yQ v1 8).bind fun v69=>
         cond (decide (v67<v68)) (
          (g_a r66.2.2 s1.2.1 r66.1 v5).bind fun r70=>
          (rng (r66.1+1)).bind fun v71=>
          VU (.inl (r70,v71,s1.2.2.1,v5,decide (v67≥v69),r66.2.1))) (
          (rng (r66.1+1)).bind fun v72=>
          (g_a r66.2.2 v72 s1.2.2.1 v5).bind fun r73=>
          VU (.inl (r73,s1.2.1,r66.1,v5,decide (v68≥v69),r66.2.1))))) (
        (zG r4 s1.2.1 s1.2.2.1 r6.1).bind fun r61=>
        (rng (r61.1-s1.2.1)).bind fun v62=>
        (rng (s1.2.2.1-r61.1)).bind fun v63=>
        (yQ v1 8).bind fun v64=>
        cond (decide (v62<v63)) (
         (g_a r61.2.2 s1.2.1 r61.1 v5).bind fun r65=>
         (rng (r61.1+1)).bind fun v66=>
         VU (.inl (r65,v66,s1.2.2.1,v5,decide (v62≥v64),r61.2.1))) (
         (rng (r61.1+1)).bind fun v67=>
         (g_a r61.2.2 v67 s1.2.2.1 v5).bind fun r68=>
         VU (.inl (r68,s1.2.1,r61.1,v5,decide (v63≥v64),r61.2.1)))))) (
      cond (decide (s1.2.1> 0)) (
       (rng (s1.2.1-1)).bind fun v69=>
       (ixO r4 v69).bind fun v70=>
       (ixO r4 r6.1).bind fun v71=>
       (zO v70 v71).bind fun r72=>
       cond (!decide (r72<0)) (
        (f_i r4 s1.2.1 s1.2.2.1 r6.1).bind fun r73=>
        VU (.inl (r73.2,r73.1,s1.2.2.1,v5,s1.2.2.2.2.1,s1.2.2.2.2.2))) (
        (zG r4 s1.2.1 s1.2.2.1 r6.1).bind fun r74=>
        (rng (r74.1-s1.2.1)).bind fun v75=>
        (rng (s1.2.2.1-r74.1)).bind fun v76=>
        (yQ v1 8).bind fun v77=>
        cond (decide (v75<v76)) (
         (g_a r74.2.2 s1.2.1 r74.1 v5).bind fun r78=>
         (rng (r74.1+1)).bind fun v79=>
         VU (.inl (r78,v79,s1.2.2.1,v5,decide (v75≥v77),r74.2.1))) (
         (rng (r74.1+1)).bind fun v80=>
         (g_a r74.2.2 v80 s1.2.2.1 v5).bind fun r81=>
         VU (.inl (r81,s1.2.1,r74.1,v5,decide (v76≥v77),r74.2.1))))) (
       (zG r4 s1.2.1 s1.2.2.1 r6.1).bind fun r69=>
       (rng (r69.1-s1.2.1)).bind fun v70=>
       (rng (s1.2.2.1-r69.1)).bind fun v71=>
       (yQ v1 8).bind fun v72=>
       cond (decide (v70<v71)) (
        (g_a r69.2.2 s1.2.1 r69.1 v5).bind fun r73=>
        (rng (r69.1+1)).bind fun v74=>
        VU (.inl (r73,v74,s1.2.2.1,v5,decide (v70≥v72),r69.2.1))) (
        (rng (r69.1+1)).bind fun v75=>
        (g_a r69.2.2 v75 s1.2.2.1 v5).bind fun r76=>
        VU (.inl (r76,s1.2.1,r69.1,v5,decide (v71≥v72),r69.2.1))))))) (
    (xT s1.1 s1.2.1 s1.2.2.1).bind fun r77=>
    cond (r77.2==2) (
     (zOl s1.1 s1.2.1 s1.2.2.1).bind fun r78=>
     (rng (s1.2.2.1-1)).bind fun v79=>
     (rng (r77.1-s1.2.1)).bind fun v80=>
     (rng (v79-v80)).bind fun v81=>
     cond s1.2.2.2.2.1 (
      cond s1.2.2.2.2.2 (
       cond (1==1) (
        (yE r78 s1.2.1 s1.2.2.1).bind fun r82=>
        cond r82.1 (
         VU (.inr r82.2)) (
         cond (decide (s1.2.1> 0)) (
          (rng (s1.2.1-1)).bind fun v83=>
          (ixO r82.2 v83).bind fun v84=>
          (ixO r82.2 v81).bind fun v85=>
          (zO v84 v85).bind fun r86=>
          cond (!decide (r86<0)) (
           (f_i r82.2 s1.2.1 s1.2.2.1 v81).bind fun r87=>
           VU (.inl (r87.2,r87.1,s1.2.2.1,s1.2.2.2.1,s1.2.2.2.2.1,s1.2.2.2.2.2))) (
           (zG r82.2 s1.2.1 s1.2.2.1 v81).bind fun r88=>
           (rng (r88.1-s1.2.1)).bind fun v89=>
           (rng (s1.2.2.1-r88.1)).bind fun v90=>
           (yQ v1 8).bind fun v91=>
           cond (decide (v89<v90)) (
            (g_a r88.2.2 s1.2.1 r88.1 s1.2.2.2.1).bind fun r92=>
            (rng (r88.1+1)).bind fun v93=>
            VU (.inl (r92,v93,s1.2.2.1,s1.2.2.2.1,decide (v89≥v91),r88.2.1))) (
            (rng (r88.1+1)).bind fun v94=>
            (g_a r88.2.2 v94 s1.2.2.1 s1.2.2.2.1).bind fun r95=>
            VU (.inl (r95,s1.2.1,r88.1,s1.2.2.2.1,decide (v90≥v91),r88.2.1))))) (
          (zG r82.2 s1.2.1 s1.2.2.1 v81).bind fun r83=>
          (rng (r83.1-s1.2.1)).bind fun v84=>
          (rng (s1.2.2.1-r83.1)).bind fun v85=>
          (yQ v1 8).bind fun v86=>
          cond (decide (v84<v85)) (
           (g_a r83.2.2 s1.2.1 r83.1 s1.2.2.2.1).bind fun r87=>
           (rng (r83.1+1)).bind fun v88=>
           VU (.inl (r87,v88,s1.2.2.1,s1.2.2.2.1,decide (v84≥v86),r83.2.1))) (
           (rng (r83.1+1)).bind fun v89=>
           (g_a r83.2.2 v89 s1.2.2.1 s1.2.2.2.1).bind fun r90=>
           VU (.inl (r90,s1.2.1,r83.1,s1.2.2.2.1,decide (v85≥v86),r83.2.1)))))) (
        cond (decide (s1.2.1> 0)) (
         (rng (s1.2.1-1)).bind fun v91=>
         (ixO r78 v91).bind fun v92=>
         (ixO r78 v81).bind fun v93=>
         (zO v92 v93).bind fun r94=>
         cond (!decide (r94<0)) (
          (f_i r78 s1.2.1 s1.2.2.1 v81).bind fun r95=>
          VU (.inl (r95.2,r95.1,s1.2.2.1,s1.2.2.2.1,s1.2.2.2.2.1,s1.2.2.2.2.2))) (
          (zG r78 s1.2.1 s1.2.2.1 v81).bind fun r96=>
          (rng (r96.1-s1.2.1)).bind fun v97=>
          (rng (s1.2.2.1-r96.1)).bind fun v98=>
          (yQ v1 8).bind fun v99=>
          cond (decide (v97<v98)) (
           (g_a r96.2.2 s1.2.1 r96.1 s1.2.2.2.1).bind fun r100=>
           (rng (r96.1+1)).bind fun v101=>
           VU (.inl (r100,v101,s1.2.2.1,s1.2.2.2.1,decide (v97≥v99),r96.2.1))) (
           (rng (r96.1+1)).bind fun v102=>
           (g_a r96.2.2 v102 s1.2.2.1 s1.2.2.2.1).bind fun r103=>
           VU (.inl (r103,s1.2.1,r96.1,s1.2.2.2.1,decide (v98≥v99),r96.2.1))))) (
         (zG r78 s1.2.1 s1.2.2.1 v81).bind fun r91=>
         (rng (r91.1-s1.2.1)).bind fun v92=>
         (rng (s1.2.2.1-r91.1)).bind fun v93=>
         (yQ v1 8).bind fun v94=>
         cond (decide (v92<v93)) (
          (g_a r91.2.2 s1.2.1 r91.1 s1.2.2.2.1).bind fun r95=>
          (rng (r91.1+1)).bind fun v96=>
          VU (.inl (r95,v96,s1.2.2.1,s1.2.2.2.1,decide (v92≥v94),r91.2.1))) (
          (rng (r91.1+1)).bind fun v97=>
          (g_a r91.2.2 v97 s1.2.2.1 s1.2.2.2.1).bind fun r98=>
          VU (.inl (r98,s1.2.1,r91.1,s1.2.2.2.1,decide (v93≥v94),r91.2.1)))))) (
       cond (decide (s1.2.1> 0)) (
        (rng (s1.2.1-1)).bind fun v99=>
        (ixO r78 v99).bind fun v100=>
        (ixO r78 v81).bind fun v101=>
        (zO v100 v101).bind fun r102=>
        cond (!decide (r102<0)) (
         (f_i r78 s1.2.1 s1.2.2.1 v81).bind fun r103=>
         VU (.inl (r103.2,r103.1,s1.2.2.1,s1.2.2.2.1,s1.2.2.2.2.1,s1.2.2.2.2.2))) (
         (zG r78 s1.2.1 s1.2.2.1 v81).bind fun r104=>
         (rng (r104.1-s1.2.1)).bind fun v105=>
         (rng (s1.2.2.1-r104.1)).bind fun v106=>
         (yQ v1 8).bind fun v107=>
         cond (decide (v105<v106)) (
          (g_a r104.2.2 s1.2.1 r104.1 s1.2.2.2.1).bind fun r108=>
          (rng (r104.1+1)).bind fun v109=>
          VU (.inl (r108,v109,s1.2.2.1,s1.2.2.2.1,decide (v105≥v107),r104.2.1))) (
          (rng (r104.1+1)).bind fun v110=>
          (g_a r104.2.2 v110 s1.2.2.1 s1.2.2.2.1).bind fun r111=>
          VU (.inl (r111,s1.2.1,r104.1,s1.2.2.2.1,decide (v106≥v107),r104.2.1))))) (
        (zG r78 s1.2.1 s1.2.2.1 v81).bind fun r99=>
        (rng (r99.1-s1.2.1)).bind fun v100=>
        (rng (s1.2.2.1-r99.1)).bind fun v101=>
        (yQ v1 8).bind fun v102=>
        cond (decide (v100<v101)) (
         (g_a r99.2.2 s1.2.1 r99.1 s1.2.2.2.1).bind fun r103=>
         (rng (r99.1+1)).bind fun v104=>
         VU (.inl (r103,v104,s1.2.2.1,s1.2.2.2.1,decide (v100≥v102),r99.2.1))) (
         (rng (r99.1+1)).bind fun v105=>
         (g_a r99.2.2 v105 s1.2.2.1 s1.2.2.2.1).bind fun r106=>
         VU (.inl (r106,s1.2.1,r99.1,s1.2.2.2.1,decide (v101≥v102),r99.2.1)))))) (
      cond (decide (s1.2.1> 0)) (
       (rng (s1.2.1-1)).bind fun v107=>
       (ixO r78 v107).bind fun v108=>
       (ixO r78 v81).bind fun v109=>
       (zO v108 v109).bind fun r110=>
       cond (!decide (r110<0)) (
        (f_i r78 s1.2.1 s1.2.2.1 v81).bind fun r111=>
        VU (.inl (r111.2,r111.1,s1.2.2.1,s1.2.2.2.1,s1.2.2.2.2.1,s1.2.2.2.2.2))) (
        (zG r78 s1.2.1 s1.2.2.1 v81).bind fun r112=>
        (rng (r112.1-s1.2.1)).bind fun v113=>
        (rng (s1.2.2.1-r112.1)).bind fun v114=>
        (yQ v1 8).bind fun v115=>
        cond (decide (v113<v114)) (
         (g_a r112.2.2 s1.2.1 r112.1 s1.2.2.2.1).bind fun r116=>
         (rng (r112.1+1)).bind fun v117=>
         VU (.inl (r116,v117,s1.2.2.1,s1.2.2.2.1,decide (v113≥v115),r112.2.1))) (
         (rng (r112.1+1)).bind fun v118=>
         (g_a r112.2.2 v118 s1.2.2.1 s1.2.2.2.1).bind fun r119=>
         VU (.inl (r119,s1.2.1,r112.1,s1.2.2.2.1,decide (v114≥v115),r112.2.1))))) (
       (zG r78 s1.2.1 s1.2.2.1 v81).bind fun r107=>
       (rng (r107.1-s1.2.1)).bind fun v108=>
       (rng (s1.2.2.1-r107.1)).bind fun v109=>
       (yQ v1 8).bind fun v110=>
       cond (decide (v108<v109)) (
        (g_a r107.2.2 s1.2.1 r107.1 s1.2.2.2.1).bind fun r111=>
        (rng (r107.1+1)).bind fun v112=>
        VU (.inl (r111,v112,s1.2.2.1,s1.2.2.2.1,decide (v108≥v110),r107.2.1))) (
        (rng (r107.1+1)).bind fun v113=>
        (g_a r107.2.2 v113 s1.2.2.1 s1.2.2.2.1).bind fun r114=>
        VU (.inl (r114,s1.2.1,r107.1,s1.2.2.2.1,decide (v109≥v110),r107.2.1)))))) (
     cond s1.2.2.2.2.1 (
      cond s1.2.2.2.2.2 (
       cond (r77.2==1) (
        (yE s1.1 s1.2.1 s1.2.2.1).bind fun r115=>
        cond r115.1 (
         VU (.inr r115.2)) (
         cond (decide (s1.2.1> 0)) (
          (rng (s1.2.1-1)).bind fun v116=>
          (ixO r115.2 v116).bind fun v117=>
          (ixO r115.2 r77.1).bind fun v118=>
          (zO v117 v118).bind fun r119=>
          cond (!decide (r119<0)) (
           (f_i r115.2 s1.2.1 s1.2.2.1 r77.1).bind fun r120=>
           VU (.inl (r120.2,r120.1,s1.2.2.1,s1.2.2.2.1,s1.2.2.2.2.1,s1.2.2.2.2.2))) (
           (zG r115.2 s1.2.1 s1.2.2.1 r77.1).bind fun r121=>
           (rng (r121.1-s1.2.1)).bind fun v122=>
           (rng (s1.2.2.1-r121.1)).bind fun v123=>
           (yQ v1 8).bind fun v124=>
           cond (decide (v122<v123)) (
            (g_a r121.2.2 s1.2.1 r121.1 s1.2.2.2.1).bind fun r125=>
            (rng (r121.1+1)).bind fun v126=>
            VU (.inl (r125,v126,s1.2.2.1,s1.2.2.2.1,decide (v122≥v124),r121.2.1))) (
            (rng (r121.1+1)).bind fun v127=>
            (g_a r121.2.2 v127 s1.2.2.1 s1.2.2.2.1).bind fun r128=>
            VU (.inl (r128,s1.2.1,r121.1,s1.2.2.2.1,decide (v123≥v124),r121.2.1))))) (
          (zG r115.2 s1.2.1 s1.2.2.1 r77.1).bind fun r116=>
          (rng (r116.1-s1.2.1)).bind fun v117=>
          (rng (s1.2.2.1-r116.1)).bind fun v118=>
          (yQ v1 8).bind fun v119=>
          cond (decide (v117<v118)) (
           (g_a r116.2.2 s1.2.1 r116.1 s1.2.2.2.1).bind fun r120=>
           (rng (r116.1+1)).bind fun v121=>
           VU (.inl (r120,v121,s1.2.2.1,s1.2.2.2.1,decide (v117≥v119),r116.2.1))) (
           (rng (r116.1+1)).bind fun v122=>
           (g_a r116.2.2 v122 s1.2.2.1 s1.2.2.2.1).bind fun r123=>
           VU (.inl (r123,s1.2.1,r116.1,s1.2.2.2.1,decide (v118≥v119),r116.2.1)))))) (
        cond (decide (s1.2.1> 0)) (
         (rng (s1.2.1-1)).bind fun v124=>
         (ixO s1.1 v124).bind fun v125=>
         (ixO s1.1 r77.1).bind fun v126=>
         (zO v125 v126).bind fun r127=>
         cond (!decide (r127<0)) (
          (f_i s1.1 s1.2.1 s1.2.2.1 r77.1).bind fun r128=>
          VU (.inl (r128.2,r128.1,s1.2.2.1,s1.2.2.2.1,s1.2.2.2.2.1,s1.2.2.2.2.2))) (
          (zG s1.1 s1.2.1 s1.2.2.1 r77.1).bind fun r129=>
          (rng (r129.1-s1.2.1)).bind fun v130=>
          (rng (s1.2.2.1-r129.1)).bind fun v131=>
          (yQ v1 8).bind fun v132=>
          cond (decide (v130<v131)) (
           (g_a r129.2.2 s1.2.1 r129.1 s1.2.2.2.1).bind fun r133=>
           (rng (r129.1+1)).bind fun v134=>
           VU (.inl (r133,v134,s1.2.2.1,s1.2.2.2.1,decide (v130≥v132),r129.2.1))) (
           (rng (r129.1+1)).bind fun v135=>
           (g_a r129.2.2 v135 s1.2.2.1 s1.2.2.2.1).bind fun r136=>
           VU (.inl (r136,s1.2.1,r129.1,s1.2.2.2.1,decide (v131≥v132),r129.2.1))))) (
         (zG s1.1 s1.2.1 s1.2.2.1 r77.1).bind fun r124=>
         (rng (r124.1-s1.2.1)).bind fun v125=>
         (rng (s1.2.2.1-r124.1)).bind fun v126=>
         (yQ v1 8).bind fun v127=>
         cond (decide (v125<v126)) (
          (g_a r124.2.2 s1.2.1 r124.1 s1.2.2.2.1).bind fun r128=>
          (rng (r124.1+1)).bind fun v129=>
          VU (.inl (r128,v129,s1.2.2.1,s1.2.2.2.1,decide (v125≥v127),r124.2.1))) (
          (rng (r124.1+1)).bind fun v130=>
          (g_a r124.2.2 v130 s1.2.2.1 s1.2.2.2.1).bind fun r131=>
          VU (.inl (r131,s1.2.1,r124.1,s1.2.2.2.1,decide (v126≥v127),r124.2.1)))))) (
       cond (decide (s1.2.1> 0)) (
        (rng (s1.2.1-1)).bind fun v132=>
        (ixO s1.1 v132).bind fun v133=>
        (ixO s1.1 r77.1).bind fun v134=>
        (zO v133 v134).bind fun r135=>
        cond (!decide (r135<0)) (
         (f_i s1.1 s1.2.1 s1.2.2.1 r77.1).bind fun r136=>
         VU (.inl (r136.2,r136.1,s1.2.2.1,s1.2.2.2.1,s1.2.2.2.2.1,s1.2.2.2.2.2))) (
         (zG s1.1 s1.2.1 s1.2.2.1 r77.1).bind fun r137=>
         (rng (r137.1-s1.2.1)).bind fun v138=>
         (rng (s1.2.2.1-r137.1)).bind fun v139=>
         (yQ v1 8).bind fun v140=>
         cond (decide (v138<v139)) (
          (g_a r137.2.2 s1.2.1 r137.1 s1.2.2.2.1).bind fun r141=>
          (rng (r137.1+1)).bind fun v142=>
          VU (.inl (r141,v142,s1.2.2.1,s1.2.2.2.1,decide (v138≥v140),r137.2.1))) (
          (rng (r137.1+1)).bind fun v143=>
          (g_a r137.2.2 v143 s1.2.2.1 s1.2.2.2.1).bind fun r144=>
          VU (.inl (r144,s1.2.1,r137.1,s1.2.2.2.1,decide (v139≥v140),r137.2.1))))) (
        (zG s1.1 s1.2.1 s1.2.2.1 r77.1).bind fun r132=>
        (rng (r132.1-s1.2.1)).bind fun v133=>
        (rng (s1.2.2.1-r132.1)).bind fun v134=>
        (yQ v1 8).bind fun v135=>
        cond (decide (v133<v134)) (
         (g_a r132.2.2 s1.2.1 r132.1 s1.2.2.2.1).bind fun r136=>
         (rng (r132.1+1)).bind fun v137=>
         VU (.inl (r136,v137,s1.2.2.1,s1.2.2.2.1,decide (v133≥v135),r132.2.1))) (
         (rng (r132.1+1)).bind fun v138=>
         (g_a r132.2.2 v138 s1.2.2.1 s1.2.2.2.1).bind fun r139=>
         VU (.inl (r139,s1.2.1,r132.1,s1.2.2.2.1,decide (v134≥v135),r132.2.1)))))) (
      cond (decide (s1.2.1> 0)) (
       (rng (s1.2.1-1)).bind fun v140=>
       (ixO s1.1 v140).bind fun v141=>
       (ixO s1.1 r77.1).bind fun v142=>
       (zO v141 v142).bind fun r143=>
       cond (!decide (r143<0)) (
        (f_i s1.1 s1.2.1 s1.2.2.1 r77.1).bind fun r144=>
        VU (.inl (r144.2,r144.1,s1.2.2.1,s1.2.2.2.1,s1.2.2.2.2.1,s1.2.2.2.2.2))) (
        (zG s1.1 s1.2.1 s1.2.2.1 r77.1).bind fun r145=>
        (rng (r145.1-s1.2.1)).bind fun v146=>
        (rng (s1.2.2.1-r145.1)).bind fun v147=>
        (yQ v1 8).bind fun v148=>
        cond (decide (v146<v147)) (
         (g_a r145.2.2 s1.2.1 r145.1 s1.2.2.2.1).bind fun r149=>
         (rng (r145.1+1)).bind fun v150=>
         VU (.inl (r149,v150,s1.2.2.1,s1.2.2.2.1,decide (v146≥v148),r145.2.1))) (
         (rng (r145.1+1)).bind fun v151=>
         (g_a r145.2.2 v151 s1.2.2.1 s1.2.2.2.1).bind fun r152=>
         VU (.inl (r152,s1.2.1,r145.1,s1.2.2.2.1,decide (v147≥v148),r145.2.1))))) (
       (zG s1.1 s1.2.1 s1.2.2.1 r77.1).bind fun r140=>
       (rng (r140.1-s1.2.1)).bind fun v141=>
       (rng (s1.2.2.1-r140.1)).bind fun v142=>
       (yQ v1 8).bind fun v143=>
       cond (decide (v141<v142)) (
        (g_a r140.2.2 s1.2.1 r140.1 s1.2.2.2.1).bind fun r144=>
        (rng (r140.1+1)).bind fun v145=>
        VU (.inl (r144,v145,s1.2.2.1,s1.2.2.2.1,decide (v141≥v143),r140.2.1))) (
        (rng (r140.1+1)).bind fun v146=>
        (g_a r140.2.2 v146 s1.2.2.1 s1.2.2.2.1).bind fun r147=>
        VU (.inl (r147,s1.2.1,r140.1,s1.2.2.2.1,decide (v142≥v143),r140.2.1)))))))))
noncomputable def vF (g_a:(List zD)→Int→Int→Int→Option (List zD)) (x0:List zD) (x1:Int) (x2:Int) (x3:Int):Option (List zD):=
 (yZ (vB g_a) 120 (x0,x1,x2,x3,VW,VW)).bind fun r148=>
 VU r148
noncomputable def xG:Nat→(List zD)→Int→Int→Int→Option (List zD)
 |0=>fun _ _ _ _=>VV
 |n+1=>vF (xG n)
noncomputable def uR (x0:List zD) (x1:Int) (x2:Int) (x3:Int):Option (List zD):=xG 14 x0 x1 x2 x3
noncomputable def wK (x0:List zD):Option (List zD):=
 (zVg (IntKind.wrap .u64 (x0.length:Int))).bind fun r1=>
 (uR x0 0 (x0.length:Int) r1).bind fun r2=>
 VU r2
noncomputable def sT (x1:Int) (v2:List Int) (s50:(List (Int×Int))×Int) (s51:(List (Int×Int))×Int):Option (((List (Int×Int))×Int)⊕(List (Int×Int))):=
 cond (decide (s51.2<x1)) (
  (tC v2 s51.2).bind fun r5=>
  cond (!r5) (
   (xC s51.1 [(s50.2,s51.2)]).bind fun v6=>
   (rng (s51.2+1)).bind fun v7=>
   VU (.inl (v6,v7))) (
   (rng (s51.2+1)).bind fun v8=>
   VU (.inl (s51.1,v8)))) (
  VU (.inr s51.1))
noncomputable def sU (x1:Int) (v2:List Int) (s50:(List (Int×Int))×Int):Option (((List (Int×Int))×Int)⊕(List (Int×Int))):=
 cond (decide (s50.2<(v2.length:Int))) (
  (ixO v2 s50.2).bind fun v3=>
  (rng (v3+1)).bind fun v4=>
  (yZ (sT x1 v2 s50) 120 (s50.1,v4)).bind fun r9=>
  (rng (s50.2+1)).bind fun v10=>
  VU (.inl (r9,v10))) (
  VU (.inr s50.1))
noncomputable def sV (x0:Int) (x1:Int) (v2:List Int) (r11:(List (Int×Int))) (r12:Int) (s62:(List zD)×Int):Option (((List zD)×Int)⊕(List zD)):=
 cond (decide (s62.2<r12)) (
  (yZ (zST x1 v2) 120 ([],0)).bind fun r18=>
  (yZ (zSU x0 r11) 120 (s62.2,r18,0)).bind fun r25=>
  (xC s62.1 [(zD.mk x0 x1 r25)]).bind fun v26=>
  (rng (s62.2+1)).bind fun v27=>
  VU (.inl (v26,v27))) (
  VU (.inr s62.1))
noncomputable def sW (x0:Int) (x1:Int) (r1:(List (List Int))) (s45:(List zD)×Int):Option (((List zD)×Int)⊕(List zD)):=
 cond (decide (s45.2<(r1.length:Int))) (
  (ixO r1 s45.2).bind fun v2=>
  (yZ (sU x1 v2) 120 ([],0)).bind fun r11=>
  (qN x0 (r11.length:Int)).bind fun r12=>
  (yZ (sV x0 x1 v2 r11 r12) 120 (s45.1,0)).bind fun r28=>
  (rng (s45.2+1)).bind fun v29=>
  VU (.inl (r28,v29))) (
  VU (.inr s45.1))
noncomputable def qP (x0:Int) (x1:Int) (x2:Int):Option (List zD):=
 (zCy x1 x2).bind fun r1=>
 (yZ (sW x0 x1 r1) 120 ([],0)).bind fun r30=>
 (wK r30).bind fun r31=>
 VU r31
def Lo{α:Type}(a b:Option α):Prop:=∀r,a=VU r→b=VU r
theorem vH{α:Type}{a:Option α}:Lo a a:=fun _ h=>h
theorem vJ{α β:Type}{a a':Option α}{k k':α→Option β}(h:Lo a a')(h2:∀v,Lo (k v) (k' v)):Lo (a.bind k) (a'.bind k'):=fun r hr=>by obtain⟨v,hv,hk⟩:=Gl.1 hr;exact Gl.2 ⟨v,h _ hv,h2 _ _ hk⟩
theorem vK{α:Type}{c:Bool}{a a' b b':Option α}(h:Lo a a')(h2:Lo b b'):Lo (cond c a b) (cond c a' b'):=by
 cases c
 ·exact h2
 ·exact h
theorem zT3{σ ρ:Type}{f g:σ→Option (σ⊕ρ)}(h:∀s,Lo (f s) (g s)):∀n s,Lo (yZ f n s) (yZ g n s)
 |0,_=>fun r hr=>by simp[yZ]at hr
 |n+1,s=>fun r hr=>by
  simp only[yZ]at hr ⊢
  cases hb:f s with
  |none=>simp[hb]at hr
  |some x=>
   rw[h s x hb];cases x with
   |inl s'=>simp only[hb]at hr;exact zT3 h n s' r hr
   |inr r'=>simpa[hb]using hr
theorem vL{σ ρ:Type}{f g:σ→Option (σ⊕ρ)}{n:Nat}{s:σ}(h:∀s,Lo (f s) (g s)):Lo (yZ f n s) (zI g s):=fun r hr=>zCb.2 ⟨n,zT3 h n s r hr⟩
theorem zFx(x0:List Int)(x1:List Int):Lo (jV x0 x1) (f_K x0 x1):=by
 unfold jV f_K
 repeat (first|with_reducible exact vH|with_reducible refine vK ?_ ?_|with_reducible refine vJ ?_ (fun _=>?_)|with_reducible refine vL (fun _=>?_)|split)
theorem zEb(x0:Int)(x1:Int)(x2:List Int):Lo (kT x0 x1 x2) (f_V x0 x1 x2):=by
 unfold kT f_V
 repeat (first|with_reducible exact vH|with_reducible refine vK ?_ ?_|with_reducible refine vJ ?_ (fun _=>?_)|with_reducible refine vL (fun _=>?_)|split)
theorem zEc(x0:List (List Int))(x1:List (List Int))(s1:Int):Lo (kU x0 x1 s1) (zQo x0 x1 s1):=by
 unfold kU zQo
 repeat (first|with_reducible exact vH|with_reducible apply zFx|with_reducible refine vK ?_ ?_|with_reducible refine vJ ?_ (fun _=>?_)|with_reducible refine vL (fun _=>?_)|split)
theorem zEI(x0:List (List Int))(x1:List (List Int)):Lo (zAq x0 x1) (f_W x0 x1):=by
 unfold zAq f_W
 repeat (first|with_reducible exact vH|with_reducible apply zEc|with_reducible refine vK ?_ ?_|with_reducible refine vJ ?_ (fun _=>?_)|with_reducible refine vL (fun _=>?_)|split)
theorem zAE(x0:List (List Int)):Lo (vQ x0) (f_Y x0):=by
 unfold vQ f_Y
 repeat (first|with_reducible exact vH|with_reducible refine vK ?_ ?_|with_reducible refine vJ ?_ (fun _=>?_)|with_reducible refine vL (fun _=>?_)|split)
theorem zA0(x0:List Int):Lo (sO x0) (f_v x0):=by
 unfold sO f_v
 repeat (first|with_reducible exact vH|with_reducible refine vK ?_ ?_|with_reducible refine vJ ?_ (fun _=>?_)|with_reducible refine vL (fun _=>?_)|split)
theorem zAN(x0:Int)(x1:List Int)(x2:Int)(x3:List Int):Lo (tB x0 x1 x2 x3) (f_A x0 x1 x2 x3):=by
 unfold tB f_A
 repeat (first|with_reducible exact vH|with_reducible refine vK ?_ ?_|with_reducible refine vJ ?_ (fun _=>?_)|with_reducible refine vL (fun _=>?_)|split)
theorem zEd(x0:Int)(x1:List (List Int))(s1:(List Int)×Int):Lo (kV x0 x1 s1) (zLQ x0 x1 s1):=by
 unfold kV zLQ
 repeat (first|with_reducible exact vH|with_reducible apply zA0|with_reducible apply zAN|with_reducible refine vK ?_ ?_|with_reducible refine vJ ?_ (fun _=>?_)|with_reducible refine vL (fun _=>?_)|split)
theorem zEJ(x0:Int)(x1:List (List Int))(x2:List Int):Lo (zAr x0 x1 x2) (f_Q x0 x1 x2):=by
 unfold zAr f_Q
 repeat (first|with_reducible exact vH|with_reducible apply zEd|with_reducible refine vK ?_ ?_|with_reducible refine vJ ?_ (fun _=>?_)|with_reducible refine vL (fun _=>?_)|split)
theorem zFR(x0:Int)(x1:Int):Lo (zBm x0 x1) (f_X x0 x1):=by
 unfold zBm f_X
 repeat (first|with_reducible exact vH|with_reducible refine vK ?_ ?_|with_reducible refine vJ ?_ (fun _=>?_)|with_reducible refine vL (fun _=>?_)|split)
theorem zEK(x0:Int)(x1:Int)(x2:List Int):Lo (zAs x0 x1 x2) (zOe x0 x1 x2):=by
 unfold zAs zOe
 repeat (first|with_reducible exact vH|with_reducible apply zAN|with_reducible refine vK ?_ ?_|with_reducible refine vJ ?_ (fun _=>?_)|with_reducible refine vL (fun _=>?_)|split)
theorem zDt(x0:Int)(s5:(List (List Int))×Int)(r3:Int)(r7:(List Int))(s6:(List (List Int))×Bool×Int):Lo (kE x0 s5 r3 r7 s6) (zFS x0 s5 r3 r7 s6):=by
 unfold kE zFS
 repeat (first|with_reducible exact vH|with_reducible apply zA0|with_reducible apply zAN|with_reducible refine vK ?_ ?_|with_reducible refine vJ ?_ (fun _=>?_)|with_reducible refine vL (fun _=>?_)|split)
theorem zDu(x0:Int)(x1:List (List Int))(s5:(List (List Int))×Int):Lo (kF x0 x1 s5) (zKR x0 x1 s5):=by
 unfold kF zKR
 repeat (first|with_reducible exact vH|with_reducible apply zEJ|with_reducible apply zA0|with_reducible apply zFR|with_reducible apply zEK|with_reducible apply zDt|with_reducible refine vK ?_ ?_|with_reducible refine vJ ?_ (fun _=>?_)|with_reducible refine vL (fun _=>?_)|split)
theorem zEe(x0:Int)(x1:List (List Int)):Lo (kW x0 x1) (f_o x0 x1):=by
 unfold kW f_o
 repeat (first|with_reducible exact vH|with_reducible apply zDu|with_reducible refine vK ?_ ?_|with_reducible refine vJ ?_ (fun _=>?_)|with_reducible refine vL (fun _=>?_)|split)
theorem zEf(x0:zD)(s1:Int):Lo (kX x0 s1) (zI7 x0 s1):=by
 unfold kX zI7
 repeat (first|with_reducible exact vH|with_reducible apply zEb|with_reducible refine vK ?_ ?_|with_reducible refine vJ ?_ (fun _=>?_)|with_reducible refine vL (fun _=>?_)|split)
theorem zEL(x0:zD):Lo (zAt x0) (zQT x0):=by
 unfold zAt zQT
 repeat (first|with_reducible exact vH|with_reducible apply zEf|with_reducible refine vK ?_ ?_|with_reducible refine vJ ?_ (fun _=>?_)|with_reducible refine vL (fun _=>?_)|split)
theorem zDv(x0:zD):Lo (kG x0) (zSs x0):=by
 unfold kG zSs
 repeat (first|with_reducible exact vH|with_reducible apply zEL|with_reducible apply zEe|with_reducible apply zEI|with_reducible refine vK ?_ ?_|with_reducible refine vJ ?_ (fun _=>?_)|with_reducible refine vL (fun _=>?_)|split)
theorem zB5(x0:List Int)(x1:Int):Lo (tY x0 x1) (zSz x0 x1):=by
 unfold tY zSz
 repeat (first|with_reducible exact vH|with_reducible refine vK ?_ ?_|with_reducible refine vJ ?_ (fun _=>?_)|with_reducible refine vL (fun _=>?_)|split)
theorem zBd(x0:List Int)(x1:Int):Lo (tC x0 x1) (zS0 x0 x1):=by
 unfold tC zS0
 repeat (first|with_reducible exact vH|with_reducible apply zB5|with_reducible refine vK ?_ ?_|with_reducible refine vJ ?_ (fun _=>?_)|with_reducible refine vL (fun _=>?_)|split)
theorem zC1(x0:Int)(x1:Int):Lo (qN x0 x1) (zS1 x0 x1):=by
 unfold qN zS1
 repeat (first|with_reducible exact vH|with_reducible refine vK ?_ ?_|with_reducible refine vJ ?_ (fun _=>?_)|with_reducible refine vL (fun _=>?_)|split)
theorem zFy(x0:List Int)(x1:List Int):Lo (zAK x0 x1) (zS2 x0 x1):=by
 unfold zAK zS2
 repeat (first|with_reducible exact vH|with_reducible refine vK ?_ ?_|with_reducible refine vJ ?_ (fun _=>?_)|with_reducible refine vL (fun _=>?_)|split)
theorem zEg(x0:Int)(x1:Int)(s5:(List Int)×Int):Lo (kY x0 x1 s5) (zS3 x0 x1 s5):=by
 unfold kY zS3
 repeat (first|with_reducible exact vH|with_reducible refine vK ?_ ?_|with_reducible refine vJ ?_ (fun _=>?_)|with_reducible refine vL (fun _=>?_)|split)
theorem zEM(x0:Int)(x1:Int)(x2:Int):Lo (zAu x0 x1 x2) (f_Z x0 x1 x2):=by
 unfold zAu f_Z
 repeat (first|with_reducible exact vH|with_reducible apply zEg|with_reducible refine vK ?_ ?_|with_reducible refine vJ ?_ (fun _=>?_)|with_reducible refine vL (fun _=>?_)|split)
theorem zBT(x0:Int)(x1:Int)(x2:Int):Lo (sL x0 x1 x2) (zS4 x0 x1 x2):=by
 unfold sL zS4
 repeat (first|with_reducible exact vH|with_reducible apply zEM|with_reducible refine vK ?_ ?_|with_reducible refine vJ ?_ (fun _=>?_)|with_reducible refine vL (fun _=>?_)|split)
theorem zEN(x0:List Int)(x2:Int)(s5:(List Int)×Int):Lo (zAv x0 x2 s5) (zS5 x0 x2 s5):=by
 unfold zAv zS5
 repeat (first|with_reducible exact vH|with_reducible refine vK ?_ ?_|with_reducible refine vJ ?_ (fun _=>?_)|with_reducible refine vL (fun _=>?_)|split)
theorem zBU(x0:List Int)(x1:Int)(x2:Int):Lo (jW x0 x1 x2) (f_O x0 x1 x2):=by
 unfold jW f_O
 repeat (first|with_reducible exact vH|with_reducible apply zEN|with_reducible refine vK ?_ ?_|with_reducible refine vJ ?_ (fun _=>?_)|with_reducible refine vL (fun _=>?_)|split)
theorem zFz(x0:List (List Int)):Lo (jY x0) (zRb x0):=by
 unfold jY zRb
 repeat (first|with_reducible exact vH|with_reducible refine vK ?_ ?_|with_reducible refine vJ ?_ (fun _=>?_)|with_reducible refine vL (fun _=>?_)|split)
theorem zDw(x0:List zD)(x1:zD)(s1:(List zD)×Bool×Int):Lo (kH x0 x1 s1) (zNo x0 x1 s1):=by
 unfold kH zNo
 repeat (first|with_reducible exact vH|with_reducible apply zFz|with_reducible apply zFy|with_reducible refine vK ?_ ?_|with_reducible refine vJ ?_ (fun _=>?_)|with_reducible refine vL (fun _=>?_)|split)
theorem zEh(x0:List zD)(x1:zD):Lo (kZ x0 x1) (zRc x0 x1):=by
 unfold kZ zRc
 repeat (first|with_reducible exact vH|with_reducible apply zDw|with_reducible refine vK ?_ ?_|with_reducible refine vJ ?_ (fun _=>?_)|with_reducible refine vL (fun _=>?_)|split)
theorem zEO(x1:Int)(x2:Int)(x3:List Int)(s5:Int×Int):Lo (zAw x1 x2 x3 s5) (zS6 x1 x2 x3 s5):=by
 unfold zAw zS6
 repeat (first|with_reducible exact vH|with_reducible apply zBU|with_reducible refine vK ?_ ?_|with_reducible refine vJ ?_ (fun _=>?_)|with_reducible refine vL (fun _=>?_)|split)
theorem zEP(x1:Int)(x2:Int)(x3:List Int)(s30:(List (List Int))×Int×Int):Lo (zAx x1 x2 x3 s30) (zS7 x1 x2 x3 s30):=by
 unfold zAx zS7
 repeat (first|with_reducible exact vH|with_reducible apply zBU|with_reducible refine vK ?_ ?_|with_reducible refine vJ ?_ (fun _=>?_)|with_reducible refine vL (fun _=>?_)|split)
theorem zEQ(x1:Int)(x2:Int)(x3:List Int)(r6:Int)(s25:(List zD)×Int):Lo (zAy x1 x2 x3 r6 s25) (zS8 x1 x2 x3 r6 s25):=by
 unfold zAy zS8
 repeat (first|with_reducible exact vH|with_reducible apply zEP|with_reducible apply zEh|with_reducible refine vK ?_ ?_|with_reducible refine vJ ?_ (fun _=>?_)|with_reducible refine vL (fun _=>?_)|split)
theorem zF0(x0:List zD)(x1:Int)(x2:Int)(x3:List Int):Lo (zAL x0 x1 x2 x3) (f_p x0 x1 x2 x3):=by
 unfold zAL f_p
 repeat (first|with_reducible exact vH|with_reducible apply zEO|with_reducible apply zEQ|with_reducible refine vK ?_ ?_|with_reducible refine vJ ?_ (fun _=>?_)|with_reducible refine vL (fun _=>?_)|split)
theorem zCo(x0:Int)(x1:Int)(x2:Int)(s5:(List zD)×Int):Lo (sS x0 x1 x2 s5) (zS9 x0 x1 x2 s5):=by
 unfold sS zS9
 repeat (first|with_reducible exact vH|with_reducible apply zF0|with_reducible refine vK ?_ ?_|with_reducible refine vJ ?_ (fun _=>?_)|with_reducible refine vL (fun _=>?_)|split)
theorem zC2(x0:Int)(x1:Int)(x2:Int):Lo (qO x0 x1 x2) (f_C x0 x1 x2):=by
 unfold qO f_C
 repeat (first|with_reducible exact vH|with_reducible apply zBT|with_reducible apply zCo|with_reducible refine vK ?_ ?_|with_reducible refine vJ ?_ (fun _=>?_)|with_reducible refine vL (fun _=>?_)|split)
theorem zER{g_f g_f':Int→Int→Option (List (List Int))}(gF:∀y0 y1,Lo (g_f y0 y1) (g_f' y0 y1))(x0:Int)(x1:Int)(s5:(List (List Int))×Int):Lo (zAz g_f x0 x1 s5) (zSA g_f' x0 x1 s5):=by
 unfold zAz zSA
 repeat (first|assumption|with_reducible exact vH|with_reducible apply gF|with_reducible refine vK ?_ ?_|with_reducible refine vJ ?_ (fun _=>?_)|with_reducible refine vL (fun _=>?_)|split)
theorem zF1{g_f g_f':Int→Int→Option (List (List Int))}(gF:∀y0 y1,Lo (g_f y0 y1) (g_f' y0 y1))(x0:Int)(x1:Int):Lo (zAM g_f x0 x1) (b_f g_f' x0 x1):=by
 unfold zAM b_f
 repeat (first|assumption|with_reducible exact vH|with_reducible apply gF|with_reducible apply zER|with_reducible refine vK ?_ ?_|with_reducible refine vJ ?_ (fun _=>?_)|with_reducible refine vL (fun _=>?_)|split)
theorem zB0:∀(n m:Nat),n≤m→ ∀x0 x1,Lo (tZ n x0 x1) (zLR m x0 x1)
 |0,_,_,_,_=>fun r hr=>by simp[tZ]at hr
 |n+1,0,h,_,_=>by omega
 |n+1,m+1,h,x0,x1=>by simp only[tZ,zLR];exact zF1 (zB0 n m (by omega)) x0 x1
theorem zF2(x0:Int)(x1:Int):Lo (zCy x0 x1) (f_f x0 x1):=fun r hr=>zBL 14 fun _ hm=>zB0 _ _ hm x0 x1 r hr
theorem zA1(x0:List Int)(x1:List Int):Lo (uJ x0 x1) (zSB x0 x1):=by
 unfold uJ zSB
 repeat (first|with_reducible exact vH|with_reducible refine vK ?_ ?_|with_reducible refine vJ ?_ (fun _=>?_)|with_reducible refine vL (fun _=>?_)|split)
theorem yP(x0:zD)(x1:zD):Lo (zO x0 x1) (f_h x0 x1):=by
 unfold zO f_h
 repeat (first|with_reducible exact vH|with_reducible apply zAE|with_reducible apply zA1|with_reducible refine vK ?_ ?_|with_reducible refine vJ ?_ (fun _=>?_)|with_reducible refine vL (fun _=>?_)|split)
theorem sA(x1:Int)(s6:(List zD)×Int):Lo (wG x1 s6) (zSC x1 s6):=by
 unfold wG zSC
 repeat (first|with_reducible exact vH|with_reducible apply yP|with_reducible refine vK ?_ ?_|with_reducible refine vJ ?_ (fun _=>?_)|with_reducible refine vL (fun _=>?_)|split)
theorem sB(x1:Int)(x2:Int)(s5:(List zD)×Int):Lo (wH x1 x2 s5) (zSD x1 x2 s5):=by
 unfold wH zSD
 repeat (first|with_reducible exact vH|with_reducible apply sA|with_reducible refine vK ?_ ?_|with_reducible refine vJ ?_ (fun _=>?_)|with_reducible refine vL (fun _=>?_)|split)
theorem sE(x0:List zD)(x1:Int)(x2:Int):Lo (wJ x0 x1 x2) (f_D x0 x1 x2):=by
 unfold wJ f_D
 repeat (first|with_reducible exact vH|with_reducible apply sB|with_reducible refine vK ?_ ?_|with_reducible refine vJ ?_ (fun _=>?_)|with_reducible refine vL (fun _=>?_)|split)
theorem jO(x0:List zD)(x1:Int)(x2:Int)(x3:Int):Lo (xL x0 x1 x2 x3) (zLS x0 x1 x2 x3):=by
 unfold xL zLS
 repeat (first|with_reducible exact vH|with_reducible apply yP|with_reducible refine vK ?_ ?_|with_reducible refine vJ ?_ (fun _=>?_)|with_reducible refine vL (fun _=>?_)|split)
theorem uS(x0:List zD)(x1:Int)(x2:Int)(x3:Int)(x4:Int):Lo (xM x0 x1 x2 x3 x4) (zOi x0 x1 x2 x3 x4):=by
 unfold xM zOi
 repeat (first|with_reducible exact vH|with_reducible apply jO|with_reducible refine vK ?_ ?_|with_reducible refine vJ ?_ (fun _=>?_)|with_reducible refine vL (fun _=>?_)|split)
theorem sC(x0:List zD)(x1:Int)(x2:Int):Lo (yS x0 x1 x2) (zOj x0 x1 x2):=by
 unfold yS zOj
 repeat (first|with_reducible exact vH|with_reducible apply uS|with_reducible refine vK ?_ ?_|with_reducible refine vJ ?_ (fun _=>?_)|with_reducible refine vL (fun _=>?_)|split)
theorem sP(x0:List zD)(x1:Int)(x2:Int):Lo (xT x0 x1 x2) (zRf x0 x1 x2):=by
 unfold xT zRf
 repeat (first|with_reducible exact vH|with_reducible apply sC|with_reducible apply uS|with_reducible refine vK ?_ ?_|with_reducible refine vJ ?_ (fun _=>?_)|with_reducible refine vL (fun _=>?_)|split)
theorem uV(x2:Int)(s17:(List zD)×Int×Int)(s18:Int):Lo (xN x2 s17 s18) (zSF x2 s17 s18):=by
 unfold xN zSF
 repeat (first|with_reducible exact vH|with_reducible apply yP|with_reducible refine vK ?_ ?_|with_reducible refine vJ ?_ (fun _=>?_)|with_reducible refine vL (fun _=>?_)|split)
theorem uW(s20:(List zD)×Int):Lo (xP s20) (zSG s20):=by
 unfold xP zSG
 repeat (first|with_reducible exact vH|with_reducible apply yP|with_reducible refine vK ?_ ?_|with_reducible refine vJ ?_ (fun _=>?_)|with_reducible refine vL (fun _=>?_)|split)
theorem uX(x2:Int)(s22:(List zD)×Int):Lo (xQ x2 s22) (zSH x2 s22):=by
 unfold xQ zSH
 repeat (first|with_reducible exact vH|with_reducible apply yP|with_reducible refine vK ?_ ?_|with_reducible refine vJ ?_ (fun _=>?_)|with_reducible refine vL (fun _=>?_)|split)
theorem uY(x2:Int)(s24:(List zD)×Int):Lo (xR x2 s24) (zSI x2 s24):=by
 unfold xR zSI
 repeat (first|with_reducible exact vH|with_reducible apply yP|with_reducible refine vK ?_ ?_|with_reducible refine vJ ?_ (fun _=>?_)|with_reducible refine vL (fun _=>?_)|split)
theorem uZ(x1:Int)(x2:Int)(s17:(List zD)×Int×Int):Lo (xS x1 x2 s17) (zSJ x1 x2 s17):=by
 unfold xS zSJ
 repeat (first|with_reducible exact vH|with_reducible apply uV|with_reducible apply uW|with_reducible apply uX|with_reducible apply uY|with_reducible refine vK ?_ ?_|with_reducible refine vJ ?_ (fun _=>?_)|with_reducible refine vL (fun _=>?_)|split)
theorem tD(x0:List zD)(x1:Int)(x2:Int):Lo (yE x0 x1 x2) (f_j x0 x1 x2):=by
 unfold yE f_j
 repeat (first|with_reducible exact vH|with_reducible apply uZ|with_reducible refine vK ?_ ?_|with_reducible refine vJ ?_ (fun _=>?_)|with_reducible refine vL (fun _=>?_)|split)
theorem sX(x0:List zD)(x1:Int)(x3:Int)(v1:zD)(v2:zD)(v5:Int)(s1:Int):Lo (wQ x0 x1 x3 v1 v2 v5 s1) (zSK x0 x1 x3 v1 v2 v5 s1):=by
 unfold wQ zSK
 repeat (first|with_reducible exact vH|with_reducible apply yP|with_reducible refine vK ?_ ?_|with_reducible refine vJ ?_ (fun _=>?_)|with_reducible refine vL (fun _=>?_)|split)
theorem sY(x0:List zD)(x1:Int)(x3:Int)(v1:zD)(v2:zD)(r6:Int)(s3:Int):Lo (wR x0 x1 x3 v1 v2 r6 s3) (zSL x0 x1 x3 v1 v2 r6 s3):=by
 unfold wR zSL
 repeat (first|with_reducible exact vH|with_reducible apply yP|with_reducible refine vK ?_ ?_|with_reducible refine vJ ?_ (fun _=>?_)|with_reducible refine vL (fun _=>?_)|split)
theorem sZ(x1:Int)(s13:(List zD)×Int×Int)(s14:Int):Lo (wS x1 s13 s14) (zSM x1 s13 s14):=by
 unfold wS zSM
 repeat (first|with_reducible exact vH|with_reducible apply yP|with_reducible refine vK ?_ ?_|with_reducible refine vJ ?_ (fun _=>?_)|with_reducible refine vL (fun _=>?_)|split)
theorem qA(x1:Int)(s13:(List zD)×Int×Int)(r16:Int)(s16:Int):Lo (wT x1 s13 r16 s16) (zSN x1 s13 r16 s16):=by
 unfold wT zSN
 repeat (first|with_reducible exact vH|with_reducible apply yP|with_reducible refine vK ?_ ?_|with_reducible refine vJ ?_ (fun _=>?_)|with_reducible refine vL (fun _=>?_)|split)
theorem qB(x1:Int)(s13:(List zD)×Int×Int):Lo (wU x1 s13) (zSO x1 s13):=by
 unfold wU zSO
 repeat (first|with_reducible exact vH|with_reducible apply sZ|with_reducible apply qA|with_reducible refine vK ?_ ?_|with_reducible refine vJ ?_ (fun _=>?_)|with_reducible refine vL (fun _=>?_)|split)
theorem qG(x0:List zD)(x1:Int)(x2:Int)(x3:Int):Lo (zG x0 x1 x2 x3) (f_b x0 x1 x2 x3):=by
 unfold zG f_b
 repeat (first|with_reducible exact vH|with_reducible apply sX|with_reducible apply sY|with_reducible apply qB|with_reducible refine vK ?_ ?_|with_reducible refine vJ ?_ (fun _=>?_)|with_reducible refine vL (fun _=>?_)|split)
theorem qQ{g_a g_a':(List zD)→Int→Int→Int→Option (List zD)}(gj:∀y0 y1 y2 y3,Lo (g_a y0 y1 y2 y3) (g_a' y0 y1 y2 y3))(s1:(List zD)×Int×Int×Int×Bool×Bool):Lo (vB g_a s1) (zSP g_a' s1):=by
 unfold vB zSP
 repeat (first|assumption|with_reducible exact vH|with_reducible apply gj|with_reducible apply sE|with_reducible apply sP|with_reducible apply tD|with_reducible apply yP|with_reducible apply qG|with_reducible refine vK ?_ ?_|with_reducible refine vJ ?_ (fun _=>?_)|with_reducible refine vL (fun _=>?_)|split)
theorem qV{g_a g_a':(List zD)→Int→Int→Int→Option (List zD)}(gj:∀y0 y1 y2 y3,Lo (g_a y0 y1 y2 y3) (g_a' y0 y1 y2 y3))(x0:List zD)(x1:Int)(x2:Int)(x3:Int):Lo (vF g_a x0 x1 x2 x3) (b_a g_a' x0 x1 x2 x3):=by
 unfold vF b_a
 repeat (first|assumption|with_reducible exact vH|with_reducible apply gj|with_reducible apply qQ|with_reducible refine vK ?_ ?_|with_reducible refine vJ ?_ (fun _=>?_)|with_reducible refine vL (fun _=>?_)|split)
theorem uK:∀(n m:Nat),n≤m→ ∀x0 x1 x2 x3,Lo (xG n x0 x1 x2 x3) (zLT m x0 x1 x2 x3)
 |0,_,_,_,_,_,_=>fun r hr=>by simp[xG]at hr
 |n+1,0,h,_,_,_,_=>by omega
 |n+1,m+1,h,x0,x1,x2,x3=>by simp only[xG,zLT];exact qV (uK n m (by omega)) x0 x1 x2 x3
theorem qW(x0:List zD)(x1:Int)(x2:Int)(x3:Int):Lo (uR x0 x1 x2 x3) (f_a x0 x1 x2 x3):=fun r hr=>zBL 14 fun _ hm=>uK _ _ hm x0 x1 x2 x3 r hr
theorem sF(x0:List zD):Lo (wK x0) (zSQ x0):=by
 unfold wK zSQ
 repeat (first|with_reducible exact vH|with_reducible apply qW|with_reducible refine vK ?_ ?_|with_reducible refine vJ ?_ (fun _=>?_)|with_reducible refine vL (fun _=>?_)|split)
theorem zCp(x1:Int)(v2:List Int)(s50:(List (Int×Int))×Int)(s51:(List (Int×Int))×Int):Lo (sT x1 v2 s50 s51) (zSR x1 v2 s50 s51):=by
 unfold sT zSR
 repeat (first|with_reducible exact vH|with_reducible apply zBd|with_reducible refine vK ?_ ?_|with_reducible refine vJ ?_ (fun _=>?_)|with_reducible refine vL (fun _=>?_)|split)
theorem zCq(x1:Int)(v2:List Int)(s50:(List (Int×Int))×Int):Lo (sU x1 v2 s50) (zSS x1 v2 s50):=by
 unfold sU zSS
 repeat (first|with_reducible exact vH|with_reducible apply zCp|with_reducible refine vK ?_ ?_|with_reducible refine vJ ?_ (fun _=>?_)|with_reducible refine vL (fun _=>?_)|split)
theorem zCr(x0:Int)(x1:Int)(v2:List Int)(r11:(List (Int×Int)))(r12:Int)(s62:(List zD)×Int):Lo (sV x0 x1 v2 r11 r12 s62) (zSV x0 x1 v2 r11 r12 s62):=by
 unfold sV zSV
 repeat (first|with_reducible exact vH|with_reducible refine vK ?_ ?_|with_reducible refine vJ ?_ (fun _=>?_)|with_reducible refine vL (fun _=>?_)|split)
theorem zCs(x0:Int)(x1:Int)(r1:(List (List Int)))(s45:(List zD)×Int):Lo (sW x0 x1 r1 s45) (zSW x0 x1 r1 s45):=by
 unfold sW zSW
 repeat (first|with_reducible exact vH|with_reducible apply zCq|with_reducible apply zC1|with_reducible apply zCr|with_reducible refine vK ?_ ?_|with_reducible refine vJ ?_ (fun _=>?_)|with_reducible refine vL (fun _=>?_)|split)
theorem zC3(x0:Int)(x1:Int)(x2:Int):Lo (qP x0 x1 x2) (f_k x0 x1 x2):=by
 unfold qP f_k
 repeat (first|with_reducible exact vH|with_reducible apply zF2|with_reducible apply zCs|with_reducible apply sF|with_reducible refine vK ?_ ?_|with_reducible refine vJ ?_ (fun _=>?_)|with_reducible refine vL (fun _=>?_)|split)
end Go.Pl

namespace Go.Pl
open Go Go.Ab Go.Wk
def zPO(x:zD):Int×Int×Mx:=(x.Prime,x.yC,x.Rows)
noncomputable def okM (p n:Int) (x:zD):Bool:=x.Prime==p&&(x.yC==n&&kG x==VU VW)
noncomputable def ckS (p n k:Int):Bool:=
 match qP p n k,qO p n k with
 |some a,VU (b,c)=>c==0&&(a.map zPO==b.map zPO&&(a.all (okM p n)&&decide (a.length≤57)))
 |_,_=>VX
theorem zWx:((ckS 2 1 0&&ckS 2 1 1)&&(ckS 2 2 0&&(ckS 2 2 1&&ckS 2 2 2)))=VW:=by decide+kernel
theorem zU5:ckS 2 3 0=VW:=by decide+kernel
theorem zU6:ckS 2 3 1=VW:=by decide+kernel
theorem zU7:ckS 2 3 2=VW:=by decide+kernel
theorem zU8:ckS 2 3 3=VW:=by decide+kernel
theorem zWy:((ckS 3 1 0&&ckS 3 1 1)&&(ckS 3 2 0&&(ckS 3 2 1&&ckS 3 2 2)))=VW:=by decide+kernel
theorem zU9:ckS 3 3 0=VW:=by decide+kernel
theorem zUA:ckS 3 3 1=VW:=by decide+kernel
theorem zUB:ckS 3 3 2=VW:=by decide+kernel
theorem zUC:ckS 3 3 3=VW:=by decide+kernel
theorem zWz:((ckS 5 1 0&&ckS 5 1 1)&&(ckS 5 2 0&&(ckS 5 2 1&&ckS 5 2 2)))=VW:=by decide+kernel
theorem zUD:ckS 5 3 0=VW:=by decide+kernel
theorem zUE:ckS 5 3 1=VW:=by decide+kernel
theorem zUF:ckS 5 3 2=VW:=by decide+kernel
theorem zUG:ckS 5 3 3=VW:=by decide+kernel
theorem zW0:((ckS 7 1 0&&ckS 7 1 1)&&(ckS 7 2 0&&(ckS 7 2 1&&ckS 7 2 2)))=VW:=by decide+kernel
theorem zUH:ckS 7 3 0=VW:=by decide+kernel
theorem zUI:ckS 7 3 1=VW:=by decide+kernel
theorem zUJ:ckS 7 3 2=VW:=by decide+kernel
theorem zUK:ckS 7 3 3=VW:=by decide+kernel
end Go.Pl

namespace Go.Pl
open Go Go.Ab Go.Wk
def SMs(g:List zD):Prop:=g.length≤1000∧ ∀x∈g,S2 x.Rows∧sm c1 x.Rows≤1000
def cM(x:zD):Nat:=2+sm c1 x.Rows
def mM(k:Int)(x:zD):zD:=zD.mk k (k+1) (m2 (k+2) x.Rows)
theorem SMs.le{g:List zD}(h:SMs g):sm cM g≤1002000:=by have:=zPH (c:=cM) (b:=1002) (xs:=g) (fun x hx=>by have:=(h.2 x hx).2;simp only[cM];omega);have:=h.1;omega
theorem zI4{g:List zD}(h:SMs g):f_P g g=VU VW:=by
 have hl:=h.1;unfold f_P;rw[bne_self_eq_false,zT];have:=yB (body:=zRh g g) (r:=.inl ()) (fun i=>(i:Int)) g.length (fun i hi=>by
  unfold zRh;rw[wD hi,zR,jU hi,bs,bs,zPL (h.2 _ (K7 hi)).1,bs,Jg,zT,zL (by omega) (by omega),bs];rfl) (by
  unfold zRh;simp)
 rw[show((0:Nat):Int)=0 from rfl]at this;rw[this,bs]
theorem zNf{α:Type}{xs:List α}{i:Int}{v w:α}(h:ixO xs i=VU v):ixO (xs.set i.toNat w) i=VU w:=by
 obtain⟨h1,h2⟩:=tW h;unfold ixO;rw[if_pos h1]
 grind
theorem zKB{g:List zD}{k:Int}(h:SMs g)(k0:0≤k)(k1:k≤1000000000):zSX g k=VU (k+sm cM g,mkL mM cM k g):=by
 have pe:=h.le;have hl:=h.1;unfold zSX;rw[zDg (body:=zNp) (m:=mM) (c:=cM) (t:=fun x k=>(rng (k+1)).bind fun v2=>(rng (v2+1)).bind fun v4=>(f_R x.Rows v4).bind fun r6=>VU (r6.1,zD.mk k v2 r6.2)) (fun s=>by
  unfold zNp;cases hi:ixO s.1 s.2.2 with
  |none=>rfl
  |some v1=>
   simp only[bs]
   congr 1
   cases h2:rng (s.2.1+1)with
   |none=>rfl
   |some v2=>
    simp only[bs];rw[zNf hi];simp only[bs];cases h4:rng (v2+1)with
    |none=>rfl
    |some v4=>
     simp only[bs,List.set_set];rw[zNf hi];simp only[bs];cases h6:f_R v1.Rows v4 with
     |none=>rfl
     |some r6=>simp only[bs]) (by omega) k0 (by omega) (fun x hx k' h1 h2=>by
  obtain⟨q1,q2⟩:=h.2 x hx;simp only[cM]at h2 ⊢
  rw[zL (by omega) (by omega),bs,zL (by omega) (by omega),bs,zCK q1 (by omega) (by omega),bs];simp only[mM];rw[show k'+1+1=k'+2 by omega,show k'+2+(sm c1 x.Rows:Int)=k'+((2+sm c1 x.Rows:Nat):Int)by omega]),bs]
theorem zKC{g:List zD}{k:Int}(h:SMs g)(k0:0≤k)(k1:k≤1000000000):zSY (mkL mM cM k g) k=VU (k+sm cM g):=by
 have pe:=h.le;have hl:=h.1;refine zIi (body:=zNq (mkL mM cM k g)) (m:=mM) (c:=cM) (t:=fun x k=>cond (x.Prime != k) (VU (-1)) ((rng (k+1)).bind fun v2=>cond (x.yC != v2) (VU (-1)) ((rng (v2+1)).bind fun v4=>zSr x.Rows v4))) rfl (fun s=>by
  unfold zNq;cases hi:ixO (mkL mM cM k g) s.2 with
  |none=>rfl
  |some v1=>
   simp only[bs]
   congr 1
   cases hc:v1.Prime != s.1 with
   |true=>simp only[zR,bs];rfl
   |false=>
    simp only[zT];cases h2:rng (s.1+1)with
    |none=>rfl
    |some v2=>
     simp only[bs];cases eP:v1.yC != v2 with
     |true=>simp only[zR,bs];rfl
     |false=>simp only[zT];cases h4:rng (v2+1)with
      |none=>rfl
      |some v4=>rfl) (by omega) k0 (by omega) (fun x hx k' h1 h2=>by
  obtain⟨q1,q2⟩:=h.2 x hx;simp only[cM]at h2 ⊢
  simp only[mM];rw[bne_self_eq_false,zT,zL (by omega) (by omega),bs,bne_self_eq_false,zT,zL (by omega) (by omega),bs,show k'+1+1=k'+2 by omega,zKc q1 (by omega) (by omega)];rw[show k'+2+(sm c1 x.Rows:Int)=k'+((2+sm c1 x.Rows:Nat):Int)by omega])
structure zNg (p:Int) (D:Nat) (k:Int) (a:List zD):Prop where
 impl:f_k p D k=VU a
 spec:f_C p D k=VU (a,0)
 ok:∀u∈a,u.Prime=p∧u.yC=(D:Int)∧zPN u
 len:a.length≤57
theorem zPP{a b:List zD}(h:a.map zPO=b.map zPO):a=b:=by refine(List.map_inj_right (fun x y pK=>?_)).1 h;cases x;cases y;simp only[zPO,Q2.injEq]at pK;obtain⟨rfl,rfl,rfl⟩:=pK;rfl
theorem zPQ{p k:Int}{D:Nat}(h:ckS p D k=VW):∃a,zNg p D k a:=by
 unfold ckS at h;split at h
 ·rename_i a b c ha hb
  simp only[J1,beq_iff_eq,decide_eq_true_eq]at h;obtain⟨rfl,h2,h3,h4⟩:=h;obtain rfl:=zPP h2;refine⟨a,zC3 _ _ _ _ ha,zC2 _ _ _ _ hb,fun u hu=>?_,h4⟩;have:=Jy.1 h3 u hu;simp only[okM,J1,beq_iff_eq]at this;obtain⟨q1,q2,q3⟩:=this;have q4:=zDv _ _ q3;refine⟨q1,q2,?_⟩;rcases zHA (u:=u)with⟨_,e⟩|⟨e,_⟩
  ·exact e
  ·rw[q4]at e;cases e
 ·cases h
theorem zW1{p:Int}{D k:Nat}(hp:Prime p)(h1:1≤D)(h3:D≤3)(hk:k≤D):∃a,zNg p D k a:=by
 refine zPQ ?_;have e2:=zWx;have e3:=zWy;have e5:=zWz;have e7:=zW0;simp only[J1]at e2 e3 e5 e7;obtain rfl|rfl|rfl:D=1∨D=2∨D=3:=by omega
 ·obtain rfl|rfl:k=0∨k=1:=by omega
  ·rcases hp with rfl|rfl|rfl|rfl
   ·exact e2.1.1
   ·exact e3.1.1
   ·exact e5.1.1
   ·exact e7.1.1
  ·rcases hp with rfl|rfl|rfl|rfl
   ·exact e2.1.2
   ·exact e3.1.2
   ·exact e5.1.2
   ·exact e7.1.2
 ·obtain rfl|rfl|rfl:k=0∨k=1∨k=2:=by omega
  ·rcases hp with rfl|rfl|rfl|rfl
   ·exact e2.2.1
   ·exact e3.2.1
   ·exact e5.2.1
   ·exact e7.2.1
  ·rcases hp with rfl|rfl|rfl|rfl
   ·exact e2.2.2.1
   ·exact e3.2.2.1
   ·exact e5.2.2.1
   ·exact e7.2.2.1
  ·rcases hp with rfl|rfl|rfl|rfl
   ·exact e2.2.2.2
   ·exact e3.2.2.2
   ·exact e5.2.2.2
   ·exact e7.2.2.2
 ·obtain rfl|rfl|rfl|rfl:k=0∨k=1∨k=2∨k=3:=by omega
  ·rcases hp with rfl|rfl|rfl|rfl
   ·exact zU5
   ·exact zU9
   ·exact zUD
   ·exact zUH
  ·rcases hp with rfl|rfl|rfl|rfl
   ·exact zU6
   ·exact zUA
   ·exact zUE
   ·exact zUI
  ·rcases hp with rfl|rfl|rfl|rfl
   ·exact zU7
   ·exact zUB
   ·exact zUF
   ·exact zUJ
  ·rcases hp with rfl|rfl|rfl|rfl
   ·exact zU8
   ·exact zUC
   ·exact zUG
   ·exact zUK
theorem zFN{α:Type}{B:α→Bool}{a:List α}{i:Nat}(hi:i<a.length):(a.take (i+1)).filter B=(a.take i).filter B++(if B a[i]then[a[i]]else[]):=by
 rw[Jk hi,Uk]
 congr 1
 by_cases h:B a[i]
 ·simp[h]
 ·simp[h]
theorem zPR{m:zS}{B:zD→Bool}{a acc:List zD}(hb:∀u∈a,f_B m u=VU (B u))(hl:acc.length+a.length≤100000):zI (zOm m a) (acc,0)=VU (acc++a.filter B):=by
 have:=yB (body:=zOm m a) (r:=acc++a.filter B) (fun i=>(acc++(a.take i).filter B,(i:Int))) a.length (fun i hi=>by
  unfold zOm;have h1:((a.take i).filter B).length≤i:=Lh (Hg _ _) (by simp;omega);simp only
  rw[wD hi,zR,jU hi,bs,hb _ (K7 hi),bs,zFN hi]
  by_cases h:B a[i]
  ·rw[h,zR,vP (by simp only[Ji,K5,G5];omega),bs,zL (by omega) (by omega),bs]
   simp
  ·rw[eq_false_of_ne_true h,zT,zL (by omega) (by omega),bs]
   simp) (by
  unfold zOm;simp)
 simpa using this
theorem zPS{m:zS}{B:zD→Bool}{a acc:List zD}{c:Int}(hb:∀u∈a,zOg m u.Rows=VU (B u))(hl:acc.length+a.length≤100000):zI (zOh m (a,c)) (acc,0)=VU (acc++a.filter B):=by
 have:=yB (body:=zOh m (a,c)) (r:=acc++a.filter B) (fun i=>(acc++(a.take i).filter B,(i:Int))) a.length (fun i hi=>by
  unfold zOh;have h1:((a.take i).filter B).length≤i:=Lh (Hg _ _) (by simp;omega);simp only
  rw[wD hi,zR,jU hi,bs,hb _ (K7 hi),bs,zFN hi]
  by_cases h:B a[i]
  ·rw[h,zR,bs,vP (by simp only[Ji,K5,G5];omega),bs,zL (by omega) (by omega),bs]
   simp
  ·rw[eq_false_of_ne_true h,zT,zL (by omega) (by omega),bs]
   simp) (by
  unfold zOh;simp)
 simpa using this
theorem zDx{x:SPr}{m:zS}(hx:zD9 x)(hm:zH0 m):∃g k,f_w x m=VU (g,k)∧f_t x m=VU (g,k)∧SMs g:=by
 have hl:x.zF.length≤1048576:=hx.1;have dS:=S3.len hm;unfold f_w f_t;rcases(zH6 (m:=m) hl).both (zH7 (m:=m) hl dS)with⟨s1,i1,hM⟩|⟨s1,i1,hM⟩
 ·obtain⟨hc,D,hD,_⟩:=hM
  have h6:=hc.1.os.1;have h3:=hD.d3;have h1:=hD.d1;simp only[s1,i1,bs,Jg,zT]
  classical
  let B:zD→Bool:=fun u=>decide (Inv m x.zF.length D u.Rows)
  have hB:∀u,Fit m D u→f_B m u=VU (B u)∧zOg m u.Rows=VU (B u):=fun u hF=>by
   rcases(zLF hD h6 hF).both (zLE hD h6 hF)with⟨s3,i3,h⟩|⟨s3,i3,h⟩
   ·rw[s3,i3];simp[B,h]
   ·rw[s3,i3];simp[B,h]
  have key:∀k:Nat,∃a,k≤D→zNg m.Prime D k a:=fun k=>by
   by_cases hk:k≤D
   ·obtain⟨a,ha⟩:=zW1 hD.p h1 h3 hk
    exact⟨a,fun _=>ha⟩
   ·exact⟨[],fun h=>absurd h hk⟩
  let L:Nat→List zD:=fun k=>(key k).choose
  have hL:∀k,k≤D→zNg m.Prime D (k:Int) (L k):=fun k=>(key k).choose_spec
  have fit:∀k,k≤D→ ∀u∈L k,Fit m D u:=fun k hk u hu=>by obtain⟨q1,q2,q3⟩:=(hL k hk).ok u hu;exact(zRQ hD).1 ⟨q3,q1,by rw[q2,hD.d]⟩
  let G:Nat→List zD:=fun k=>((Jq k).map L).flatten.filter B
  have gs:∀k,G (k+1)=G k++(L k).filter B:=fun k=>by simp only[G,Ll,H6,List.flatten_append,Uk,Jh,G4,List.flatten_cons,List.flatten_nil,Ja]
  have gl:∀k,k≤D+1→(G k).length≤57*k:=fun k=>by
   induction k with
   |zero=>intro _;simp[G]
   |succ k ih=>
    intro hk;have e1:=ih (by omega);have e2:=(hL k (by omega)).len;have e3:=Hg B (L k);rw[gs,Ji];omega
  have mem:∀k,k≤D+1→ ∀u∈G k,Fit m D u:=fun k=>by
   induction k with
   |zero=>intro _ u hu;simp[G]at hu
   |succ k ih=>
    intro hk u hu;rw[gs,Ka]at hu;rcases hu with hu|hu
    ·exact ih (by omega) u hu
    ·exact fit k (by omega) u (Qd.1 hu).1
  have si:=yB (body:=zRg m ((D+1:Nat):Int)) (r:=G (D+1)) (fun k=>(G k,(k:Int))) (D+1) (fun k hk=>by
   unfold zRg;have e1:=gl k (by omega);have e2:=(hL k (by omega)).len;simp only
   rw[wD hk,zR,hD.d,(hL k (by omega)).impl,bs,zPR (B:=B) (fun u hu=>(hB u (fit k (by omega) u hu)).1) (by omega),bs,zL (by omega) (by omega),bs,gs];rfl) (by
   unfold zRg;simp)
  have ss:=yB (body:=zRd m) (r:=G (D+1)) (fun k=>(G k,(k:Int))) (D+1) (fun k hk=>by
   unfold zRd;have e1:=gl k (by omega);have e2:=(hL k (by omega)).len;simp only
   rw[hD.d,VZ (by omega),zR,(hL k (by omega)).spec,bs,zPS (B:=B) (fun u hu=>(hB u (fit k (by omega) u hu)).2) (by omega),bs,zL (by omega) (by omega),bs,gs];rfl) (by
   unfold zRd;simp only
   rw[hD.d,VY (by omega),zT])
  have g0:G 0=[]:=rfl;simp only[g0]at si ss;rw[show((0:Nat):Int)=0 from rfl]at si ss;rw[ss,bs,hD.d,zL (by omega) (by omega),bs,show((D:Int)+1)=((D+1:Nat):Int)by omega,si,bs];refine⟨_,_,rfl,rfl,?_,fun u hu=>?_⟩
  ·have:=gl (D+1) (by omega)
   omega
  ·obtain⟨_,_,pv,hR⟩:=mem _ (Jf _) u hu
   have e1:=hR.len_le;have e2:=zPH (c:=c1) (b:=3) (xs:=u.Rows) (fun r hr=>by
    obtain⟨i,hi,rfl⟩:=Kh.1 hr;have:=(hR.row i hi).1
    grind)
   exact⟨by simp only[S2,c2];omega,by omega⟩
 ·have hn:SMs []:=⟨by simp,by simp⟩
  simp only[s1,i1,bs,Jv,zR];exact⟨_,_,rfl,rfl,hn⟩
theorem zES(x0:SPr)(x1:zS)(v0:zMN x0)(v1:zRG x1)
  (h:zD9 x0→zH0 x1→ ∃g k,f_w x0 x1=VU (g,k)∧f_t x0 x1=VU (g,k)∧SMs g):zRi x0 x1=VU VW:=by
 unfold zRi;rw[zGV v0 (by decide) (by decide),bs];rcases zMO (c:=zKd x0) (b:=1048576) (by decide) (by decide)with e|⟨e,a0,b0,w0⟩<;>rw[e]
 ·rfl
 rw[zT,zPv v1 a0 b0,bs];rcases zMO (c:=zPu x1) a0 b0 with e|⟨e,a1,b1,w1⟩<;>rw[e]
 ·rfl
 have s0:zD9 x0:=zD9.of w0;have s1:zH0 x1:=zH0.of w1;obtain⟨g,k,hs,hi,sg⟩:=h s0 s1;have t0:=zNd s0;have q1:=zLo (x:=x1.zP);have w1':=w1;simp only[zPu]at w1';have tg:=SMs.le sg;rw[zT,zGW s0,bs,zPw s1,bs];simp only[bs];rw[hs,bs,hi,bs];simp only
 rw[zI4 sg,bs];simp only[Jg,zT,bne_self_eq_false];rw[zGX s0,bs,Jg,zT,zPx s1,bs,Jg,zT,zDs s0 (by decide) (by decide),bs];simp only
 rw[zLp s1 (by omega) (by omega),bs];simp only
 rw[VY (by omega),zT,bs,Jg,zT];rw[zKB sg (by decide) (by decide),bs];simp only
 rw[zKC sg (by decide) (by decide),bs,VY (by omega),zT,bne_self_eq_false,zT,bs];simp only
 rw[zI4 sg,bs,Jg,zT,bne_self_eq_false,zT,bs,VY (by omega),zT,bne_self_eq_false,zT]
theorem zDy(x0:SPr)(x1:zS)(v0:zMN x0)(v1:zRG x1):zRi x0 x1=VU VW:=
 zES x0 x1 v0 v1 zDx
end Go.Pl
