/- x -/
import Derived.Test.YtchnmobojdcikaaGreatQPlB
open Bool renaming not_true→J5,not_false→Jr
open Int renaming mul_emod→J6,emod_emod→Je,mul_zero→Jw,emod_lt_of_pos→Jx,emod_eq_of_lt→K5,emod_nonneg→K8,mul_assoc→K9,mul_comm→Kk,one_mul→Kw,tmod_eq_emod_of_nonneg→L2,mul_le_mul→L3,zero_mul→Ld,natCast_mul→Lj,zero_emod→H8,mul_nonneg→Hn
open Nat renaming zero_add→J8,mul_le_mul→Jj,mul_comm→H5,div_lt_of_lt_mul→Qi
open List renaming append_assoc→Jh,length_append→Ji,mem_range→Jp,nil_append→Jy,range_succ→Kj,length_singleton→Lf,map_congr_left→Lt,length_nil→H7
open Option renaming some→Lw
open Prod renaming mk→Ja1
open Option renaming some→dq,none→dt
open Bool renaming true→du,false→dv
namespace Go.Pl
open Go Go.Ab Go.Wk Go.Pc
theorem zFC{D E a b:Nat}{v:List Int}(ha:a<D)(hb:b<E):ent (sS D E v) a b=at0 v (a*E+b):=by rw[ent,sS,yF ha,zK hb]
section
variable {x:SPr}{m q:zC}{D E:Nat} (h:IsM x m D) (h':IsM x q E) (gG:q.Prime=m.Prime) {B C:Nat→Mx} (hB:Ivs x m D B) (hC:Ivs x q E C)
 include h h' gG hB hC
theorem zKI{v w:List Int}(hvw:∀a b,a<D→b<E→at0 v (a*E+b)=at0 w (b*D+a)):zOC x (dua x q E C) (dua x m D B) E D w↔zOC x m q D E v:=by
 have h7:=h.ok.p.pos;have hCm:∀g,g<x.zA.length→Mat m.Prime E (C g):=fun g hg=>gG▸hC.mat g hg
 have hCr:∀g,g<x.zA.length→PM m.Prime E (q.zB.getD g []) (C g)=idM E:=fun g hg=>gG▸hC.r g hg
 have hCl:∀g,g<x.zA.length→PM m.Prime E (C g) (q.zB.getD g [])=idM E:=fun g hg=>gG▸hC.l g hg
 have hQm:∀g,g<x.zA.length→Mat m.Prime E (q.zB.getD g []):=fun g hg=>gG▸h'.ok.mat g hg
 have eq:∀g,g<x.zA.length→(dua x q E C).zB.getD g []=trM E (C g):=fun g hg=>tI hg
 have em:∀g,g<x.zA.length→(dua x m D B).zB.getD g []=trM D (B g):=fun g hg=>tI hg
 have ep:(dua x q E C).Prime=m.Prime:=gG;have mid:zOC x (dua x q E C) (dua x m D B) E D w↔ ∀g,g<x.zA.length→ ∀l,l<D→yL m.Prime E ((sS D E v).getD l []) (C g)=cmb m.Prime D E ((B g).getD l []) (sS D E v):=by
  have e1:∀g,g<x.zA.length→ ∀k l,k<E→l<D→at0 (yL m.Prime E ((sS D E v).getD l []) (C g)) k=(S E fun a=>ent (trM E (C g)) k a*at0 w (a*D+l))%m.Prime:=fun g hg k l hk hl=>by
   rw[yL,zK hk]
   congr 1
   refine yC fun a ha=>?_
   show ent (sS D E v) l a*_=_;rw[zFC hl ha,hvw l a hl ha,zBf hk ha,Kk]
  have e2:∀g,g<x.zA.length→ ∀k l,k<E→l<D→at0 (cmb m.Prime D E ((B g).getD l []) (sS D E v)) k=(S D fun b=>at0 w (k*D+b)*ent (trM D (B g)) b l)%m.Prime:=fun g hg k l hk hl=>by
   rw[cmb,zK hk]
   congr 1
   refine yC fun b hb=>?_
   rw[zFC hb hk,hvw b k hb hk,zBf hb hl,Kk]
  constructor
  ·intro g a ha l hl
   have r1:(yL m.Prime E ((sS D E v).getD l []) (C a)).length=E:=zO _ _;have r2:(cmb m.Prime D E ((B a).getD l []) (sS D E v)).length=E:=zO _ _;rw[vA r1,vA r2];refine yK fun k hk=>?_
   have:=g a ha k l hk hl;rw[eq a ha,em a ha,ep]at this;rw[e1 a ha k l hk hl,e2 a ha k l hk hl,this]
  ·intro g a ha k l hk hl
   rw[eq a ha,em a ha,ep,←e1 a ha k l hk hl,←e2 a ha k l hk hl,g a ha l hl]
 rw[mid,zNL];constructor
 ·intro g a ha k hk
  exact zKH h7.1 (h.ok.mat a ha) (hCm a ha) (hB.r a ha) (hCl a ha) (fun b hb=>g a ha b hb) hk
 ·intro g a ha l hl
  exact(zKH h7.1 (hB.mat a ha) (hQm a ha) (hB.l a ha) (hCr a ha) (fun b hb=>(g a ha b hb).symm) hl).symm
theorem zMb:∃k:Int,f_j x m q=dq (k,0)∧f_g x m q=dq (k,0)∧f_g x (dua x q E C) (dua x m D B)=dq (k,0):=by
 have h7:=h.ok.p.pos;have h1:=h.ok.d1;have k1:=h'.ok.d1;have cy:D*E≤3*3:=Jj h.ok.d3 h'.ok.d3;have hED:E*D=D*E:=H5 _ _;obtain⟨K1,p1,a1,a2,a3,a4⟩:=zEK h h' gG;obtain⟨K2,p2,b1,b2,_,b4⟩:=zEK (zCP h' hC) (zCP h hB) (show m.Prime=q.Prime from gG.symm);rw[show(dua x q E C).Prime=m.Prime from gG,hED]at b1 b2;have dm:∀{D E i:Nat},1≤E→i<D*E→i/E<D∧i%E<E∧i/E*E+i%E=i:=fun{D E i} hE hi=>⟨Qi (by rw[H5];exact hi),Nat.mod_lt _ hE,by rw[H5];exact Nat.div_add_mod i E⟩
 have bk:∀{D a b:Nat},b<D→(a*D+b)/D=a∧(a*D+b)%D=b:=fun hb=>zJb hb
 have s1:∀i,i<D*E→i%E*D+i/E<D*E:=fun i hi=>by obtain⟨a,b,_⟩:=dm k1 hi;have:=uH (D:=D) b;omega
 have t1:∀i,i<D*E→i%D*E+i/D<D*E:=fun i hi=>by obtain⟨a,b,_⟩:=dm (D:=E) (E:=D) (i:=i) h1 (by omega);have:=uH (D:=E) b;omega
 have st:∀i,i<D*E→(i%D*E+i/D)%E*D+(i%D*E+i/D)/E=i:=fun i hi=>by obtain⟨a,b,c⟩:=dm (D:=E) (E:=D) h1 (show i<E*D by omega);rw[(bk a).1,(bk a).2,c]
 have ts:∀i,i<D*E→(i%E*D+i/E)%D*E+(i%E*D+i/E)/D=i:=fun i hi=>by obtain⟨a,b,c⟩:=dm (D:=D) (E:=E) k1 hi;rw[(bk a).1,(bk a).2,c]
 have toV:∀y,Sp m.Prime (D*E) K2 y→Sp m.Prime (D*E) K1 (mkv (D*E) fun i=>at0 y (i%E*D+i/E)):=fun y hy=>by rw[a2];refine(zKI h h' gG hB hC (w:=y) fun a b ha hb=>?_).1 ((b2 y).1 hy);have:=uH (D:=E) ha;rw[zK (by omega),(bk hb).1,(bk hb).2]
 have toW:∀y,Sp m.Prime (D*E) K1 y→Sp m.Prime (D*E) K2 (mkv (D*E) fun i=>at0 y (i%D*E+i/D)):=fun y hy=>by rw[b2];refine(zKI h h' gG hB hC (v:=y) fun a b ha hb=>?_).2 ((a2 y).1 hy);have:=uH (D:=D) hb;rw[zK (by omega),(bk ha).1,(bk ha).2]
 have l1:K2.length≤K1.length:=zNK h.ok.p (by omega) a1 b1 (s:=fun i=>i%E*D+i/E) (t:=fun i=>i%D*E+i/D) s1 (fun i hi=>⟨t1 i hi,st i hi⟩) toV toW;have l2:K1.length≤K2.length:=zNK h.ok.p (by omega) b1 a1 (s:=fun i=>i%D*E+i/D) (t:=fun i=>i%E*D+i/E) t1 (fun i hi=>⟨s1 i hi,ts i hi⟩) toW toV;have e:K2.length=K1.length:=by omega
 rw[e]at b4;exact⟨_,a3,a4,b4⟩
end
end Go.Pl

namespace Go.Pl
open Go Go.Ab Go.Wk Go.Pc
def krr(p:Int)(D E:Nat)(A B:Mx)(k r:Nat):List Int:=(gl D fun i=>mkv E fun j=>(ent A k i*ent B r j)%p).flatten
def kr(p:Int)(D E:Nat)(A B:Mx):Mx:=(gl D fun k=>gl E fun r=>krr p D E A B k r).flatten
theorem zZK{f g:Nat→Int}{D E:Nat}:(S D fun a=>S E fun b=>f a*g b)=S D f*S E g:=by rw[←zFc];exact yC fun a _=>by rw[vK]
section
variable {p:Int}{D E:Nat}{A B A' B':Mx}
theorem zTL{k r:Nat}:(krr p D E A B k r).length=D*E:=kW fun _ _=>zO _ _
theorem zMc:(kr p D E A B).length=D*E:=kW fun _ _=>yG
theorem zMd{k r:Nat}(hk:k<D)(hr:r<E):(kr p D E A B).getD (k*E+r) []=krr p D E A B k r:=by rw[kr,zB6 (F:=fun k=>gl E fun r=>krr p D E A B k r) (L:=E) (fun _ _=>yG) hk hr,yF hr]
theorem zEL{k r i j:Nat}(hk:k<D)(hr:r<E)(hi:i<D)(hj:j<E):ent (kr p D E A B) (k*E+r) (i*E+j)=(ent A k i*ent B r j)%p:=by rw[ent,zMd hk hr,at0,krr,zB6 (F:=fun i=>mkv E fun j=>(ent A k i*ent B r j)%p) (fun _ _=>zO _ _) hi hj];exact zK hj
variable (hp:2≤p) (hE:1≤E)
 include hp hE
theorem zMe:Mat p (D*E) (kr p D E A B):=by refine⟨zMc,fun a ha=>?_⟩;obtain⟨k,r,hk,hr,rfl⟩:=qE hE ha;rw[zMd hk hr];refine⟨zTL,fun b hb=>?_⟩;obtain⟨i,j,hi,hj,rfl⟩:=qE hE hb;have e:=zEL (p:=p) (A:=A) (B:=B) hk hr hi hj;rw[ent,zMd hk hr]at e;rw[e];have e1:=K8 (ent A k i*ent B r j) (show p≠0 by omega);have e2:=Jx (ent A k i*ent B r j) (show 0<p by omega);omega
theorem zQI{M N:Mx}(hM:Mat p (D*E) M)(hN:Mat p (D*E) N)(h:∀k r i j,k<D→r<E→i<D→j<E→ent M (k*E+r) (i*E+j)=ent N (k*E+r) (i*E+j)):M=N:=by
 have _:=hp;refine zFB hM hN fun a b ha hb=>?_
 obtain⟨k,r,hk,hr,rfl⟩:=qE hE ha;obtain⟨i,j,hi,hj,rfl⟩:=qE hE hb;exact h k r i j hk hr hi hj
theorem zWN(hA:Mat p D A)(hB:Mat p E B):PM p (D*E) (kr p D E A B) (kr p D E A' B')=kr p D E (PM p D A A') (PM p E B B'):=by
 refine zQI hp hE (jR (by omega) zMc) (zMe hp hE) fun k r i j hk hr hi hj=>?_
 have h1:=uH (D:=E) hk;have h2:=uH (D:=E) hi;rw[zGU zMc (by omega) (by omega),zEL hk hr hi hj,zGU hA.1 hk hi,zGU hB.1 hr hj,zJf];have t:∀a,a<D→(S E fun b=>ent (kr p D E A B) (k*E+r) (a*E+b)*ent (kr p D E A' B') (a*E+b) (i*E+j))%p=(S E fun b=>(ent A k a*ent A' a i)*(ent B r b*ent B' b j))%p:=fun a ha=>wY fun b hb=>by
  rw[zEL hk hr ha hb,zEL ha hb hi hj,←J6]
  congr 1
  rw[K9,K9,←K9 (ent B r b),Kk (ent B r b),K9 (ent A' a i)]
 rw[wY t,zZK,←J6]
theorem zYU(hD:1≤D):kr p D E (idM D) (idM E)=idM (D*E):=by
 have _:=hD;refine zQI hp hE (zMe hp hE) (uV hp) fun k r i j hk hr hi hj=>?_
 have h1:=uH (D:=E) hk;have h2:=uH (D:=E) hi;rw[zEL hk hr hi hj,ent,vR hk,zK hi,ent,vR hr,zK hj,ent,vR (by omega),zK (by omega)]
 by_cases e:i=k
 ·by_cases e2:j=r
  ·rw[if_pos e,if_pos e2,if_pos (by rw[e,e2])]
   exact K5 (by omega) (by omega)
  ·rw[if_neg e2,if_neg (show¬i*E+j=k*E+r from fun q=>e2 (by subst e;omega)),Jw,H8]
 ·rw[if_neg e,if_neg (show¬i*E+j=k*E+r from fun q=>e (by have a:=(zJb (q:=i) hj).1;have b:=(zJb (q:=k) hr).1;rw[q,b]at a;exact a.symm)),Ld,H8]
end
section
variable {x:SPr}{m q:zC}{D E:Nat} (h:IsM x m D) (h':IsM x q E) (gG:q.Prime=m.Prime)
def ten(x:SPr)(m q:zC)(D E:Nat):zC:=⟨m.Prime,((D*E:Nat):Int),gl x.zA.length fun g=>kr m.Prime D E (m.zB.getD g []) (q.zB.getD g [])⟩
 include h h' gG
 omit gG in
theorem zKJ{ws:List Nat}(hw:∀w∈ws,w<x.zA.length):∀(M N:Mx),Mat m.Prime D M→Mat m.Prime E N→wM m.Prime (D*E) (ten x m q D E).zB ws (kr m.Prime D E M N)=kr m.Prime D E (wM m.Prime D m.zB ws M) (wM m.Prime E q.zB ws N):=by
  have h7:=h.ok.p.pos;have k1:=h'.ok.d1
  induction ws with
  |nil=>intro M N _ _;rfl
  |cons w ws ih=>
    intro M N hM hN;have fF:=hw w (by simp);show wM _ _ _ ws (PM _ _ (kr _ _ _ M N) ((ten x m q D E).zB.getD w []))=_;rw[show(ten x m q D E).zB.getD w []=kr m.Prime D E (m.zB.getD w []) (q.zB.getD w [])from tI fF,zWN h7.1 k1 hM hN];exact ih (fun a ha=>hw a (by simp[ha])) _ _ (jR (by omega) hM.1) (jR (by omega) hN.1)
theorem zTM(h3:D*E≤3):IsM x (ten x m q D E) (D*E):=by
 have h7:=h.ok.p.pos;have d1:=h.ok.d1;have k1:=h'.ok.d1;have h1:1*1≤D*E:=Jj d1 k1;have gH:MOk x.zA.length (ten x m q D E) (D*E):=⟨h.ok.p,rfl,by omega,h3,yG,fun g hg=>by show Mat m.Prime (D*E) ((gl x.zA.length fun g=>kr m.Prime D E (m.zB.getD g []) (q.zB.getD g [])).getD g []);rw[tI hg];exact zMe h7.1 k1⟩
 refine⟨h.gr,gH,(tP h.gr.1 gH).1 fun r hr=>?_⟩;obtain⟨⟨g1,_⟩,g2,_⟩:=zB1 h.gr.1 hr;have hA:=(tP h.gr.1 h.ok).2 h.rel r hr;have hQ:=(tP h'.gr.1 h'.ok).2 h'.rel r hr;rw[gG]at hQ;have hI:=uV (p:=m.Prime) (D:=D) h7.1;have hJ:=uV (p:=m.Prime) (D:=E) h7.1;show wM m.Prime (D*E) _ r.1 (idM (D*E))=wM m.Prime (D*E) _ r.2 (idM (D*E));rw[←zYU (p:=m.Prime) h7.1 k1 d1,zKJ h h' g1 _ _ hI hJ,zKJ h h' g2 _ _ hI hJ,hA,hQ]
theorem zTN{v:List Int}{g i j:Nat}(hg:g<x.zA.length)(hi:i<D)(hj:j<E):at0 (yL m.Prime (D*E) v ((ten x m q D E).zB.getD g [])) (i*E+j)=(S D fun k=>ent (m.zB.getD g []) k i*at0 (yL m.Prime E ((sS D E v).getD k []) (q.zB.getD g [])) j)%m.Prime:=by
 have _:=h;have _:=h';have _:=gG;have h2:=uH (D:=E) hi;rw[show(ten x m q D E).zB.getD g []=kr m.Prime D E (m.zB.getD g []) (q.zB.getD g [])from tI hg,yL,zK (by omega),zJf];refine wY fun k hk=>?_
 rw[yL,zK hj,J6 (ent _ k i),Je,←J6,←vK];refine wY fun r hr=>?_
 rw[zEL hk hr hi hj,J6,Je,←J6]
 congr 1
 show _=_*(ent (sS D E v) k r*_);rw[zFC hk hr,←K9,←K9,Kk (at0 v _)]
end
end Go.Pl

namespace Go.Pl
open Go Go.Ab Go.Wk Go.Pc
theorem zQJ{n l j:Nat}{F:Nat→List Int}(h:l<n):ent (gl n F) l j=at0 (F l) j:=by rw[ent,yF h]
theorem zQK{p:Int}{N D:Nat}{c:List Int}{U V:Mx}(h:∀l,l<N→ ∀j,j<D→ent U l j%p=ent V l j%p):cmb p N D c U=cmb p N D c V:=yK fun j hj=>wY fun l hl=>by rw[J6,h l hl j hj,←J6]
section
variable {x:SPr}{m q:zC}{D E:Nat} (h:IsM x m D) (h':IsM x q E) (gG:q.Prime=m.Prime) {B:Nat→Mx} (hB:Ivs x m D B)
 include h h' gG hB
theorem zNM{v:List Int}:(∀g,g<x.zA.length→ ∀j,j<D*E→at0 (yL m.Prime (D*E) v ((ten x (dua x m D B) q D E).zB.getD g [])) j%m.Prime=at0 v j%m.Prime)↔zOC x m q D E v:=by
 have h7:=h.ok.p.pos;have k1:=h'.ok.d1;have em:∀g,g<x.zA.length→(dua x m D B).zB.getD g []=trM D (B g):=fun g hg=>tI hg
 have row:∀g k,k<D→Row m.Prime E ((gl D fun k=>yL m.Prime E ((sS D E v).getD k []) (q.zB.getD g [])).getD k []):=fun g k hk=>by rw[yF hk];exact uK (by omega)
 have e1:∀g,g<x.zA.length→ ∀i j,i<D→j<E→at0 (yL m.Prime (D*E) v ((ten x (dua x m D B) q D E).zB.getD g [])) (i*E+j)=at0 (cmb m.Prime D E ((B g).getD i []) (gl D fun k=>yL m.Prime E ((sS D E v).getD k []) (q.zB.getD g []))) j:=fun g hg i j hi hj=>by
  have e:=zTN (zCP h hB) h' gG (v:=v) hg hi hj;rw[show(dua x m D B).Prime=m.Prime from rfl]at e;rw[e,cmb,zK hj]
  congr 1
  refine yC fun k hk=>?_
  rw[em g hg,zBf hk hi,zQJ hk]
 have e2:∀i j,i<D→j<E→at0 v (i*E+j)=ent (sS D E v) i j:=fun i j hi hj=>(zFC hi hj).symm
 have tK:∀(g:Nat){A C:Mx},A.length=D→PM m.Prime D A C=idM D→ ∀k,k<D→cmb m.Prime D E (cmb m.Prime D D (A.getD k []) C) (gl D fun k=>yL m.Prime E ((sS D E v).getD k []) (q.zB.getD g []))=yL m.Prime E ((sS D E v).getD k []) (q.zB.getD g []):=fun g{A C} hA hAC k hk=>by rw[zAd,←qK (p:=m.Prime) (D:=D) (B:=C) (by rw[hA];exact hk),hAC,vR hk];have:=zKB (p:=m.Prime) (N:=D) (D:=E) (k:=k) hk (row g k hk);rw[yF hk]at this;exact this
 rw[zNL];constructor
 ·intro g a ha k hk
  have hX:∀b,b<D→ ∀j,j<E→ent (sS D E v) b j%m.Prime=ent (gl D fun b=>cmb m.Prime D E ((B a).getD b []) (gl D fun k=>yL m.Prime E ((sS D E v).getD k []) (q.zB.getD a []))) b j%m.Prime:=fun b hb j hj=>by have pe:=uH (D:=E) hb;have e:=g a ha (b*E+j) (by omega);rw[e1 a ha b j hb hj,e2 b j hb hj]at e;rw[←e,zQJ hb]
  rw[zQK hX,←tK a (h.ok.mat a ha).1 (hB.r a ha) k hk,zAz];refine yK fun j hj=>?_
  congr 1
  exact yC fun b hb=>by rw[ent,yF hb]
 ·intro g a ha j hj
  obtain⟨i,l,hi,hl,rfl⟩:=qE k1 hj;rw[e1 a ha i l hi hl,e2 i l hi hl];have e3:(gl D fun k=>yL m.Prime E ((sS D E v).getD k []) (q.zB.getD a []))=gl D fun k=>cmb m.Prime D E ((m.zB.getD a []).getD k []) (sS D E v):=by unfold gl;exact Lt fun k hk=>(g a ha k (Jp.1 hk)).symm
  have e4:cmb m.Prime D E ((B a).getD i []) (gl D fun k=>cmb m.Prime D E ((m.zB.getD a []).getD k []) (sS D E v))=cmb m.Prime D E (cmb m.Prime D D ((B a).getD i []) (m.zB.getD a [])) (sS D E v):=by
   rw[zAz];refine yK fun j hj=>?_
   congr 1
   exact yC fun b hb=>by rw[ent,yF hb]
  rw[e3,e4,zAd,←qK (p:=m.Prime) (D:=D) (B:=m.zB.getD a []) (by rw[(hB.mat a ha).1];exact hi),hB.l a ha,vR hi,cmb,zK hl,vH (k:=i) hi (fun b hb gf=>by rw[zK hb,if_neg gf,Ld]),zK hi,if_pos rfl,Kw,Je]
end
section
variable {x:SPr}{m q:zC}{D E:Nat} (h:IsM x m D) (h':IsM x q E) (gG:q.Prime=m.Prime)
 include h h' gG
theorem zQL(h3:D*E≤3):f_m x m q=dq (ten x m q D E,0):=by
 have h7:=h.ok.p.pos;have h6:=h.gr.1.os.1;have d3:=h.ok.d3;have k3:=h'.ok.d3;have l5:zG (zPk x m q) ([],0)=dq (gl x.zA.length fun g=>kr m.Prime D E (m.zB.getD g []) (q.zB.getD g [])):=by
  refine xS x.zA.length (fun g=>kr m.Prime D E (m.zB.getD g []) (q.zB.getD g [])) (fun g acc hg ey=>?_) fun acc=>?_
  ·have hA:=h.ok.mat g hg
   have hQ:Mat m.Prime E (q.zB.getD g []):=gG▸h'.ok.mat g hg;have l4:zG (zS2 m q (acc,(g:Int)) (m.zB.getD g [])) ([],0)=dq ([]++(gl D fun k=>gl E fun r=>krr m.Prime D E (m.zB.getD g []) (q.zB.getD g []) k r).flatten):=by
    refine qM D E (fun k=>gl E fun r=>krr m.Prime D E (m.zB.getD g []) (q.zB.getD g []) k r) [] (fun _ _=>yG) (fun k w hk hw=>?_) fun w=>?_
    ·have hkE:k*E≤3*3:=Jj (by omega) k3
     have hH:=hA.2 k hk;have l3:zG (zPj m ((m.zB.getD g []).getD k []) (q.zB.getD g [])) (w,0)=dq (w++gl E fun r=>krr m.Prime D E (m.zB.getD g []) (q.zB.getD g []) k r):=by
      have:=zQ (body:=zPj m ((m.zB.getD g []).getD k []) (q.zB.getD g [])) (r:=w++gl E fun r=>krr m.Prime D E (m.zB.getD g []) (q.zB.getD g []) k r) (fun r=>(w++gl r fun r=>krr m.Prime D E (m.zB.getD g []) (q.zB.getD g []) k r,(r:Int))) E (fun r hr=>by
       have py:=hQ.2 r hr;have pG:(gl r fun r=>krr m.Prime D E (m.zB.getD g []) (q.zB.getD g []) k r).length=r:=yG;have l2:zG (zS1 m ((m.zB.getD g []).getD k []) ((q.zB.getD g []).getD r [])) ([],0)=dq ([]++krr m.Prime D E (m.zB.getD g []) (q.zB.getD g []) k r):=by
        refine qM D E (fun i=>mkv E fun j=>(ent (m.zB.getD g []) k i*ent (q.zB.getD g []) r j)%m.Prime) [] (fun _ _=>zO _ _) (fun i z hi hz=>?_) fun z=>?_
        ·have hiE:i*E≤3*3:=Jj (by omega) k3
         have a:=hH.2 i hi;have l1:zG (zPi m ((q.zB.getD g []).getD r []) (at0 ((m.zB.getD g []).getD k []) i)) (z,0)=dq (z++mkv E fun j=>(ent (m.zB.getD g []) k i*ent (q.zB.getD g []) r j)%m.Prime):=by
          have:=zQ (body:=zPi m ((q.zB.getD g []).getD r []) (at0 ((m.zB.getD g []).getD k []) i)) (r:=z++mkv E fun j=>(ent (m.zB.getD g []) k i*ent (q.zB.getD g []) r j)%m.Prime) (fun j=>(z++mkv j fun j=>(ent (m.zB.getD g []) k i*ent (q.zB.getD g []) r j)%m.Prime,(j:Int))) E (fun j hj=>by
           have b:=py.2 j hj;have hm:(mkv j fun j=>(ent (m.zB.getD g []) k i*ent (q.zB.getD g []) r j)%m.Prime).length=j:=zO _ _;have p1:0≤at0 ((m.zB.getD g []).getD k []) i*at0 ((q.zB.getD g []).getD r []) j:=Hn a.1 b.1;have p2:at0 ((m.zB.getD g []).getD k []) i*at0 ((q.zB.getD g []).getD r []) j≤6*6:=L3 (by omega) (by omega) b.1 (by omega);unfold zPi;simp only
           rw[py.1,yE hj,zI,yB (by rw[py.1];exact hj),bs,zH (by omega) (by omega),bs,yO,if_neg (by omega),bs,L2 p1,zR (by rw[Ji,hm,Lf];simp only[H7,J8]at hz;omega),bs,zH (by omega) (by omega),bs,cs,Jh]
           congr 3
           simp[mkv,Kj]) (by
           unfold zPi;simp only
           rw[py.1,wS,zJ])
          simpa[mkv]using this
         unfold zS1;simp only
         rw[hH.1,yE hi,zI,yB (by rw[hH.1];exact hi),bs,l1,bs,zH (by omega) (by omega),bs,cs]
        ·unfold zS1
         simp only
         rw[hH.1,wS,zJ]
       unfold zPj;simp only
       rw[hQ.1,yE hr,zI,zW [] (by rw[hQ.1];exact hr),bs,l2,bs,Jy,zR (by rw[Ji,pG,Lf];simp only[H7,J8]at hw;omega),bs,zH (by omega) (by omega),bs,cs,Jh,kV]) (by
       unfold zPj;simp only
       rw[hQ.1,wS,zJ])
      simpa[gl]using this
     unfold zS2;simp only
     rw[hA.1,yE hk,zI,zW [] (by rw[hA.1];exact hk),bs,zW [] (by rw[h'.ok.len];exact hg),bs,l3,bs,zH (by omega) (by omega),bs,cs]
    ·unfold zS2
     simp only
     rw[hA.1,wS,zJ]
   unfold zPk;simp only
   rw[yE hg,zI,zW [] (by rw[h.ok.len];exact hg),bs,l4,bs,zR (by simp;omega),bs,zH (by omega) (by omega),bs,cs,Jy];rfl
  ·unfold zPk
   simp only
   rw[wS,zJ]
 unfold f_m zMp;have e:m.Dim*q.Dim=((D*E:Nat):Int):=by rw[h.ok.d,h'.ok.d,←Lj]
 simp only[h.im,h'.im,bs,J5,zJ,sJ gG.symm,bne_self_eq_false,e];rw[zH (by omega) (by omega),bs,dw (by omega),zJ,bs,l5,bs];rfl
theorem zTO(h3:¬D*E≤3):∃r,f_m x m q=dq (r,3):=by
 have cy:D*E≤3*3:=Jj h.ok.d3 h'.ok.d3;unfold f_m zMp;have e:m.Dim*q.Dim=((D*E:Nat):Int):=by rw[h.ok.d,h'.ok.d,←Lj]
 simp only[h.im,h'.im,bs,J5,zJ,sJ gG.symm,bne_self_eq_false,e];rw[zH (by omega) (by omega),bs,dx (by omega),zI];exact⟨_,rfl⟩
end
end Go.Pl

namespace Go.Pl
open Go Go.Ab Go.Wk Go.Pc
theorem zTP{c:List Int}{s:zE}(hs:Src s)(e:zLo c=dq s):Ans (zUQ c) fun r=>DrP r.1∧DrM r.2.1∧DrM r.2.2:=by
 unfold zUQ;rw[e,bs];refine .bd (zK8 hs) fun r hr=>?_
 obtain⟨x,m,t⟩:=r;obtain⟨hx,hm,ht⟩:=hr;simp only at hx hm ht;have hn:=hx.n;have hp:=hm.p;have triv:∀{p k:Int},-100≤p∧p≤100→1≤k∧k≤3→Ans (zLn x p k) DrM:=fun{p k} hp hk=>by obtain⟨D,rfl⟩:∃D:Nat,k=D:=⟨k.toNat,by omega⟩;rw[zQA (by omega) (by omega)];exact .rt ⟨hp,by simp only;omega,by simp only[yG];omega⟩
 refine .bd (zJc ht hx) fun r3 ee=>?_
 have h3:=ee.2.drm;refine .bd (P:=fun r=>Src ⟨r.1,r.2.1,r.2.2.1⟩∧DrM ⟨r.2.2.2.1,r.2.2.2.2.1,r.2.2.2.2.2⟩) ?_ fun r8 tc=>.bd (P:=fun r=>Src ⟨r.1,r.2.1,r.2.2.1⟩∧DrM ⟨r.2.2.2.1,r.2.2.2.2.1,r.2.2.2.2.2⟩) ?_ fun r10 cP=>.bd (yR cP.1 (by omega)) fun r11 bf=>.cd (fun _=>.bd (triv cP.2.p (by omega)) fun r12 fU=>.rt ⟨hx,fU,cP.2⟩) fun _=>.rt ⟨hx,hm,cP.2⟩
 ·refine .lp (fun i(_:Unit)=>i=0) 0 rfl fun i t hi ht=>?_
  unfold zNX;refine .bd (yR ee.1 (by omega)) fun r4 my=>.cd (fun _=>.bd (yR my.1 (by omega)) fun r5 av=>.rg (by omega) (.bd (triv hp (by omega)) fun r7 hr7=>.rt ⟨av.1,hr7⟩)) fun _=>.rt ⟨my.1,h3⟩
 ·refine .lp (fun i(_:Unit)=>i=0) 0 rfl fun i t hi ht=>?_
  unfold zNY;exact .bd (yR tc.1 (by omega)) fun r9 ta=>.cd (fun _=>.rt ⟨ta.1,hm⟩) fun _=>.rt ⟨ta.1,tc.2⟩
theorem zOD(c:List Int)(hb:∀i(h:i<c.length),0≤c[i]∧c[i]≤255):zUR c=dq du:=by
 unfold zUR zXh;refine zK9 hb (P:=fun r=>DrP r.1∧DrM r.2.1∧DrM r.2.2) (fun s hs e=>.bd (zTP hs e) fun r hr=>.rt hr) fun r hr=>?_
 obtain⟨x,m,q⟩:=r;obtain⟨hx,hm,hq⟩:=hr;simp only at hx hm hq ⊢
 have cases':(∃D E,IsM x m D∧IsM x q E∧q.Prime=m.Prime)∨ ∃k:Int,k≠0∧f_j x m q=dq (0,k)∧f_g x m q=dq (0,k):=by
  unfold f_j f_g zRd zMp;rcases zCN hx hm with⟨D,h⟩|⟨s1,i1⟩
  ·rcases zCN hx hq with⟨E,h'⟩|⟨s2,i2⟩
   ·by_cases hp:q.Prime=m.Prime
    ·exact .inl ⟨D,E,h,h',hp⟩
    ·refine .inr ⟨5,by omega,?_,?_⟩
     ·simp only[h.sp,h'.sp,bs,J5,zJ,qC (show m.Prime≠q.Prime from fun e=>hp e.symm),zI];rfl
     ·simp only[h.im,h'.im,bs,J5,zJ,qC (show m.Prime≠q.Prime from fun e=>hp e.symm),zI];rfl
   ·refine .inr ⟨1,by omega,?_,?_⟩
    ·simp only[h.sp,s2,bs,J5,Jr,zJ,zI];rfl
    ·simp only[h.im,i2,bs,J5,Jr,zJ,zI];rfl
  ·refine .inr ⟨1,by omega,?_,?_⟩
   ·simp only[s1,bs,Jr,zI];rfl
   ·simp only[i1,bs,Jr,zI];rfl
 rcases cases' with⟨D,E,h,h',gG⟩|⟨k,hk,s1,i1⟩
 ·have d3:=h.ok.d3
  have k3:=h'.ok.d3;have cy:D*E≤3*3:=Jj d3 k3;have bJ:=h.ok.d;obtain⟨B,hB,b1,b2⟩:=zGV h;obtain⟨C,hC,c1,c2⟩:=zGV h';have hF:=zCP h hB;have hS:=zCP h' hC;obtain⟨B',pg,_,f2⟩:=zGV hF;rw[zTI h hB pg]at f2;obtain⟨K,pk,g1,g2,g3,g4⟩:=zEK h h' gG;obtain⟨k,t1,t2,t3⟩:=zMb h h' gG hB hC;rw[g3]at t1;obtain⟨rfl,_⟩:=Ja1.inj (Lw.inj t1);obtain⟨F,R,u1,u2,u3⟩:=zOB h hB;rw[g4,bs,g3,bs];simp only[bne_self_eq_false,zJ];rw[b2,bs,c2,bs,b1,bs,c1,bs];simp only[bne_self_eq_false,zJ];rw[zAI hF.ok (h.gr.1.os.1),bs,zAI hS.ok (h.gr.1.os.1),bs];unfold zMy;simp only[hF.im,bs,J5,zJ];rw[f2,bs,t3,bs];simp only[bne_self_eq_false,zJ];rw[zAI h.ok (h.gr.1.os.1),bs];simp only[J5,zJ];rw[u1,bs,u2,bs];simp only[bne_self_eq_false,zJ];rw[zH (by omega) (by omega),bs,show((F.length:Int)+(R.length:Int) != m.Dim)=dv from by rw[bJ];exact sJ (by omega),zJ]
  by_cases hb:D*E≤3
  ·rw[zQL hF h' gG hb,bs]
   simp only
   rw[show((0:Int)==3)=dv from rfl,zJ];obtain⟨K3,p3,v1,_,v3,_,v5⟩:=zEJ (zTM hF h' gG hb);have e:K3=K:=v1.unique (by have:=h.ok.p.pos;show 1<m.Prime;omega) g1 ⟨fun i hi=>(g2 _).2 ((zNM h h' gG hB).1 ((v3 _).1 (vU hi))),fun i hi=>(v3 _).2 ((zNM h h' gG hB).2 ((g2 _).1 (vU hi)))⟩;rw[v5,bs];simp only[beq_self_eq_true,zI];rw[e,beq_self_eq_true]
  ·obtain⟨r,hr⟩:=zTO hF h' gG hb
   rw[hr,bs];simp only
   have e:m.Dim*q.Dim=((D*E:Nat):Int):=by rw[h.ok.d,h'.ok.d,←Lj]
   rw[show((3:Int)==3)=du from rfl,zI,e,zH (by omega) (by omega),bs,dx (by omega)]
 ·rw[i1,bs,s1,bs]
  simp only[bne_self_eq_false,zJ,qC hk,zI]
theorem zHp(c:List Int)(h:VL VU c):zUR c=dq du:=zOD c (vu h)
end Go.Pl
