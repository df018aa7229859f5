/- The program's DerivationKernel returns what the reference's returns,for all arguments;no conditions. -/
import Derived.Test.YtibamokcnfffhaaGreatPlA
import Derived.Test.YtibamokcnfffhaaGreatWF
open List renaming replicate→J1,getD_eq_getElem?_getD→J4,getElem?_eq_getElem→J5,length_append→J9,mem_map→Ja,append_assoc→Jb,length_singleton→Jc,getElem?_append_right→Jd,append_nil→Je,length_cons→Jh,getElem?_map→Jj,mem_cons→Jl,range→Jo,mem_append→Jq,getElem?_replicate→Js,getElem_mem→Jw,nil_append→K3,set_cons_succ→K9,mem_range→Kd,length_replicate→Kn,range_succ→Kt,length_set→Ku,filter_nil→Li,filterMap_cons→Lj,range'_succ→Lo,drop_eq_getElem_cons→H6,range'→H7,getElem?_set_self→Hl,getElem?_set_ne→Hm,filter_append→Hn,length_nil→G7,getD→Gg,mem_filter→Gk,filter_cons_of_pos→Gr,filter_cons_of_neg→Gs,length_filter_le→U3,length→Q5,drop_of_length_le→Qd,length_drop→Jbf
open Nat renaming zero_add→J6,le_refl→Ji,sub_self→K6,zero_le→Km,add_mul→Lh,mul_one→Hu,mul_add→Un,lt_irrefl→Ja0,lt_trichotomy→Jar
open Bool renaming not_true→Jm
open Int renaming toNat_natCast→Jn,emod_eq_of_lt→K1,tmod_eq_emod_of_nonneg→L4,tdiv_eq_ediv_of_nonneg→Um,emod_self→Uu,tmod_lt_of_pos→Ja1
open Option renaming map_some→Lm,getD_some→G9,map_none→Q8
open Option renaming some→aN,none→aO
open Bool renaming true→aP,false→aQ
namespace Go.Pl
open Go Go.Ab Go.Wk Go.Pc
theorem zEC{x:SPr}(hx:zHC x){body:Int×Int→Option ((Int×Int)⊕Int)}
  (hb:∀s:Int×Int,body s=cond (decide (s.2<(x.zA.length:Int))) ((ixO x.zA s.2).bind fun v1=>(rng (s.1*v1)).bind fun v2=>(rng (s.2+1)).bind fun v3=>aN (.inl (v2,v3))) (aN (.inr s.1))):zG body (1,0)=aN (pr x.zA x.zA.length):=by
 have h6:=hx.n6;have hP:∀j,j<x.zA.length→Prime (at0 x.zA j):=fun j hj=>hx.os.2 j hj
 exact zQ (body:=body) (r:=pr x.zA x.zA.length) (fun i=>(pr x.zA i,(i:Int))) x.zA.length (fun i hi=>by
  have e1:=zG5 hP (x.zA.length-(i+1)) (by omega);rw[show x.zA.length-(x.zA.length-(i+1))=i+1 from by omega]at e1;have e2:=zBA (os:=x.zA) (i:=i+1) (by grind);have e3:=hx.pr;simp only[pr]at e1 e2;rw[hb];simp only
  rw[xG hi,zH,yV hi,bs,zC (n:=pr x.zA i*at0 x.zA i) (by omega) (by omega),bs,zC (by omega) (by omega),bs];rfl) (by
  grind)
end Go.Pl

namespace Go.Pl
open Go Go.Ab Go.Wk Go.Pc
end Go.Pl

namespace Go.Pl
open Go Go.Ab Go.Wk Go.Pc
end Go.Pl

namespace Go.Pl
open Go Go.Ab Go.Wk Go.Pc
end Go.Pl

namespace Go.Pl
open Go Go.Ab Go.Wk Go.Pc
end Go.Pl

namespace Go.Pl
open Go Go.Ab Go.Wk Go.Pc
end Go.Pl

namespace Go.Pl
open Go Go.Ab Go.Wk Go.Pc
end Go.Pl

namespace Go.Pl
open Go Go.Ab Go.Wk Go.Pc
end Go.Pl

namespace Go.Pl
open Go Go.Ab Go.Wk Go.Pc
end Go.Pl

namespace Go.Pl
open Go Go.Ab Go.Wk Go.Pc
theorem fv0(v:Vec):fv 0 v=v:=by simp[zeros]
section
variable {x:SPr} (h:Pres x) (hc:wK (suf x 0))
 include h hc
theorem g0:Grp (V (suf x 0)) (mul (suf x 0)) (zeros (suf x 0).length):=zA8 h (by omega) hc
theorem ok0:Pc.Ok (suf x 0):=by have _:=hc;exact h.okAt (by omega)
theorem zBd{v:Vec}(hv:V (suf x 0) v):v.length=x.zA.length:=by
 have _:=hc;have:=zBC h (k:=0) (by omega) hv
 rwa [fv0]at this
theorem zTj{a b:Vec}(ha:V (suf x 0) a)(hb:V (suf x 0) b):f_Y x a b=aN (mul (suf x 0) a b):=by have:=zBm h (k:=0) (by omega) hc ha hb;simpa only[fv0]using this
theorem tv0{a b:Vec}(ha:V (suf x 0) a)(hb:V (suf x 0) b):f_b x a b=aN (mul (suf x 0) a b):=by have:=zCn h (k:=0) (by omega) hc ha hb;simpa only[fv0]using this
theorem zRs{c:Vec}(eA:V (suf x 0) c){e:Int}(e0:0≤e)(e1:e≤1000):f_r x c e=aN (pw (mul (suf x 0)) (zeros (suf x 0).length) c e.toNat):=by have:=zE0 h (k:=0) (by omega) hc eA e0 e1;simpa only[fv0]using this
theorem zTk{a b:Vec}(ha:V (suf x 0) a)(hb:V (suf x 0) b):∃w,V (suf x 0) w∧mul (suf x 0) (mul (suf x 0) b a) w=mul (suf x 0) a b∧zO1 x a b=aN w:=by
 have ok:=ok0 h hc;have G:=g0 h hc;obtain⟨i,i1,i2,i3⟩:=zDm h (k:=0) (by omega) hc ha;obtain⟨c,c1,c2,c3⟩:=qJ h (k:=0) (by omega) hc ha hb;simp only[fv0]at i3 c3;refine⟨mul (suf x 0) i c,xJ ok i1 c1,?_,?_⟩
 ·rw[G.assoc hb ha (xJ ok i1 c1),←G.assoc ha i1 c1,i2,G.onel c1,c2]
 ·unfold zO1
  rw[i3,bs,c3,bs,zTj h hc i1 c1,bs]
theorem zId{a b:Vec}(ha:V (suf x 0) a)(hb:V (suf x 0) b):zIt x a b=aN (mul (suf x 0) a b):=by have _:=hc;have:=zCl h (k:=0) (by omega) a b ha hb;unfold zIt;rw[show f_a x 0 a b=aN (mul (suf x 0) a b)from by simpa[zeros]using this,bs]
theorem zQz{c:Vec}(eA:V (suf x 0) c){e:Int}(e0:0≤e)(e1:e≤1000):f_H x 0 c e=aN (pw (mul (suf x 0)) (zeros (suf x 0).length) c e.toNat):=by
 have h6:=h.os.1;have ok:=ok0 h hc;have G:=g0 h hc;have hA:∀a b,V (suf x 0) a→V (suf x 0) b→f_a x 0 a b=aN (mul (suf x 0) a b):=fun a b ha hb=>by have:=zCl h (k:=0) (by omega) a b ha hb;simpa[zeros]using this
 have pwV:∀a,V (suf x 0) (pw (mul (suf x 0)) (zeros (suf x 0).length) c a):=fun a=>xN G.toMon eA a
 unfold f_H;rw[yO (by omega),bs,zHH h (k:=0) (by omega),fv0];obtain⟨r,r1,r2⟩:=wN (body:=zLf x 0) (Q:=fun r=>r=pw (mul (suf x 0)) (zeros (suf x 0).length) c e.toNat)
  (fun s=> ∃(m a q:Nat),s=((m:Int),pw (mul (suf x 0)) (zeros (suf x 0).length) c a,pw (mul (suf x 0)) (zeros (suf x 0).length) c q)∧a+q*m=e.toNat∧m≤1000) (fun s=>s.1.toNat) (fun s hs=>by
   obtain⟨m,a,q,rfl,he,hm⟩:=hs;unfold zLf;simp only
   by_cases hm0:m=0
   ·right
    subst hm0;rw[show decide (((0:Nat):Int)> 0)=aQ from rfl,zI];refine⟨_,rfl,?_⟩;rw[←he,Nat.mul_zero];rfl
   ·left
    have hr:vU (m:Int) 2=aN ((m%2:Nat):Int):=by unfold vU;rw[if_neg (by decide),L4 (by omega)];rfl
    have hq:tQ (m:Int) 2=aN ((m/2:Nat):Int):=by unfold tQ;rw[if_neg (by decide),Um (by omega)];rw[zC (by omega) (by omega)];rfl
    have cP:mul (suf x 0) (pw (mul (suf x 0)) (zeros (suf x 0).length) c q) (pw (mul (suf x 0)) (zeros (suf x 0).length) c q)=pw (mul (suf x 0)) (zeros (suf x 0).length) c (q+q):=(jF G.toMon eA q q).symm;rw[aS (by omega),zH,hr,bs];rcases Nat.mod_two_eq_zero_or_one m with h2|h2
    ·rw[h2,show((((0:Nat):Int))==1)=aQ from rfl,zI,hA _ _ (pwV q) (pwV q),bs,hq,bs,cP]
     refine⟨_,rfl,⟨m/2,a,q+q,rfl,?_,by omega⟩,by simp only;omega⟩;rw[←he];have:m=m/2+m/2:=by omega
     have e3:(q+q)*(m/2)=q*m:=by rw[Lh,←Un,←this]
     omega
    ·rw[h2,show((((1:Nat):Int))==1)=aP from rfl,zH,hA _ _ (pwV a) (pwV q),bs,hA _ _ (pwV q) (pwV q),bs,hq,bs,cP,←jF G.toMon eA a q]
     refine⟨_,rfl,⟨m/2,a+q,q+q,rfl,?_,by omega⟩,by simp only;omega⟩;rw[←he];have:m=m/2+m/2+1:=by omega
     have e3:(q+q)*(m/2)+q=q*m:=by
      have e4:q*m=q*(m/2+m/2+1):=by rw[←this]
      rw[e4,Un,Un,Hu,Lh]
     omega) 1000000 (e,(zeros (suf x 0).length),c) (by simp only;omega) ⟨e.toNat,0,1,by rw[zG0 G.toMon eA,show((e.toNat:Nat):Int)=e from by omega];rfl,by omega,by omega⟩
 rw[r1,bs,r2]
theorem zQ0{c:Vec}(eA:V (suf x 0) c){e:Int}(e0:0≤e)(e1:e≤1000):f_S x c e=aN (pw (mul (suf x 0)) (zeros (suf x 0).length) c e.toNat):=by unfold f_S;rw[aR (by omega),zI,zQz h hc eA e0 e1,bs]
theorem zTl{c:Vec}(eA:V (suf x 0) c){e:Int}(e0:0<e)(e1:e≤1000):∃u,V (suf x 0) u∧mul (suf x 0) c u=(zeros (suf x 0).length)∧f_S x c (-e)=aN (pw (mul (suf x 0)) (zeros (suf x 0).length) u e.toNat):=by obtain⟨u,u1,u2,u3⟩:=zIc h hc eA;refine⟨u,u1,u2,?_⟩;unfold f_S;rw[aS (by omega),zH,u3,bs,zC (by omega) (by omega),bs,show(0:Int)- -e=e from by omega,zQz h hc u1 (by omega) e1,bs]
theorem zRt{a b:Vec}(ha:V (suf x 0) a)(hb:V (suf x 0) b):∃w,V (suf x 0) w∧mul (suf x 0) (mul (suf x 0) b a) w=mul (suf x 0) a b∧zPO x a b=aN w:=by
 have ok:=ok0 h hc;have G:=g0 h hc;have hba:=xJ ok hb ha;have ca:=xJ ok ha hb;obtain⟨i,i1,i2,i3⟩:=zIc h hc hba;refine⟨mul (suf x 0) i (mul (suf x 0) a b),xJ ok i1 ca,?_,?_⟩
 ·rw[←G.assoc hba i1 ca,i2,G.onel ca]
 ·unfold zPO
  rw[zId h hc hb ha,bs,i3,bs,zId h hc ha hb,bs,zId h hc i1 ca,bs]
theorem zEX:Fil (V (suf x 0)) (mul (suf x 0)) (zeros (suf x 0).length) x.zA.length (fun d=>at0 x.zA d) (fun v d=>at0 v d):=by
 have F:=fil (ok0 h hc) hc;have hl:(suf x 0).length=x.zA.length:=by rw[xH];omega
 have ho:∀d,d<x.zA.length→od (suf x 0) d=at0 x.zA d:=fun d hd=>by unfold od suf;rw[Jj,J5 (by simpa using hd)];simp[lvl]
 exact⟨F.g,fun ha hd=>by have:=F.r ha (by rw[hl];exact hd);rwa [ho _ hd]at this,fun hd=>F.e0 (by rw[hl];exact hd),fun ha hb hh=>F.ex ha hb fun d hd=>hh d (by rw[←hl];exact hd),
  fun ha hb hd hz=>by have:=F.ad ha hb (by rw[hl];exact hd) hz;rw[ho _ hd]at this;exact this⟩
end
end Go.Pl

namespace Go.Pl
open Go Go.Ab Go.Wk Go.Pc
def tbl(b:Mx)(k:Nat):Option Vec:=match b.getD k []with
 | []=>aO
 |v::vs=>aN (v::vs)
theorem tB{b:Mx}{k:Nat}{t:Vec}:tbl b k=aN t↔b.getD k []=t∧t≠[]:=by
 unfold tbl;cases b.getD k []with
 |nil=>simp
 |cons v vs=>simp;intro h;rw[←h];simp
theorem vD{b:Mx}{k:Nat}:tbl b k=aO↔b.getD k []=[]:=by unfold tbl;cases b.getD k []<;>simp
theorem zGD{b:Mx}{d:Nat}{y:Vec}(hd:d<b.length)(hy:y≠[]):tbl (b.set d y)=fun j=>if j=d then aN y else tbl b j:=by
 funext j
 by_cases h:j=d
 ·subst h
  rw[if_pos rfl,tB,J4,Hl hd];exact⟨rfl,hy⟩
 ·rw[if_neg h]
  unfold tbl;rw[J4,Hm (fun e=>h e.symm),←J4]
def zAD:Mx→Nat
 | []=>0
 | []::b=>zAD b+1
 |(_::_)::b=>zAD b
theorem zAX:∀b:Mx,zAD b≤b.length
 | []=>Ji _
 | []::b=>by simp only[zAD,Jh];have:=zAX b;omega
 |(_::_)::b=>by simp only[zAD,Jh];have:=zAX b;omega
theorem zED:∀(b:Mx)(d:Nat)(y:Vec),d<b.length→b.getD d []=[]→y≠[]→zAD (b.set d y)+1=zAD b
 | [],d,y,h,_,_=>by simp at h
 |v::b,0,y,_,h,hy=>by
  simp at h;subst h;cases y with
  |nil=>exact absurd rfl hy
  |cons a y=>simp[zAD]
 |v::b,d+1,y,h,h1,hy=>by have ih:=zED b d y (by simpa using h) (by simpa using h1) hy;cases v<;>simp only[K9,zAD]<;>omega
theorem kV{v:List Int}(hl:v.length≤1000):∃d:Nat,d≤v.length∧f_q v=aN (d:Int)∧(∀j,j<d→at0 v j=0)∧(d<v.length→at0 v d≠0):=by
 obtain⟨r,r1,r2⟩:=vL (body:=zO0 v) (Q:=fun r=>match r with
   |.inl ()=> ∀j,j<v.length→at0 v j=0
   |.inr e=> ∃d:Nat,e=(d:Int)∧d<v.length∧(∀j,j<d→at0 v j=0)∧at0 v d≠0)
  (fun i s=>s=(i:Int)∧ ∀j,j<i→at0 v j=0) v.length (fun i s hi hs=>by
   obtain⟨rfl,hz⟩:=hs;unfold zO0;rw[xG hi,zH,yC 0 hi,bs]
   by_cases h0:at0 v i=0
   ·left
    have fu:v.getD i 0=0:=h0;rw[fu,show((0:Int) != 0)=aQ from rfl,zI,zC (by omega) (by omega),bs,cs];refine⟨_,rfl,rfl,fun j hj=>?_⟩
    by_cases e:j=i
    ·rw[e];exact h0
    ·exact hz j (by omega)
   ·right
    have fu:(v.getD i 0 != 0)=aP:=by simpa using h0
    rw[fu,zH];exact⟨_,rfl,i,rfl,hi,hz,h0⟩) (fun s hs=>by
   obtain⟨rfl,hz⟩:=hs;unfold zO0;rw[jG,zI];exact⟨_,rfl,hz⟩) (s:=0) ⟨rfl,fun j hj=>by omega⟩
 unfold f_q;rw[r1,bs];cases r with
 |inl u=>exact⟨v.length,Ji _,rfl,r2,fun h=>absurd h (Ja0 _)⟩
 |inr e=>
  obtain⟨d,rfl,h1,h2,h3⟩:=r2;exact⟨d,by omega,rfl,h2,fun _=>h3⟩
section
variable {x:SPr} (h:Pres x) (hc:wK (suf x 0)) {b:Mx} (hb:b.length=x.zA.length) (hT:Tab (V (suf x 0)) x.zA.length (fun v d=>at0 v d) (tbl b))
 include h hc hb hT
theorem zKX{y:Vec}(hy:V (suf x 0) y):∃(z:Vec)(d:Nat),zPQ ⟨x,b⟩ y=aN (z,⟨x,b⟩)∧Sf (V (suf x 0)) (mul (suf x 0)) (zeros (suf x 0).length) x.zA.length (fun v d=>at0 v d) (tbl b) y z∧
  d≤x.zA.length∧(∀j,j<d→at0 z j=0)∧(d<x.zA.length→at0 z d≠0∧tbl b d=aO):=by
 have h6:=h.os.1;have F:=zEX h hc;obtain⟨d0,a1,a2,a3,a4⟩:=kV (v:=y) (by rw[zBd h hc hy];omega);rw[zBd h hc hy]at a1 a4;obtain⟨r,r1,_,d,rfl,r3,r4,r5,r6⟩:=wN (body:=zKy ⟨x,b⟩)
  (Q:=fun r=> ∃(z:Vec)(d:Nat),r=z∧Sf (V (suf x 0)) (mul (suf x 0)) (zeros (suf x 0).length) x.zA.length (fun v d=>at0 v d) (tbl b) y z∧d≤x.zA.length∧(∀j,j<d→at0 z j=0)∧(d<x.zA.length→at0 z d≠0∧tbl b d=aO))
  (fun s=> ∃(z:Vec)(d:Nat),s=(z,(d:Int))∧Sf (V (suf x 0)) (mul (suf x 0)) (zeros (suf x 0).length) x.zA.length (fun v d=>at0 v d) (tbl b) y z∧d≤x.zA.length∧(∀j,j<d→at0 z j=0)∧(d<x.zA.length→at0 z d≠0))
  (fun s=>x.zA.length-s.2.toNat) (fun s hs=>by
   obtain⟨z,d,rfl,sf,d1,d2,d3⟩:=hs;have hz:=sf.s;have cc:=zBd h hc hz;unfold zKy;simp only
   by_cases hd:d<x.zA.length
   ·rw[show decide ((d:Int)<(z.length:Int))=aP from aS (by omega),zH,yC [] (by omega),bs]
    cases ht:b.getD d []with
    |nil=>
     right;rw[show(!(([]:List Int)).isEmpty)=aQ from rfl,zI];exact⟨_,rfl,z,d,rfl,sf,d1,d2,fun _=>⟨d3 hd,vD.2 ht⟩⟩
    |cons t0 ts=>
     left;have ea:tbl b d=aN (t0::ts):=tB.2 ⟨ht,by simp⟩;obtain⟨_,t2,t3,t4⟩:=hT.h ea;have ee:=h.os.2 d hd;have hp7:=ee.pos;have hr:=F.r hz hd;have k1:=F.killl hd t2 t3 t4 hz d2;obtain⟨q1,q2,_⟩:=F.pw1 hd t2 t3 t4 (at0 x.zA d-at0 z d).toNat;obtain⟨s1,s2⟩:=Sf.left F hT hd hz d2 (d3 hd) ea (fun _ g=>g.pw _) q1 q2 k1;have bX:=s1.s;rw[show(!((t0::ts)).isEmpty)=aP from rfl,zH,bs,yC 0 hd,bs,yC 0 (by omega),bs];rw[zC (by show _≤at0 x.zA d-at0 z d;omega) (by show at0 x.zA d-at0 z d≤_;omega),bs];rw[show x.zA.getD d 0-z.getD d 0=at0 x.zA d-at0 z d from rfl,zRs h hc t2 (by omega) (by omega),bs,zTj h hc q1 hz,bs,yC 0 (by rw[zBd h hc bX];exact hd),bs];rw[show Gg (mul (suf x 0) (pw (mul (suf x 0)) (zeros (suf x 0).length) (t0::ts) (at0 x.zA d-at0 z d).toNat) z) d 0=0 from k1,show((0:Int) != 0)=aQ from rfl,zI];obtain⟨e0,b1,b2,b3,b4⟩:=kV (v:=mul (suf x 0) (pw (mul (suf x 0)) (zeros (suf x 0).length) (t0::ts) (at0 x.zA d-at0 z d).toNat) z) (by rw[zBd h hc bX];omega);rw[zBd h hc bX]at b1 b4;rw[b2,bs];refine⟨_,rfl,⟨_,e0,rfl,sf.trans s1,b1,b3,b4⟩,?_⟩;have:d<e0:=by apply Classical.byContradiction;intro gj;have:=s2 e0 (by omega);exact b4 (by omega) this
     simp only[Jn];omega
   ·right
    rw[show decide ((d:Int)<(z.length:Int))=aQ from aR (by omega),zI];exact⟨_,rfl,z,d,rfl,sf,d1,d2,fun hh=>absurd hh hd⟩) 1000 (y,(d0:Int)) (by simp only;omega) ⟨y,d0,rfl,Sf.refl hy,a1,a3,a4⟩
 refine⟨r,d,?_,r3,r4,r5,r6⟩;unfold zPQ;rw[a2,bs,r1,bs]
end
end Go.Pl

namespace Go.Pl
open Go Go.Ab Go.Wk Go.Pc
theorem zEE{v:Vec}{d:Nat}(h:at0 v d≠0):v≠[]:=by rintro rfl;simp[at0]at h
section
variable {x:SPr} (h:Pres x) (hc:wK (suf x 0)) {b:Mx} (hb:b.length=x.zA.length) (hT:Tab (V (suf x 0)) x.zA.length (fun v d=>at0 v d) (tbl b))
 include h hc hb hT
theorem zKY{y:Vec}(hy:V (suf x 0) y){g:List Int×yS}(hg:g.2=⟨x,b⟩){Q:Mx}(hQ:Q.length≤100000):
  ∃W:Mx,zG (zLr g y) (Q,0)=aN (Q++W)∧W.length≤x.zA.length∧(∀w∈W,V (suf x 0) w∧ ∃k u,tbl b k=aN u∧mul (suf x 0) (mul (suf x 0) y u) w=mul (suf x 0) u y)∧
   ∀k u,tbl b k=aN u→ ∃w,w∈W∧mul (suf x 0) (mul (suf x 0) y u) w=mul (suf x 0) u y:=by
 have h6:=h.os.1;obtain⟨r,r1,W,rfl,r2,r3,r4⟩:=vL (body:=zLr g y)
  (Q:=fun r=> ∃W:Mx,r=Q++W∧W.length≤x.zA.length∧(∀w∈W,V (suf x 0) w∧ ∃k u,tbl b k=aN u∧mul (suf x 0) (mul (suf x 0) y u) w=mul (suf x 0) u y)∧
   ∀k u,tbl b k=aN u→ ∃w,w∈W∧mul (suf x 0) (mul (suf x 0) y u) w=mul (suf x 0) u y)
  (fun i s=> ∃W:Mx,s=(Q++W,(i:Int))∧W.length≤i∧(∀w∈W,V (suf x 0) w∧ ∃k u,tbl b k=aN u∧mul (suf x 0) (mul (suf x 0) y u) w=mul (suf x 0) u y)∧
   ∀k u,k<i→tbl b k=aN u→ ∃w,w∈W∧mul (suf x 0) (mul (suf x 0) y u) w=mul (suf x 0) u y) x.zA.length (fun i s hi hs=>by
   obtain⟨W,rfl,w1,w2,w3⟩:=hs;left;unfold zLr;simp only[hg];rw[show decide ((i:Int)<(b.length:Int))=aP from aS (by omega),zH,yC [] (by omega),bs];cases ht:b.getD i []with
   |nil=>
    rw[show(!(([]:List Int)).isEmpty)=aQ from rfl,zI,zC (by omega) (by omega),bs,cs];refine⟨_,rfl,W,rfl,by omega,w2,fun k u hk hu=>?_⟩
    by_cases e:k=i
    ·subst e
     rw[vD.2 ht]at hu;cases hu
    ·exact w3 k u (by omega) hu
   |cons t0 ts=>
    have ea:tbl b i=aN (t0::ts):=tB.2 ⟨ht,by simp⟩;obtain⟨_,t2,_,_⟩:=hT.h ea;obtain⟨w,v1,v2,v3⟩:=zTk h hc t2 hy;rw[show(!((t0::ts)).isEmpty)=aP from rfl,zH,v3,bs,xD (by simp only[J9,Jc];omega),bs,zC (by omega) (by omega),bs,cs];refine⟨_,rfl,W++[w],by rw[Jb],by simp only[J9,Jc];omega,fun a ha=>?_,fun k u hk hu=>?_⟩
    ·rcases Jq.1 ha with ha|ha
     ·exact w2 a ha
     ·simp at ha;subst ha
      exact⟨v1,i,_,ea,v2⟩
    ·by_cases e:k=i
     ·subst e
      rw[ea]at hu;cases hu;exact⟨w,by simp,v2⟩
     ·obtain⟨a,a1,a2⟩:=w3 k u (by omega) hu
      exact⟨a,by simp[a1],a2⟩) (fun s hs=>by
   obtain⟨W,rfl,w1,w2,w3⟩:=hs;unfold zLr;simp only[hg];rw[show decide ((x.zA.length:Int)<(b.length:Int))=aQ from aR (by omega),zI];exact⟨_,rfl,W,rfl,w1,w2,fun k u hu=>w3 k u (hT.h hu).1 hu⟩) (s:=(Q,0)) ⟨[],by simp,Ji _,by simp,fun k u hk=>by omega⟩
 exact⟨W,r1,r2,r3,r4⟩
end
section
variable {x:SPr} (h:Pres x) (hc:wK (suf x 0))
 include h hc
abbrev WlB(x:SPr)(L:Vec→Prop)(b:Mx)(Q:Mx):Prop:=Wl (V (suf x 0)) (mul (suf x 0)) (zeros (suf x 0).length) x.zA.length (fun d=>at0 x.zA d) (fun v d=>at0 v d) L (tbl b) Q
theorem zNb{L:Vec→Prop}(hL:∀a,L a→V (suf x 0) a){b:Mx}(hb:b.length=x.zA.length){g:Bool}{q:Vec}{Q:Mx}(hW:WlB x L b (q::Q))(hQ:Q.length≤10000):
  ∃(b':Mx)(g':Bool)(Q':Mx),zLs (x,b,g,q::Q)=aN (.inl (x,b',g',Q'))∧b'.length=x.zA.length∧WlB x L b' Q'∧
   (b'=b∧Q'=Q∨zAD b'+1=zAD b∧Q'.length≤Q.length+x.zA.length+2):=by
 have h6:=h.os.1;have F:=zEX h hc;have G:=g0 h hc;have hq:=hW.q q (by simp);obtain⟨z,d,s1,sf,s3,s4,s5⟩:=zKX h hc hb hW.t hq.1;have hz:=sf.s;have cc:=zBd h hc hz;obtain⟨d',d1,d2,d3,d4⟩:=kV (v:=z) (by omega);rw[cc]at d1 d4;have ax:d'=d:=by
  rcases Jar d' d with g|g|g
  ·exact absurd (s4 d' g) (d4 (by omega))
  ·exact g
  ·exact absurd (d3 d g) (s5 (by omega)).1
 subst ax;unfold zLs;simp only
 rw[show decide (((q::Q).length:Int)> 0)=aP from aS (by simp only[Jh];omega),zH];rw[show ixO (q::Q) (0:Int)=aN q from rfl,bs,s1,bs];rw[show yF (q::Q) 1 ((q::Q).length:Int)=aN Q from by unfold yF;rw[if_pos ⟨by omega,by simp only[Jh];omega,Int.le_refl _⟩];simp,bs]
 dsimp only
 rw[d2,bs]
 by_cases hd:d'<x.zA.length
 ·obtain⟨n1,n2⟩:=s5 hd
  have ee:=h.os.2 d' hd;have hp7:=ee.pos;have hr:=F.r hz hd;obtain⟨v,v1,v2,v3,v4⟩:=zCu ee (x:=at0 z d') (by have:=hr.1;omega) (by have:=hr.2;omega);have fD:V (suf x 0) (pw (mul (suf x 0)) (zeros (suf x 0).length) z v.toNat):=xN G.toMon hz _;obtain⟨y,fC⟩:∃y,y=pw (mul (suf x 0)) (zeros (suf x 0).length) z v.toNat:=⟨_,rfl⟩;rw[←fC]at fD;have pb:=F.pwc hd hz s4 v.toNat;rw[←fC]at pb;have ff:at0 y d'=1:=by have:=pb.2;rw[this,show((v.toNat:Nat):Int)=v from by omega,Int.mul_comm];exact v4
  have my:V (suf x 0) (pw (mul (suf x 0)) (zeros (suf x 0).length) y (at0 x.zA d').toNat):=xN G.toMon fD _;have fe:y≠[]:=zEE (d:=d') (by rw[ff];decide);rw[show(((d':Nat):Int)==(z.length:Int))=aQ from by simp;omega,zI,yC 0 (by omega),bs,yC 0 hd,bs];rw[show z.getD d' 0=at0 z d' from rfl,show x.zA.getD d' 0=at0 x.zA d' from rfl,v1,bs,xD (by simp only[Jc];omega),bs];simp only
  rw[zRs h hc hz v2 (by omega),bs,bs,←fC,zRs h hc fD (by omega) (by omega),bs,xD (by simp only[J9,Jc];omega),bs];obtain⟨W,W1,W2,W3,W4⟩:=zKY h hc hb hW.t fD (g:=(z,⟨x,b⟩)) rfl (Q:=Q++[z]++[pw (mul (suf x 0)) (zeros (suf x 0).length) y (at0 x.zA d').toNat]) (by simp only[J9,Jc];omega);rw[W1,bs,yC [] (by omega),bs,show neO y=aN ()from by cases y with
   |nil=>exact absurd rfl fe
   |cons _ _=>rfl,bs]
  refine⟨_,_,_,rfl,by rw[Ku];exact hb,?_,.inr ⟨zED b d' y (by omega) (vD.1 n2) fe,by simp only[J9,Jc];omega⟩⟩;rw[show((d':Nat):Int).toNat=d' from rfl];have gp:=zGD (b:=b) (d:=d') (y:=y) (by omega) fe;have mw:Gen (V (suf x 0)) (mul (suf x 0)) (zeros (suf x 0).length) L z:=sf.h L hL hW.th hq.2;have fE:Gen (V (suf x 0)) (mul (suf x 0)) (zeros (suf x 0).length) L y:=by rw[fC];exact mw.pw _
  rw[WlB,gp];refine Wl.add F hW hd n2 fD fE pb.1 ff (x:=q) (fun k hk=>?_) (fun a ha=>?_) (fun a ha=>?_) (by simp) (fun k u hu=>?_)
  ·have aG:∀k t,tbl b k=aN t→(fun j=>if j=d' then aN y else tbl b j) k=aN t:=fun k t hk=>by
    show(if k=d' then aN y else tbl b k)=aN t;rw[if_neg]
    ·exact hk
    ·intro e;rw[e,n2]at hk;cases hk
   have aJ:∀a∈Q++[z]++[pw (mul (suf x 0)) (zeros (suf x 0).length) y (at0 x.zA d').toNat]++W,V (suf x 0) a:=fun a ha=>by
    simp only[Jq,List.mem_singleton]at ha;rcases ha with((ha|rfl)|rfl)|ha
    ·exact(hW.q a (by simp[ha])).1
    ·exact hz
    ·exact my
    ·exact(W3 a ha).1
   have:=sf.g k (Q++[z]++[pw (mul (suf x 0)) (zeros (suf x 0).length) y (at0 x.zA d').toNat]++W) aJ hk (.x (.inr ⟨by simp,fun j hj fq=>sf.d k hk j hj fq⟩));exact this.tr aG fun a ha k hk=>.x (.inr ⟨ha,hk⟩)
  ·simp only[Jq,List.mem_singleton]at ha
   rcases ha with((ha|rfl)|rfl)|ha
   ·exact hW.q a (by simp[ha])
   ·exact⟨hz,mw⟩
   ·exact⟨my,fE.pw _⟩
   ·obtain⟨a1,k,u,a2,a3⟩:=W3 a ha
    have hu:=(hW.t.h a2).2.1;refine⟨a1,Gen.right G hL (.m fE (hW.th a2)) a1 ?_⟩;rw[a3];exact .m (hW.th a2) fE
  ·simp only[Jl]at ha
   rcases ha with rfl|ha
   ·exact .inl rfl
   ·exact .inr (by simp[ha])
  ·obtain⟨w,w1,w2⟩:=W4 k u hu
   exact⟨w,by simp[w1],.inr w2⟩
 ·rw[show(((d':Nat):Int)==(z.length:Int))=aP from by simp;omega,zH]
  refine⟨b,g,Q,rfl,hb,?_,.inl ⟨rfl,rfl⟩⟩;have bT:z=zeros (suf x 0).length:=F.ex hz G.ein fun j hj=>by have e0:=F.e0 hj;rw[e0,s4 j (by omega)]
  refine Wl.drop hW (x:=q) (fun k hk=>?_) (fun a ha=>by simp[ha]) (fun a ha=>by simpa using ha);exact sf.g k Q (fun a ha=>(hW.q a (by simp[ha])).1) hk (by rw[bT];exact .one)
theorem zNc{L:Vec→Prop}(hL:∀a,L a→V (suf x 0) a){b:Mx}(hb:b.length=x.zA.length){M:Mx}(hW:WlB x L b M)(hM:M.length≤1000):
  ∃(g:Bool)(b':Mx),f_w ⟨x,b⟩ M=aN (g,⟨x,b'⟩)∧b'.length=x.zA.length∧WlB x L b' []:=by
 have h6:=h.os.1;obtain⟨r,r1,b',g,rfl,r2,r3⟩:=wN (body:=zLs) (Q:=fun r=> ∃(b':Mx)(g:Bool),r=(x,b',g)∧b'.length=x.zA.length∧WlB x L b' [])
  (fun s=> ∃(b:Mx)(g:Bool)(Q:Mx),s=(x,b,g,Q)∧b.length=x.zA.length∧WlB x L b Q∧zAD b*20+Q.length≤2000) (fun s=>zAD s.2.1*20+s.2.2.2.length) (fun s hs=>by
   obtain⟨b,g,Q,rfl,hb,hW,hm⟩:=hs;cases Q with
   |nil=>
    right;unfold zLs;simp only
    rw[show decide ((([]:Mx).length:Int)> 0)=aQ from rfl,zI];exact⟨_,rfl,b,g,rfl,hb,hW⟩
   |cons q Q=>
    left;simp only[Jh]at hm;obtain⟨b',g',Q',e1,e2,e3,e4⟩:=zNb h hc hL hb hW (g:=g) (by omega);refine⟨_,e1,⟨b',g',Q',rfl,e2,e3,?_⟩,?_⟩
    ·rcases e4 with⟨rfl,rfl⟩|⟨e4,e5⟩<;>omega
    ·simp only[Jh]
     rcases e4 with⟨rfl,rfl⟩|⟨e4,e5⟩<;>omega) 100000 (x,b,aQ,M) (by have:=zAX b;simp only;omega) ⟨b,aQ,M,rfl,hb,hW,by have:=zAX b;omega⟩
 refine⟨g,b',?_,r2,r3⟩;unfold f_w zOz;rw[xD (by simp only[G7];omega),bs,bs,K3,r1,bs]
end
end Go.Pl

namespace Go.Pl
open Go Go.Ab Go.Wk Go.Pc
def vM(C:Nat→Option Vec)(k l:Nat):Mx:=(H7 k l).filterMap C
def zCv(C:Nat→Option Vec)(k l:Nat):List Int:=(H7 k l).filterMap fun j=>(C j).map fun _=>(j:Int)
theorem zCw{C:Nat→Option Vec}{k l:Nat}(h:C k=aO):vM C k (l+1)=vM C (k+1) l:=by simp only[vM,Lo,Lj,h]
theorem zCx{C:Nat→Option Vec}{k l:Nat}{t:Vec}(h:C k=aN t):vM C k (l+1)=t::vM C (k+1) l:=by simp only[vM,Lo,Lj,h]
theorem zFN{C:Nat→Option Vec}{k l:Nat}(h:C k=aO):zCv C k (l+1)=zCv C (k+1) l:=by simp only[zCv,Lo,Lj,h,Q8]
theorem zFO{C:Nat→Option Vec}{k l:Nat}{t:Vec}(h:C k=aN t):zCv C k (l+1)=(k:Int)::zCv C (k+1) l:=by simp only[zCv,Lo,Lj,h,Lm]
theorem zEF{C D:Nat→Option Vec}:∀(l k:Nat),(∀j,k≤j→C j=D j)→vM C k l=vM D k l
 |0,_,_=>rfl
 |l+1,k,h=>by
  have ih:=zEF l (k+1) fun j hj=>h j (by omega)
  cases hc:C k with
  |none=>rw[zCw hc,zCw (by rw[←h k (Ji _)];exact hc),ih]
  |some t=>rw[zCx hc,zCx (by rw[←h k (Ji _)];exact hc),ih]
theorem zGE(C:Nat→Option Vec)(k l:Nat):(vM C k l).length≤l:=by
 have:=List.length_filterMap_le C (H7 k l)
 rwa [List.length_range']at this
theorem zGF{α:Type}{u:List α}{i:Nat}{a:α}{v:List α}(h:u.drop i=a::v):i<u.length∧ixO u (i:Int)=aN a∧u.drop (i+1)=v:=by
 have hi:i<u.length:=by apply Classical.byContradiction;intro g;rw[Qd (by omega)]at h;cases h
 rw[H6 hi]at h;injection h with h1 h2;exact⟨hi,by rw[wG,J5 hi,h1],h2⟩
theorem zKZ{v:List Int}{d:Nat}(hd:d<v.length)(hl:v.length≤1000)(hz:∀j,j<d→at0 v j=0)(h1:at0 v d=1):zPM v=aN (d:Int):=by
 obtain⟨r,r1,rfl⟩:=vL (body:=zIs v) (Q:=fun r=>r=.inr (d:Int)) (fun i s=>s=(i:Int)) d (fun i s hi hs=>by
  subst hs;left;unfold zIs zPL;rw[xG (by omega),zH,yC 0 (by omega),bs,bs,show v.getD i 0=0 from hz i hi,show((0:Int) != 0)=aQ from rfl,zI,zC (by omega) (by omega),bs,cs];exact⟨_,rfl,rfl⟩) (fun s hs=>by
  subst hs;unfold zIs zPL;rw[xG hd,zH,yC 0 hd,bs,bs,show v.getD d 0=1 from h1,show((1:Int) != 0)=aP from rfl,zH];exact⟨_,rfl,rfl⟩) (s:=0) rfl
 unfold zPM;rw[r1,bs]
section
variable {x:SPr} (h:Pres x) (hc:wK (suf x 0)) {C:Nat→Option Vec} (hC:∀{j t},C j=aN t→j<x.zA.length∧V (suf x 0) t∧(∀i,i<j→at0 t i=0)∧at0 t j=1)
 include h hc hC
theorem zEG:∀(l k i:Nat)(u:Mx)(acc:List Int),k+l=x.zA.length→u.drop i=vM C k l→u.length≤1000→acc.length≤i→i≤u.length→zG (zJn u) (acc,(i:Int))=aN (acc++zCv C k l)
 |0,k,i,u,acc,hk,hu,hl,ha,hi=>by
  have:i=u.length:=by have:=congrArg Q5 hu;rw[Jbf]at this;simp[vM]at this;omega
  subst this;rw[yU];unfold zJn;simp only
  rw[jG,zI];simp[zCv]
 |l+1,k,i,u,acc,hk,hu,hl,ha,hi=>by
  have h6:=h.os.1;cases ht:C k with
  |none=>
   rw[zCw ht]at hu;rw[zFN ht];exact zEG l (k+1) i u acc (by omega) hu hl ha hi
  |some t=>
   rw[zCx ht]at hu;obtain⟨a1,a2,a3⟩:=zGF hu;obtain⟨c1,c2,c3,c4⟩:=hC ht;have t9:=zBd h hc c2;rw[yU];unfold zJn;simp only
   rw[xG a1,zH,a2,bs,zKZ (by omega) (by omega) c3 c4,bs,xD (by simp only[Jc];omega),bs,zC (by omega) (by omega),bs,cs];have:=zEG l (k+1) (i+1) u (acc++[(k:Int)]) (by omega) a3 hl (by simp only[J9,Jc];omega) (by omega);unfold zJn at this;simp only at this ⊢
   rw[this,zFO ht,Jb];rfl
theorem zNd(k l:Nat)(hk:k+l=x.zA.length):f_T (vM C k l)=aN (zCv C k l):=by have h6:=h.os.1;have:=zEG h hc hC l k 0 (vM C k l) [] hk rfl (by have:=zGE C k l;omega) (by simp) (by omega);unfold f_T;rw[show zG (zJn (vM C k l)) ([],0)=aN (zCv C k l)from by simpa using this,bs]
theorem zLa{u:Mx}{s:List Int×Int}{j:Nat}{t y:Vec}(ht:C j=aN t)(hu:ixO u s.2=aN t)(hy:V (suf x 0) y):∃z,(∀{Y:Vec→Prop},Gen (V (suf x 0)) (mul (suf x 0)) (zeros (suf x 0).length) Y t→Gen (V (suf x 0)) (mul (suf x 0)) (zeros (suf x 0).length) Y z)∧
  V (suf x 0) z∧(∀i,i<j→at0 z i=0)∧at0 (mul (suf x 0) y z) j=0∧zG (zLt x u s (j:Int)) y=aN (mul (suf x 0) y z):=by
 have F:=zEX h hc;have G:=g0 h hc;obtain⟨c1,c2,c3,c4⟩:=hC ht;have hr:=F.r hy c1;have ee:=(h.os.2 j c1).pos;obtain⟨n,hn⟩:∃n:Nat,(at0 y j=0∧n=0)∨(at0 y j≠0∧(n:Int)=at0 x.zA j-at0 y j):=by
  by_cases e:at0 y j=0
  ·exact⟨0,.inl ⟨e,rfl⟩⟩
  ·exact⟨(at0 x.zA j-at0 y j).toNat,.inr ⟨e,by omega⟩⟩
 have hp:=fun a=>F.pw1 c1 c2 c3 c4 a
 have az:∀a,at0 (mul (suf x 0) y (pw (mul (suf x 0)) (zeros (suf x 0).length) t a)) j=(at0 y j+a)%at0 x.zA j:=fun a=>by have:=(F.ad hy (hp a).1 c1 (hp a).2.1).2;rw[this,(hp a).2.2,Int.add_emod_emod]
 have hV:∀a,V (suf x 0) (mul (suf x 0) y (pw (mul (suf x 0)) (zeros (suf x 0).length) t a)):=fun a=>G.cl hy (hp a).1
 refine⟨pw (mul (suf x 0)) (zeros (suf x 0).length) t n,fun g=>g.pw n,(hp n).1,(hp n).2.1,?_,?_⟩
 ·rw[az]
  rcases hn with⟨e,rfl⟩|⟨e,hn⟩
  ·rw[e];simp
  ·rw[hn,show at0 y j+(at0 x.zA j-at0 y j)=at0 x.zA j from by omega,Uu]
 ·have:=zQ (body:=zLt x u s (j:Int)) (r:=mul (suf x 0) y (pw (mul (suf x 0)) (zeros (suf x 0).length) t n)) (fun a=>mul (suf x 0) y (pw (mul (suf x 0)) (zeros (suf x 0).length) t a)) n (fun a ha=>by
   have bD:=hV a;unfold zLt;rw[yC 0 (by rw[zBd h hc bD];exact c1),bs];rw[show Gg (mul (suf x 0) y (pw (mul (suf x 0)) (zeros (suf x 0).length) t a)) j 0=(at0 y j+a)%at0 x.zA j from az a];have gj:(at0 y j+a)%at0 x.zA j≠0:=by
    rcases hn with⟨e,rfl⟩|⟨e,hn⟩
    ·omega
    ·rw[K1 (by omega) (by omega)];omega
   rw[show((at0 y j+a)%at0 x.zA j != 0)=aP from by simpa using gj,zH,hu,bs,tv0 h hc bD c2,bs];have e1:mul (suf x 0) (mul (suf x 0) y (pw (mul (suf x 0)) (zeros (suf x 0).length) t a)) t=mul (suf x 0) y (pw (mul (suf x 0)) (zeros (suf x 0).length) t (a+1)):=by
    rw[G.assoc hy (hp a).1 c2]
    congr 1
    rw[pw,pw,wJ]
   rw[e1]) (by
   have bD:=hV n;unfold zLt;rw[yC 0 (by rw[zBd h hc bD];exact c1),bs];rw[show Gg (mul (suf x 0) y (pw (mul (suf x 0)) (zeros (suf x 0).length) t n)) j 0=0 from by
    have:=az n;rw[show Gg (mul (suf x 0) y (pw (mul (suf x 0)) (zeros (suf x 0).length) t n)) j 0=(at0 y j+n)%at0 x.zA j from this];rcases hn with⟨e,rfl⟩|⟨e,hn⟩
    ·rw[e];simp
    ·rw[hn,show at0 y j+(at0 x.zA j-at0 y j)=at0 x.zA j from by omega,Uu]]
   rw[show((0:Int) != 0)=aQ from rfl,zI])
  have e0:mul (suf x 0) y (pw (mul (suf x 0)) (zeros (suf x 0).length) t 0)=y:=G.oner hy;rw[e0]at this;exact this
theorem zIW{L:Vec→Prop}{d:Nat}(hL:∀{j t},C j=aN t→Gen (V (suf x 0)) (mul (suf x 0)) (zeros (suf x 0).length) L t){u:Mx}{P:List Int}:∀(l k i:Nat)(y:Vec),d<k→k+l=x.zA.length→u.drop i=vM C k l→P.drop i=zCv C k l→i≤P.length→i+l≤1000→
  Rd (V (suf x 0)) (mul (suf x 0)) (zeros (suf x 0).length) x.zA.length (fun v j=>at0 v j) L C d k y→
  ∃r,zG (zJo x u P) (y,(i:Int))=aN r∧Rd (V (suf x 0)) (mul (suf x 0)) (zeros (suf x 0).length) x.zA.length (fun v j=>at0 v j) L C d x.zA.length r
 |0,k,i,y,hdk,hk,hu,hP,hi,pO,hR=>by
  have:i=P.length:=by have:=congrArg Q5 hP;rw[Jbf]at this;simp[zCv]at this;omega
  subst this;have e:k=x.zA.length:=by omega
  rw[e]at hR;refine⟨y,?_,hR⟩;rw[yU];unfold zJo;simp only
  rw[jG,zI]
 |l+1,k,i,y,hdk,hk,hu,hP,hi,pO,hR=>by
  have h6:=h.os.1;have F:=zEX h hc;cases ht:C k with
  |none=>
   rw[zCw ht]at hu;rw[zFN ht]at hP;exact zIW hL l (k+1) i y (by omega) (by omega) hu hP hi (by omega) (hR.skip (.inl ht))
  |some t=>
   rw[zCx ht]at hu;rw[zFO ht]at hP;obtain⟨a1,a2,a3⟩:=zGF hu;obtain⟨p1,p2,p3⟩:=zGF hP;obtain⟨z,z1,z2,z3,z4,z5⟩:=zLa h hc hC (u:=u) (s:=(y,(i:Int))) ht a2 hR.s;have bS:=hR.step F hdk (by omega) z2 (z1 (hL ht)) z3 z4;obtain⟨r,r1,r2⟩:=zIW hL l (k+1) (i+1) _ (by omega) (by omega) a3 p3 (by omega) (by omega) bS;have f8:zJo x u P (y,(i:Int))=aN (.inl (mul (suf x 0) y z,((i+1:Nat):Int))):=by
    unfold zJo;simp only
    rw[xG p1,zH,p2,bs,z5,bs,zC (by omega) (by omega),bs,cs]
   exact⟨r,by rw[yU,f8];exact r1,r2⟩
end
end Go.Pl

namespace Go.Pl
open Go Go.Ab Go.Wk Go.Pc
section
variable {x:SPr} (h:Pres x) (hc:wK (suf x 0))
abbrev zGG(x:SPr)(L:Vec→Prop):Vec→Prop:=Gen (V (suf x 0)) (mul (suf x 0)) (zeros (suf x 0).length) L
abbrev zLb(x:SPr)(L:Vec→Prop)(C:Nat→Option Vec):Prop:=Pc.Can (e:=zeros (suf x 0).length) (V (suf x 0)) x.zA.length (fun v j=>at0 v j) (zGG x L) C
structure CI (x:SPr) (L:Vec→Prop) (b:Mx) (d:Nat) (C:Nat→Option Vec):Prop where
 c:∀{j t},C j=aN t→j<x.zA.length∧V (suf x 0) t∧(∀i,i<j→at0 t i=0)∧at0 t j=1
 lo:∀{j t},C j=aN t→d≤j
 g:∀{j t},C j=aN t→zGG x L t
 r:∀{j t},C j=aN t→ ∀i,j<i→i<x.zA.length→(C i).isSome=aP→at0 t i=0
 s:∀j,d≤j→(C j).isSome=(tbl b j).isSome
theorem CI.put{L:Vec→Prop}{b:Mx}{d:Nat}{C:Nat→Option Vec}(hI:CI x L b (d+1) C)(hd:d<x.zA.length){t r:Vec}(ht:tbl b d=aN t)(hr:Rd (V (suf x 0)) (mul (suf x 0)) (zeros (suf x 0).length) x.zA.length (fun v j=>at0 v j) L C d x.zA.length r):
  CI x L b d (fun j=>if j=d then aN r else C j)∧vM (fun j=>if j=d then aN r else C j) d (x.zA.length-d)=r::vM C (d+1) (x.zA.length-(d+1)):=by
 have key:∀{j t},(if j=d then aN r else C j)=aN t→(j=d∧t=r)∨(j≠d∧C j=aN t):=fun{j t} hj=>by
  split at hj
  ·rename_i e;cases hj;exact .inl ⟨e,rfl⟩
  ·rename_i e;exact .inr ⟨e,hj⟩
 refine⟨⟨fun hj=>?_,fun hj=>?_,fun hj=>?_,fun hj i hi gV hci=>?_,fun j hj=>?_⟩,?_⟩
 ·rcases key hj with⟨rfl,rfl⟩|⟨_,e⟩
  ·exact⟨hd,hr.s,hr.z,hr.o⟩
  ·exact hI.c e
 ·rcases key hj with⟨rfl,rfl⟩|⟨_,e⟩
  ·exact Ji _
  ·have:=hI.lo e;omega
 ·rcases key hj with⟨rfl,rfl⟩|⟨_,e⟩
  ·exact hr.l
  ·exact hI.g e
 ·replace hci:(if i=d then aN r else C i).isSome=aP:=hci
  rcases key hj with⟨rfl,rfl⟩|⟨_,e⟩
  ·rw[if_neg (by omega)]at hci
   exact hr.r i hi gV hci
  ·have:=hI.lo e
   rw[if_neg (by omega)]at hci;exact hI.r e i hi gV hci
 ·show(if j=d then aN r else C j).isSome=_
  by_cases e:j=d
  ·subst e;rw[if_pos rfl,ht];rfl
  ·rw[if_neg e];exact hI.s j (by omega)
 ·rw[show x.zA.length-d=(x.zA.length-(d+1))+1 from by omega,zCx (t:=r) (by simp)]
  congr 1
  exact zEF _ _ fun j hj=>by rw[if_neg (by omega)]
theorem CI.skip{L:Vec→Prop}{b:Mx}{d:Nat}{C:Nat→Option Vec}(hI:CI x L b (d+1) C)(hd:d<x.zA.length)(ht:tbl b d=aO):CI x L b d C∧vM C d (x.zA.length-d)=vM C (d+1) (x.zA.length-(d+1)):=by
 have hn:C d=aO:=by
  cases e:C d with
  |none=>rfl
  |some t=>have:=hI.lo e;omega
 refine⟨⟨hI.c,fun e=>by have:=hI.lo e;omega,hI.g,hI.r,fun j hj=>?_⟩,?_⟩
 ·by_cases e:j=d
  ·subst e;rw[hn,ht]
  ·exact hI.s j (by omega)
 ·rw[show x.zA.length-d=(x.zA.length-(d+1))+1 from by omega,zCw hn]
theorem CI.start{L:Vec→Prop}{b:Mx}(hb:b.length=x.zA.length):CI x L b x.zA.length (fun _=>aO):=
 ⟨(fun e=>by cases e),(fun e=>by cases e),(fun e=>by cases e),(fun e=>by cases e),fun j hj=>by rw[vD.2 (by rw[J4,List.getElem?_eq_none (by omega)];rfl)]⟩
 include h hc
theorem CI.can{L:Vec→Prop}{b:Mx}{C:Nat→Option Vec}(hI:CI x L b 0 C)(hW:WlB x L b []):zLb x L C:=
 Wl.can (zEX h hc) hW (fun k=>hI.s k (by omega)) fun{k t} e=>by obtain⟨c1,c2,c3,c4⟩:=hI.c e;exact⟨hI.g e,c2,c3,c4,hI.r e⟩
theorem zNe{L:Vec→Prop}{b:Mx}{d:Nat}{C:Nat→Option Vec}(hI:CI x L b (d+1) C)(hd:d<x.zA.length){t:Vec}(hT:V (suf x 0) t)(hg:zGG x L t)(hz:∀i,i<d→at0 t i=0)(h1:at0 t d=1):
  ∃r,f_m x (vM C (d+1) (x.zA.length-(d+1))) t=aN r∧Rd (V (suf x 0)) (mul (suf x 0)) (zeros (suf x 0).length) x.zA.length (fun v j=>at0 v j) L C d x.zA.length r:=by
 have h6:=h.os.1;have gJ:f_G t=aN t:=by
  have:=zEz h (k:=0) (by omega) hc hT
  rwa [fv0]at this
 obtain⟨r,r1,r2⟩:=zIW h hc (C:=C) (fun e=>hI.c e) (L:=L) (d:=d) (fun e=>hI.g e) (u:=vM C (d+1) (x.zA.length-(d+1))) (P:=zCv C (d+1) (x.zA.length-(d+1))) (x.zA.length-(d+1)) (d+1) 0 t (by omega) (by omega) rfl rfl (by omega) (by omega)
  ⟨hT,hg,hz,h1,fun i hi pO=>by omega⟩
 refine⟨r,?_,r2⟩;unfold f_m;rw[gJ,bs,zNd h hc (C:=C) (fun e=>hI.c e) (d+1) _ (by omega),bs];have r1':zG (zJo x (vM C (d+1) (x.zA.length-(d+1))) (zCv C (d+1) (x.zA.length-(d+1)))) (t,0)=aN r:=r1;rw[r1',bs]
theorem zIX{L:Vec→Prop}{b:Mx}(hb:b.length=x.zA.length)(hW:WlB x L b []):∃C,f_U ⟨x,b⟩=aN (vM C 0 x.zA.length)∧zLb x L C:=by
 have h6:=h.os.1;obtain⟨r,r1,C,rfl,r2⟩:=wN (body:=zPR ⟨x,b⟩) (Q:=fun r=> ∃C,r=vM C 0 x.zA.length∧CI x L b 0 C)
  (fun s=> ∃(d:Nat)(C:Nat→Option Vec),s=(vM C d (x.zA.length-d),(d:Int)-1)∧d≤x.zA.length∧CI x L b d C) (fun s=>(s.2+1).toNat) (fun s hs=>by
   obtain⟨d,C,rfl,hd,hI⟩:=hs;unfold zPR;simp only
   cases d with
   |zero=>
    right;rw[show decide (((0:Nat):Int)-1≥0)=aQ from rfl,zI];exact⟨_,rfl,C,rfl,hI⟩
   |succ d=>
    left;rw[show(((d+1:Nat):Int)-1)=(d:Int)from by omega,show decide ((d:Int)≥0)=aP from aS (by omega),zH,yC [] (by omega),bs];cases ht:b.getD d []with
    |nil=>
     obtain⟨i1,i2⟩:=hI.skip (by omega) (vD.2 ht);rw[show(!(([]:List Int)).isEmpty)=aQ from rfl,zI,zC (by omega) (by omega),bs];exact⟨_,rfl,⟨d,C,by rw[i2],by omega,i1⟩,by simp only;omega⟩
    |cons t0 ts=>
     have ea:tbl b d=aN (t0::ts):=tB.2 ⟨ht,by simp⟩;obtain⟨t1,t2,t3,t4⟩:=hW.t.h ea;obtain⟨r,e1,e2⟩:=zNe h hc hI (by omega) t2 (hW.th ea) t3 t4;obtain⟨i1,i2⟩:=hI.put (by omega) ea e2;rw[show(!((t0::ts)).isEmpty)=aP from rfl,zH,bs,e1,bs,xD (by have:=zGE C (d+1) (x.zA.length-(d+1));simp only[Jc];omega),bs,zC (by omega) (by omega),bs];exact⟨_,rfl,⟨d,_,by rw[i2];rfl,by omega,i1⟩,by simp only;omega⟩) 1000 ([],(x.zA.length:Int)-1) (by simp only;omega) ⟨x.zA.length,fun _=>aO,by simp[vM],Ji _,CI.start hb⟩
 refine⟨C,?_,r2.can h hc hW⟩;unfold f_U;simp only
 rw[hb,zC (by omega) (by omega),bs,r1,bs]
theorem zFP{M:Mx}(hM:∀a∈M,V (suf x 0) a):WlB x (· ∈M) (J1 x.zA.length []) M:=by
 have e:tbl (J1 x.zA.length [])=fun _=>aO:=by
  funext k
  rw[vD,J4,Js];split<;>rfl
 have _:=h;have _:=hc;rw[WlB,e];exact Wl.start M hM
end
end Go.Pl

namespace Go.Pl
open Go Go.Ab Go.Wk Go.Pc
theorem zPq{C:Nat→Option Vec}(k l:Nat):vM C k (l+1)=vM C k l++(match C (k+l)with
  |none=>[]
  |some t=>[t]):=by
 unfold vM;rw[List.range'_1_concat,List.filterMap_append]
 congr 1
 cases h:C (k+l)<;>simp[h]
section
variable {x:SPr} (h:Pres x) (hc:wK (suf x 0))
 include h hc
theorem zFQ{b:Mx}{d:Nat}{t y:Vec}(hd:d<x.zA.length)(ht:V (suf x 0) t)(zt:∀j,j<d→at0 t j=0)(h1:at0 t d=1)(hy:V (suf x 0) y)(hn:at0 y d≠0)(hb:b.getD d []=t):
  ∃z,f_S x t (0-at0 y d)=aN z∧V (suf x 0) z∧(∀{Y:Vec→Prop},(∀a,Y a→V (suf x 0) a)→zGG x Y t→zGG x Y z)∧(∀j,j<d→at0 z j=0)∧at0 (mul (suf x 0) y z) d=0:=by
 have F:=zEX h hc;have hr:=F.r hy hd;have ee:=(h.os.2 d hd).pos;have _:=hb;obtain⟨u,u1,u2,u3⟩:=zTl h hc ht (e:=at0 y d) (by have:=hr.1;omega) (by have:=hr.2;omega);obtain⟨k1,k2,k3⟩:=F.killr hd ht u1 u2 zt h1 hy;exact⟨_,by rw[show(0:Int)-at0 y d= -at0 y d from by omega];exact u3,k1,fun _ g=>(Gen.i g u1 u2).pw _,k2,k3⟩
theorem zIY{b:Mx}(hb:b.length=x.zA.length)(hT:Tab (V (suf x 0)) x.zA.length (fun v d=>at0 v d) (tbl b)){y:Vec}(hy:V (suf x 0) y):∃(z:Vec)(d:Nat),zPN x b y=aN ((d:Int),z)∧
  Sf (V (suf x 0)) (mul (suf x 0)) (zeros (suf x 0).length) x.zA.length (fun v d=>at0 v d) (tbl b) y z∧d≤x.zA.length∧(∀j,j<d→at0 z j=0)∧(d<x.zA.length→at0 z d≠0∧tbl b d=aO):=by
 have h6:=h.os.1;have F:=zEX h hc;obtain⟨r,r1,r2⟩:=vL (body:=zIu x b) (Q:=fun r=>match r with
   |.inl z=>Sf (V (suf x 0)) (mul (suf x 0)) (zeros (suf x 0).length) x.zA.length (fun v d=>at0 v d) (tbl b) y z∧ ∀j,j<x.zA.length→at0 z j=0
   |.inr p=> ∃(z:Vec)(d:Nat),p=((d:Int),z)∧Sf (V (suf x 0)) (mul (suf x 0)) (zeros (suf x 0).length) x.zA.length (fun v d=>at0 v d) (tbl b) y z∧d<x.zA.length∧(∀j,j<d→at0 z j=0)∧at0 z d≠0∧tbl b d=aO)
  (fun d s=> ∃z:Vec,s=(z,(d:Int))∧Sf (V (suf x 0)) (mul (suf x 0)) (zeros (suf x 0).length) x.zA.length (fun v d=>at0 v d) (tbl b) y z∧ ∀j,j<d→at0 z j=0) x.zA.length (fun d s hd hs=>by
   obtain⟨z,rfl,sf,z0⟩:=hs;have hz:=sf.s;have cc:=zBd h hc hz;unfold zIu;simp only
   rw[show decide ((d:Int)<(b.length:Int))=aP from aS (by omega),zH,yC 0 (by omega),bs]
   by_cases h0:at0 z d=0
   ·left
    rw[show z.getD d 0=0 from h0,show((0:Int)==0)=aP from rfl,zH,zC (by omega) (by omega),bs,cs];refine⟨_,rfl,z,rfl,sf,fun j hj=>?_⟩
    by_cases e:j=d
    ·rw[e];exact h0
    ·exact z0 j (by omega)
   ·rw[show(z.getD d 0==0)=aQ from by simpa using h0,zI,yC [] (by omega),bs]
    cases ht:b.getD d []with
    |nil=>
     right;rw[show(((([]:List Int)).length:Int)==0)=aP from rfl,zH];exact⟨_,rfl,z,d,rfl,sf,hd,z0,h0,vD.2 ht⟩
    |cons t0 ts=>
     left;have ea:tbl b d=aN (t0::ts):=tB.2 ⟨ht,by simp⟩;obtain⟨_,t2,t3,t4⟩:=hT.h ea;obtain⟨w,w1,w2,w3,w4,w5⟩:=zFQ h hc hd t2 t3 t4 hz h0 ht;obtain⟨s1,s2⟩:=Sf.right F hT hd hz z0 h0 ea w3 w2 w4 w5;have hr:=F.r hz hd;have ee:=(h.os.2 d hd).pos;rw[show((((t0::ts):List Int).length:Int)==0)=aQ from by simp;omega,zI,bs,bs];rw[show z.getD d 0=at0 z d from rfl,zC (by have:=hr.2;omega) (by have:=hr.1;omega),bs,w1,bs,zId h hc hz w2,bs,zC (by omega) (by omega),bs,cs];exact⟨_,rfl,_,rfl,sf.trans s1,s2⟩) (fun s hs=>by
   obtain⟨z,rfl,sf,z0⟩:=hs;unfold zIu;simp only
   rw[show decide ((x.zA.length:Int)<(b.length:Int))=aQ from aR (by omega),zI];exact⟨_,rfl,sf,z0⟩) (s:=(y,0)) ⟨y,rfl,Sf.refl hy,fun j hj=>by omega⟩
 unfold zPN;rw[qI (by rw[zBd h hc hy];omega),bs,r1,bs];cases r with
 |inl z=>exact⟨z,x.zA.length,by simp only[hb],r2.1,Ji _,r2.2,fun hh=>absurd hh (Ja0 _)⟩
 |inr p=>
  obtain⟨z,d,rfl,p1,p2,p3,p4,p5⟩:=r2;exact⟨z,d,rfl,p1,by omega,p3,fun _=>⟨p4,p5⟩⟩
theorem zIZ{b:Mx}(hb:b.length=x.zA.length)(hT:Tab (V (suf x 0)) x.zA.length (fun v d=>at0 v d) (tbl b)){y:Vec}(hy:V (suf x 0) y){d:Nat}(hd:d<x.zA.length)(hn:tbl b d=aO){s:Mx×Mx}(hs:s.1=b){g:Int×List Int}(hg:g.1=(d:Int)){Q:Mx}(hQ:Q.length≤100000):
  ∃W:Mx,zG (zLp x s g y) (Q,0)=aN (Q++W)∧W.length≤x.zA.length∧(∀w∈W,V (suf x 0) w∧ ∃k u,tbl b k=aN u∧mul (suf x 0) (mul (suf x 0) u y) w=mul (suf x 0) y u)∧
   ∀k u,tbl b k=aN u→ ∃w,w∈W∧mul (suf x 0) (mul (suf x 0) u y) w=mul (suf x 0) y u:=by
 have h6:=h.os.1;obtain⟨r,r1,W,rfl,r2,r3,r4⟩:=vL (body:=zLp x s g y)
  (Q:=fun r=> ∃W:Mx,r=Q++W∧W.length≤x.zA.length∧(∀w∈W,V (suf x 0) w∧ ∃k u,tbl b k=aN u∧mul (suf x 0) (mul (suf x 0) u y) w=mul (suf x 0) y u)∧
   ∀k u,tbl b k=aN u→ ∃w,w∈W∧mul (suf x 0) (mul (suf x 0) u y) w=mul (suf x 0) y u)
  (fun i s=> ∃W:Mx,s=(Q++W,(i:Int))∧W.length≤i∧(∀w∈W,V (suf x 0) w∧ ∃k u,tbl b k=aN u∧mul (suf x 0) (mul (suf x 0) u y) w=mul (suf x 0) y u)∧
   ∀k u,k<i→tbl b k=aN u→ ∃w,w∈W∧mul (suf x 0) (mul (suf x 0) u y) w=mul (suf x 0) y u) x.zA.length (fun i s' hi gE=>by
   obtain⟨W,rfl,w1,w2,w3⟩:=gE;left;unfold zLp;simp only[hs,hg];rw[xG hi,zH]
   by_cases e:i=d
   ·subst e
    rw[show(((i:Nat):Int) != (i:Int))=aQ from by simp,zI,zC (by omega) (by omega),bs,cs];refine⟨_,rfl,W,rfl,by omega,w2,fun k u hk hu=>?_⟩
    by_cases e:k=i
    ·subst e;rw[hn]at hu;cases hu
    ·exact w3 k u (by omega) hu
   ·rw[show(((i:Nat):Int) != (d:Int))=aP from by simp;omega,zH,show((d:Nat):Int).toNat=d from rfl,yC [] (by rw[Ku];omega),bs]
    rw[show(b.set d y).getD i []=b.getD i []from by rw[J4,Hm (fun g=>e g.symm),←J4]];cases ht:b.getD i []with
    |nil=>
     rw[show decide (((([]:List Int)).length:Int)> 0)=aQ from rfl,zI,zC (by omega) (by omega),bs,cs];refine⟨_,rfl,W,rfl,by omega,w2,fun k u hk hu=>?_⟩
     by_cases e:k=i
     ·subst e
      rw[vD.2 ht]at hu;cases hu
     ·exact w3 k u (by omega) hu
    |cons t0 ts=>
     have ea:tbl b i=aN (t0::ts):=tB.2 ⟨ht,by simp⟩;obtain⟨_,t2,_,_⟩:=hT.h ea;obtain⟨w,v1,v2,v3⟩:=zRt h hc hy t2;rw[show decide ((((t0::ts):List Int).length:Int)> 0)=aP from aS (by simp only[Jh];omega),zH,v3,bs,xD (by simp only[J9,Jc];omega),bs,zC (by omega) (by omega),bs,cs];refine⟨_,rfl,W++[w],by rw[Jb],by simp only[J9,Jc];omega,fun a ha=>?_,fun k u hk hu=>?_⟩
     ·rcases Jq.1 ha with ha|ha
      ·exact w2 a ha
      ·simp at ha;subst ha
       exact⟨v1,i,_,ea,v2⟩
     ·by_cases e:k=i
      ·subst e
       rw[ea]at hu;cases hu;exact⟨w,by simp,v2⟩
      ·obtain⟨a,a1,a2⟩:=w3 k u (by omega) hu
       exact⟨a,by simp[a1],a2⟩) (fun s' gE=>by
   obtain⟨W,rfl,w1,w2,w3⟩:=gE;unfold zLp;simp only
   rw[jG,zI];exact⟨_,rfl,W,rfl,w1,w2,fun k u hu=>w3 k u (hT.h hu).1 hu⟩) (s:=(Q,0)) ⟨[],by simp,Ji _,by simp,fun k u hk=>by omega⟩
 exact⟨W,r1,r2,r3,r4⟩
theorem zJa{L:Vec→Prop}(hL:∀a,L a→V (suf x 0) a){b:Mx}(hb:b.length=x.zA.length){q:Vec}{Q:Mx}(hW:WlB x L b (Q++[q]))(hQ:Q.length≤10000):
  ∃(b':Mx)(Q':Mx),zLq x (b,Q++[q])=aN (.inl (b',Q'))∧b'.length=x.zA.length∧WlB x L b' Q'∧
   (b'=b∧Q'=Q∨zAD b'+1=zAD b∧Q'.length≤Q.length+x.zA.length+2):=by
 have h6:=h.os.1;have F:=zEX h hc;have G:=g0 h hc;have hq:=hW.q q (by simp);obtain⟨z,d,s1,sf,s3,s4,s5⟩:=zIY h hc hb hW.t hq.1;have hz:=sf.s;have cc:=zBd h hc hz;unfold zLq;simp only
 have gg:((Q++[q]).length:Int)=(Q.length:Int)+1:=by simp
 rw[show decide (((Q++[q]).length:Int)> 0)=aP from aS (by omega),zH,gg,show(Q.length:Int)+1-1=(Q.length:Int)from by omega,zC (by omega) (by omega),bs];rw[show ixO (Q++[q]) (Q.length:Int)=aN q from by rw[wG,Jd (Ji _),K6];rfl,bs];rw[show yF (Q++[q]) 0 (Q.length:Int)=aN Q from by unfold yF;rw[if_pos ⟨by omega,by omega,by omega⟩];simp,bs,s1,bs]
 dsimp only
 by_cases hd:d<x.zA.length
 ·obtain⟨n1,n2⟩:=s5 hd
  have ee:=h.os.2 d hd;have hp7:=ee.pos;have hr:=F.r hz hd;obtain⟨v,v1,v2,v3,v4⟩:=zMY ee (x:=at0 z d) (by have:=hr.1;omega) (by have:=hr.2;omega);have fD:V (suf x 0) (pw (mul (suf x 0)) (zeros (suf x 0).length) z v.toNat):=xN G.toMon hz _;obtain⟨y,fC⟩:∃y,y=pw (mul (suf x 0)) (zeros (suf x 0).length) z v.toNat:=⟨_,rfl⟩;rw[←fC]at fD;have pb:=F.pwc hd hz s4 v.toNat;rw[←fC]at pb;have ff:at0 y d=1:=by have:=pb.2;rw[this,show((v.toNat:Nat):Int)=v from by omega,Int.mul_comm];exact v4
  have my:V (suf x 0) (pw (mul (suf x 0)) (zeros (suf x 0).length) y (at0 x.zA d).toNat):=xN G.toMon fD _;have fe:y≠[]:=zEE (d:=d) (by rw[ff];decide);rw[show(((d:Nat):Int)==(x.zA.length:Int))=aQ from by simp;omega,zI,yC 0 (by omega),bs,yC 0 hd,bs];rw[show z.getD d 0=at0 z d from rfl,show x.zA.getD d 0=at0 x.zA d from rfl,v1,bs,zQ0 h hc hz v2 (by omega),bs,←fC,yC [] (by omega),bs,xD (by simp only[Jc];omega),bs];rw[zQ0 h hc fD (by omega) (by omega),bs,xD (by simp only[J9,Jc];omega),bs];obtain⟨W,W1,W2,W3,W4⟩:=zIZ h hc hb hW.t fD hd n2 (s:=(b,Q++[q])) rfl (g:=((d:Int),z)) rfl (Q:=Q++[z]++[pw (mul (suf x 0)) (zeros (suf x 0).length) y (at0 x.zA d).toNat]) (by simp only[J9,Jc];omega);rw[W1,bs];refine⟨_,_,rfl,by rw[Ku];exact hb,?_,.inr ⟨zED b d y (by omega) (vD.1 n2) fe,by simp only[J9,Jc];omega⟩⟩;rw[show((d:Nat):Int).toNat=d from rfl];have gp:=zGD (b:=b) (d:=d) (y:=y) (by omega) fe;have mw:zGG x L z:=sf.h L hL hW.th hq.2;have fE:zGG x L y:=by rw[fC];exact mw.pw _
  rw[WlB,gp];refine Wl.add F hW hd n2 fD fE pb.1 ff (x:=q) (fun k hk=>?_) (fun a ha=>?_) (fun a ha=>?_) (by simp) (fun k u hu=>?_)
  ·have aG:∀k t,tbl b k=aN t→(fun j=>if j=d then aN y else tbl b j) k=aN t:=fun k t hk=>by
    show(if k=d then aN y else tbl b k)=aN t;rw[if_neg]
    ·exact hk
    ·intro e;rw[e,n2]at hk;cases hk
   have aJ:∀a∈Q++[z]++[pw (mul (suf x 0)) (zeros (suf x 0).length) y (at0 x.zA d).toNat]++W,V (suf x 0) a:=fun a ha=>by
    simp only[Jq,List.mem_singleton]at ha;rcases ha with((ha|rfl)|rfl)|ha
    ·exact(hW.q a (by simp[ha])).1
    ·exact hz
    ·exact my
    ·exact(W3 a ha).1
   have:=sf.g k (Q++[z]++[pw (mul (suf x 0)) (zeros (suf x 0).length) y (at0 x.zA d).toNat]++W) aJ hk (.x (.inr ⟨by simp,fun j hj fq=>sf.d k hk j hj fq⟩));exact this.tr aG fun a ha k hk=>.x (.inr ⟨ha,hk⟩)
  ·simp only[Jq,List.mem_singleton]at ha
   rcases ha with((ha|rfl)|rfl)|ha
   ·exact hW.q a (by simp[ha])
   ·exact⟨hz,mw⟩
   ·exact⟨my,fE.pw _⟩
   ·obtain⟨a1,k,u,a2,a3⟩:=W3 a ha
    refine⟨a1,Gen.right G hL (.m (hW.th a2) fE) a1 ?_⟩;rw[a3];exact .m fE (hW.th a2)
  ·simp only[Jq,List.mem_singleton]at ha
   rcases ha with ha|rfl
   ·exact .inr (by simp[ha])
   ·exact .inl rfl
  ·obtain⟨w,w1,w2⟩:=W4 k u hu
   exact⟨w,by simp[w1],.inl w2⟩
 ·rw[show(((d:Nat):Int)==(x.zA.length:Int))=aP from by simp;omega,zH]
  refine⟨b,Q,rfl,hb,?_,.inl ⟨rfl,rfl⟩⟩;have bT:z=zeros (suf x 0).length:=F.ex hz G.ein fun j hj=>by have e0:=F.e0 hj;rw[e0,s4 j (by omega)]
  refine Wl.drop hW (x:=q) (fun k hk=>?_) (fun a ha=>by simp[ha]) (fun a ha=>by simp at ha;rcases ha with ha|ha;exact .inr ha;exact .inl ha);exact sf.g k Q (fun a ha=>(hW.q a (by simp[ha])).1) hk (by rw[bT];exact .one)
end
end Go.Pl

namespace Go.Pl
open Go Go.Ab Go.Wk Go.Pc
section
variable {x:SPr} (h:Pres x) (hc:wK (suf x 0))
 include h hc
theorem zJb{L:Vec→Prop}{b D:Mx}{d:Nat}(hb:b.length=x.zA.length)(hD:D.length=x.zA.length)(hI:CI x L b (d+1) (tbl D))(hd:d<x.zA.length){s:Mx×Int}(hs:s.1=D){t:Vec}(hT:V (suf x 0) t)(hg:zGG x L t)(hz:∀i,i<d→at0 t i=0)(h1:at0 t d=1)(hL:∀a,L a→V (suf x 0) a):
  ∃r,zG (zOy x b s) (t,((d+1:Nat):Int))=aN r∧Rd (V (suf x 0)) (mul (suf x 0)) (zeros (suf x 0).length) x.zA.length (fun v j=>at0 v j) L (tbl D) d x.zA.length r:=by
 have h6:=h.os.1;have F:=zEX h hc;have _:=hL;obtain⟨r,r1,r2⟩:=wN (body:=zOy x b s) (Q:=fun r=>Rd (V (suf x 0)) (mul (suf x 0)) (zeros (suf x 0).length) x.zA.length (fun v j=>at0 v j) L (tbl D) d x.zA.length r)
  (fun st=> ∃(k:Nat)(y:Vec),st=(y,(k:Int))∧d<k∧k≤x.zA.length∧Rd (V (suf x 0)) (mul (suf x 0)) (zeros (suf x 0).length) x.zA.length (fun v j=>at0 v j) L (tbl D) d k y) (fun st=>x.zA.length-st.2.toNat) (fun st gD=>by
   obtain⟨k,y,rfl,k1,k2,hR⟩:=gD;have hy:=hR.s;unfold zOy;simp only[hs]
   by_cases hk:k<x.zA.length
   ·left
    rw[show decide ((k:Int)<(b.length:Int))=aP from aS (by omega),zH,yC [] (by omega),bs];cases ht:D.getD k []with
    |nil=>
     rw[show decide (((([]:List Int)).length:Int)> 0)=aQ from rfl,zI,zC (by omega) (by omega),bs,cs];exact⟨_,rfl,⟨k+1,y,rfl,by omega,by omega,hR.skip (.inl (vD.2 ht))⟩,by simp only[Jn];omega⟩
    |cons t0 ts=>
     have ea:tbl D k=aN (t0::ts):=tB.2 ⟨ht,by simp⟩;obtain⟨_,t2,t3,t4⟩:=hI.c ea;rw[show decide ((((t0::ts):List Int).length:Int)> 0)=aP from aS (by simp only[Jh];omega),zH,yC 0 (by rw[zBd h hc hy];exact hk),bs]
     by_cases h0:at0 y k=0
     ·rw[show(y.getD k 0 != 0)=aQ from by simpa using h0,zI,zC (by omega) (by omega),bs,cs]
      exact⟨_,rfl,⟨k+1,y,rfl,by omega,by omega,hR.skip (.inr h0)⟩,by simp only[Jn];omega⟩
     ·obtain⟨w,w1,w2,w3,w4,w5⟩:=zFQ h hc hk t2 t3 t4 hy h0 ht
      have hr:=F.r hy hk;have ee:=(h.os.2 k hk).pos;have hw:zGG x L w:=w3 hL (hI.g ea);rw[show(y.getD k 0 != 0)=aP from by simpa using h0,zH,bs,bs,show y.getD k 0=at0 y k from rfl,zC (by have:=hr.2;omega) (by have:=hr.1;omega),bs,w1,bs,zId h hc hy w2,bs,zC (by omega) (by omega),bs,cs];exact⟨_,rfl,⟨k+1,_,rfl,by omega,by omega,hR.step F k1 hk w2 hw w4 w5⟩,by simp only[Jn];omega⟩
   ·right
    have e:k=x.zA.length:=by omega
    subst e;rw[show decide ((x.zA.length:Int)<(b.length:Int))=aQ from aR (by omega),zI];exact⟨_,rfl,hR⟩) 1000 (t,((d+1:Nat):Int)) (by simp only;omega) ⟨d+1,t,rfl,by omega,by omega,hT,hg,hz,h1,fun i hi pO=>by omega⟩
 exact⟨r,r1,r2⟩
theorem zNf{D:Mx}(hD:D.length=x.zA.length):zG (zLo D) ([],0)=aN (vM (tbl D) 0 x.zA.length):=by
 have h6:=h.os.1;have _:=hc;have:=zQ (body:=zLo D) (r:=vM (tbl D) 0 x.zA.length) (fun i=>(vM (tbl D) 0 i,(i:Int))) x.zA.length (fun i hi=>by
  have hl:=zGE (tbl D) 0 i;unfold zLo;simp only
  rw[show decide ((i:Int)<(D.length:Int))=aP from aS (by omega),zH,yC [] (by omega),bs,zPq,J6];cases ht:D.getD i []with
  |nil=>
   rw[show decide (((([]:List Int)).length:Int)> 0)=aQ from rfl,zI,zC (by omega) (by omega),bs,cs,vD.2 ht];simp
  |cons t0 ts=>
   rw[show decide ((((t0::ts):List Int).length:Int)> 0)=aP from aS (by simp only[Jh];omega),zH,bs,xD (by simp only[Jc];omega),bs,zC (by omega) (by omega),bs,cs,(tB (t:=t0::ts)).2 ⟨ht,by simp⟩]) (by
  unfold zLo;simp only
  rw[show decide ((x.zA.length:Int)<(D.length:Int))=aQ from aR (by omega),zI])
 exact this
theorem zLc{L:Vec→Prop}(hL:∀a,L a→V (suf x 0) a){b:Mx}(hb:b.length=x.zA.length)(hW:WlB x L b []):∃C,f_j x b=aN (vM C 0 x.zA.length)∧zLb x L C:=by
 have h6:=h.os.1;have e0:tbl (J1 x.zA.length [])=fun _=>aO:=by
  funext k
  rw[vD,J4,Js];split<;>rfl
 obtain⟨D,r1,r2,r3⟩:=wN (body:=zPP x b) (Q:=fun D=>D.length=x.zA.length∧CI x L b 0 (tbl D))
  (fun s=> ∃(d:Nat)(D:Mx),s=(D,(d:Int)-1)∧d≤x.zA.length∧D.length=x.zA.length∧CI x L b d (tbl D)) (fun s=>(s.2+1).toNat) (fun s hs=>by
   obtain⟨d,D,rfl,hd,hD,hI⟩:=hs;unfold zPP;simp only
   cases d with
   |zero=>
    right;rw[show decide (((0:Nat):Int)-1≥0)=aQ from rfl,zI];exact⟨_,rfl,hD,hI⟩
   |succ d=>
    left;rw[show(((d+1:Nat):Int)-1)=(d:Int)from by omega,show decide ((d:Int)≥0)=aP from aS (by omega),zH,yC [] (by omega),bs];cases ht:b.getD d []with
    |nil=>
     obtain⟨i1,_⟩:=hI.skip (by omega) (vD.2 ht);rw[show(((([]:List Int)).length:Int)==0)=aP from rfl,zH,zC (by omega) (by omega),bs];exact⟨_,rfl,⟨d,D,rfl,by omega,hD,i1⟩,by simp only;omega⟩
    |cons t0 ts=>
     have ea:tbl b d=aN (t0::ts):=tB.2 ⟨ht,by simp⟩;obtain⟨t1,t2,t3,t4⟩:=hW.t.h ea;obtain⟨r,e1,e2⟩:=zJb h hc hb hD hI (by omega) (s:=(D,(d:Int))) rfl t2 (hW.th ea) t3 t4 hL;obtain⟨i1,_⟩:=hI.put (by omega) ea e2;have tj:r≠[]:=zEE (d:=d) (by have:=e2.o;rw[this];decide);rw[show((((t0::ts):List Int).length:Int)==0)=aQ from by simp;omega,zI,bs,zC (by omega) (by omega),bs,cs,e1,bs,yC [] (by omega),bs,zC (by omega) (by omega),bs,show((d:Nat):Int).toNat=d from rfl];refine⟨_,rfl,⟨d,_,rfl,by omega,by rw[Ku];exact hD,?_⟩,by simp only;omega⟩;rw[zGD (by omega) tj];exact i1) 1000 (J1 x.zA.length [],(x.zA.length:Int)-1) (by simp only;omega) ⟨x.zA.length,_,rfl,Ji _,by simp,by rw[e0];exact CI.start hb⟩
 refine⟨tbl D,?_,r3.can h hc hW⟩;unfold f_j;rw[hb,yO (by omega),bs,zC (by omega) (by omega),bs,r1,bs,zNf h hc r2,bs]
theorem zJc{M:Mx}(hM:∀a∈M,V (suf x 0) a)(hl:M.length≤1000):∃C,f_o x M=aN (vM C 0 x.zA.length)∧zLb x (· ∈M) C:=by
 have h6:=h.os.1;obtain⟨b,r1,r2,r3⟩:=wN (body:=zLq x) (Q:=fun b=>b.length=x.zA.length∧WlB x (· ∈M) b [])
  (fun s=> ∃(b Q:Mx),s=(b,Q)∧b.length=x.zA.length∧WlB x (· ∈M) b Q∧zAD b*20+Q.length≤2000) (fun s=>zAD s.1*20+s.2.length) (fun s hs=>by
   obtain⟨b,Q,rfl,hb,hW,hm⟩:=hs;rcases List.eq_nil_or_concat Q with rfl|⟨Q,q,rfl⟩
   ·right
    unfold zLq;simp only
    rw[show decide ((([]:Mx).length:Int)> 0)=aQ from rfl,zI];exact⟨_,rfl,hb,hW⟩
   ·left
    rw[List.concat_eq_append]at hW hm ⊢
    simp only[J9,Jc]at hm;obtain⟨b',Q',e1,e2,e3,e4⟩:=zJa h hc (L:=(· ∈M)) (fun a ha=>hM a ha) hb hW (by omega);refine⟨_,e1,⟨b',Q',rfl,e2,e3,?_⟩,?_⟩
    ·rcases e4 with⟨rfl,rfl⟩|⟨e4,e5⟩<;>omega
    ·simp only[J9,Jc]
     rcases e4 with⟨rfl,rfl⟩|⟨e4,e5⟩<;>omega) 100000 (J1 x.zA.length [],M) (by have:=zAX (J1 x.zA.length []);simp only[Kn]at this ⊢;omega) ⟨_,M,rfl,by simp,zFP h hc hM,by have:=zAX (J1 x.zA.length []);simp only[Kn]at this;omega⟩
 obtain⟨C,c1,c2⟩:=zLc h hc (L:=(· ∈M)) (fun a ha=>hM a ha) r2 r3;refine⟨C,?_,c2⟩;unfold f_o;rw[yO (by omega),bs,zKW (by omega) (fun i hi=>by have:=hM (M.getD i []) (by rw[J4,J5 hi];exact Jw hi);rw[zBd h hc this];omega),bs,r1,bs,c1,bs]
end
end Go.Pl

namespace Go.Pl
open Go Go.Ab Go.Wk Go.Pc
theorem zPr{x:SPr}(h:Pres x)(hc:wK (suf x 0)){L:Vec→Prop}{C:Nat→Option Vec}(hC:zLb x L C):S2 (vM C 0 x.zA.length):=by
 have h6:=h.os.1;have h1:=zGE C 0 x.zA.length;have:=zQx (c:=c1) (b:=9) (xs:=vM C 0 x.zA.length) (fun r hr=>by obtain⟨j,_,hj⟩:=List.mem_filterMap.1 hr;have hl:=zBd h hc (hC.i hj).2.2.1;show r.length≤9;omega)
 simp only[S2,c2];omega
end Go.Pl

namespace Go.Pl
open Go Go.Ab Go.Wk Go.Pc
theorem zEH{x:SPr}(h:Pres x){k:Int}(k0:0≤k)(k1:k≤1000000):∃e,f_I x k=aN e∧zLu x k=aN e∧V (suf x 0) e:=by
 have h9:=h.os.1;have hP:=h.os.2;obtain⟨e,e1,e2,e3⟩:=wN (body:=zO4 x) (Q:=fun e=>e.length=x.zA.length∧ ∀j,j<x.zA.length→0≤at0 e j∧at0 e j≤at0 x.zA j-1)
  (fun s=> ∃(q:Int)(e:Vec)(i:Nat),s=(q,e,(i:Int)-1)∧i≤x.zA.length∧0≤q∧q≤1000000∧e.length=x.zA.length∧ ∀j,j<x.zA.length→0≤at0 e j∧at0 e j≤at0 x.zA j-1)
  (fun s=>(s.2.2+1).toNat) (fun s hs=>by
   obtain⟨q,e,i,rfl,hi,q0,q1,he,hr⟩:=hs;unfold zO4;simp only
   cases i with
   |zero=>
    right;rw[show decide (((0:Nat):Int)-1≥0)=aQ from rfl,zI];exact⟨_,rfl,he,hr⟩
   |succ i=>
    left;have hp:=(hP i (by omega)).pos;have t1:=Int.tmod_nonneg (at0 x.zA i) q0;have t2:=Ja1 q (b:=at0 x.zA i) (by omega);have t3:q.tdiv (at0 x.zA i)=q/at0 x.zA i:=Um q0;have t4:0≤q/at0 x.zA i:=Int.ediv_nonneg q0 (by omega);have t5:q/at0 x.zA i≤q:=Int.ediv_le_self _ q0;rw[show(((i+1:Nat):Int)-1)=(i:Int)from by omega,show decide ((i:Int)≥0)=aP from aS (by omega),zH,yV (by omega),bs,vU,if_neg (by omega),bs,yC 0 (by omega),bs,bs,tQ,if_neg (by omega),t3,zC (by omega) (by omega),bs,zC (by omega) (by omega),bs,show((i:Nat):Int).toNat=i from rfl];refine⟨_,rfl,⟨_,_,i,rfl,by omega,t4,by omega,by rw[Ku];exact he,fun j hj=>?_⟩,by simp only;omega⟩
    by_cases hji:i=j
    ·subst hji
     rw[at0,J4,Hl (by omega)];simp only[G9];omega
    ·have:=hr j hj
     rw[at0,J4,Hm hji,←J4];exact this) 1000 (k,J1 x.zA.length 0,(x.zA.length:Int)-1) (by simp only;omega)
   ⟨k,_,x.zA.length,rfl,Ji _,k0,k1,by simp,fun j hj=>by have:=(hP j hj).pos;rw[at0,J4,Js,if_pos hj];simp only[G9];omega⟩
 refine⟨e,?_,?_,zPh x.zA.length 0 e (by omega) e2 fun i hi=>by rw[J6];exact e3 i hi⟩
 ·unfold f_I
  rw[yO (by omega),bs,Kn,zC (by omega) (by omega),bs,e1,bs]
 ·unfold zLu zRD
  rw[yO (by omega),bs,bs,Kn,zC (by omega) (by omega),bs,show zO2 x=zO4 x from rfl,e1,bs]
noncomputable def elv (x:SPr) (k:Nat):Vec:=(zLu x (k:Int)).getD []
theorem zAE{x:SPr}(h:Pres x){k:Nat}(k1:k≤1000000):f_I x (k:Int)=aN (elv x k)∧zLu x (k:Int)=aN (elv x k)∧V (suf x 0) (elv x k):=by
 obtain⟨e,e1,e2,e3⟩:=zEH h (k:=(k:Int)) (by omega) (by omega);have:elv x k=e:=by rw[elv,e2];rfl
 rw[this];exact⟨e1,e2,e3⟩
noncomputable def els (x:SPr) (n:Nat):Mx:=(Jo n).map (elv x)
theorem zCy{x:SPr}{n:Nat}:els x (n+1)=els x n++[elv x n]:=by simp[els,Kt]
theorem zCz{x:SPr}{n:Nat}:(els x n).length=n:=by simp[els]
theorem zPs{x:SPr}{n i:Nat}(h:i<n):(els x n).getD i []=elv x i:=by rw[J4,els,Jj,List.getElem?_range h];rfl
theorem zCW{x:SPr}(hx:zHC x):∃N:Nat,pr x.zA x.zA.length=(N:Int)∧N≤729∧f_J x=aN (N:Int)∧f_V x=aN (N:Int)∧f_K x=aN (els x N):=by
 have h1:=zBA (os:=x.zA) (i:=x.zA.length) (fun j hj=>hx.os.2 j hj);have h2:=hx.pr;obtain⟨N,hN⟩:=Int.eq_ofNat_of_zero_le (a:=pr x.zA x.zA.length) (by omega);rw[hN]at h2;have o1:f_J x=aN (N:Int):=by unfold f_J;rw[zEC hx (body:=zRB x) (fun _=>rfl),bs,hN]
 have o2:f_V x=aN (N:Int):=by unfold f_V;rw[zEC hx (body:=zRA x) (fun _=>rfl),bs,hN]
 refine⟨N,hN,by omega,o1,o2,?_⟩;have l:=zQ (body:=zO5 x (N:Int)) (r:=els x N) (fun i=>(els x i,(i:Int))) N (fun i hi=>by
  unfold zO5;rw[show decide ((i:Int)<(N:Int))=aP from aS (by omega),zH,(zAE hx.toPres (by omega)).1,bs,xD (by rw[zCz,Jc];omega),bs,zC (by omega) (by omega),bs,zCy];rfl) (by
  unfold zO5;rw[show decide ((N:Int)<(N:Int))=aQ from aR (by omega),zI])
 unfold f_K;rw[o1,bs];rw[show els x 0=[]from rfl,show((0:Nat):Int)=0 from rfl]at l;rw[l,bs]
section
variable {x:SPr} (h:Pres x) (hc:wK (suf x 0)) {m:zD}{D:Nat} (hD:MOk x.zA.length m D) {vals:Mx} (hV:VOk x.zA.length m.Prime D vals)
noncomputable def kD (m:zD) (D:Nat) (vals:Mx) (e:Vec):Bool:=(f_A (ev m D vals (z0 D) (nw 0 e))).getD aQ
 include h hD hV
theorem zFR{e:Vec}(he:V (suf x 0) e):zO3 e m vals=aN (kD m D vals e)∧f_p m vals (J1 D 0) e=aN (ev m D vals (z0 D) (nw 0 e))∧zLn (ev m D vals (z0 D) (nw 0 e))=aN (kD m D vals e):=by
 have h6:=h.os.1;have d3:=hD.d3;obtain⟨q1,q2⟩:=zBB h.os x.zA.length 0 e (by omega) he;have q3:∀i,i<x.zA.length→0≤at0 e i∧at0 e i≤6:=fun i hi=>⟨(q2 i hi).1,(q2 i hi).2.2⟩
 have hz:=zEA (p:=m.Prime) (D:=D) (by have:=hD.p.pos;omega);have gg:=zCT 0 e (fun i hi=>(q3 i (by omega)).2);have hbe:=zAC hD h6 hV hz q1 q3;have hvo:=kT hD h6 hV (ws:=nw 0 e) (fun w hw=>zKi 0 e (by omega) w hw) (by omega);have hl:=(kS hD h6 hV hz (nw 0 e)).1;have hb:∃b,f_A (ev m D vals (z0 D) (nw 0 e))=aN b∧zLn (ev m D vals (z0 D) (nw 0 e))=aN b:=by
  rcases(zEB (v:=ev m D vals (z0 D) (nw 0 e)) (by omega)).both (zFL (v:=ev m D vals (z0 D) (nw 0 e)) (by omega))with⟨a,b,_⟩|⟨a,b,_⟩
  ·exact⟨_,a,b⟩
  ·exact⟨_,a,b⟩
 obtain⟨b,b1,b2⟩:=hb;have hzb:kD m D vals e=b:=by rw[kD,b1];rfl
 rw[hzb];refine⟨?_,hbe,b2⟩;unfold zO3;rw[sN (by omega) (fun i hi=>q3 i (by omega)),bs,hvo,bs,b1,bs]
theorem zNg{N:Nat}(hN:N≤729)(ho:f_V x=aN (N:Int)):zG (zLv x m vals) ([],0)=aN ((els x N).filter (kD m D vals)):=by
 have l:=zQ (body:=zLv x m vals) (r:=(els x N).filter (kD m D vals)) (fun i=>((els x i).filter (kD m D vals),(i:Int))) N (fun i hi=>by
  obtain⟨_,e1,e2⟩:=zAE h (k:=i) (by omega);obtain⟨_,z1,z2⟩:=zFR h hD hV e2;unfold zLv;rw[ho,bs,show decide ((i:Int)<(N:Int))=aP from aS (by omega),zH,e1,bs,hD.d,yO (by have:=hD.d3;omega),bs,z1,bs,z2,bs];have hlf:=U3 (kD m D vals) (els x i);rw[zCz]at hlf;rw[zCy,Hn];cases hz:kD m D vals (elv x i)with
  |true=>
   rw[zH,xD (by simp only[Jc];omega),bs,zC (by omega) (by omega),bs,Gr (by rw[hz]),Li];rfl
  |false=>
   rw[zI,zC (by omega) (by omega),bs,Gs (by rw[hz];decide),Li,Je];rfl) (by
  unfold zLv;rw[ho,bs,show decide ((N:Int)<(N:Int))=aQ from aR (by omega),zI])
 rw[show els x 0=[]from rfl,Li,show((0:Nat):Int)=0 from rfl]at l;exact l
 include hc
theorem zLd{N:Nat}(hN:N≤729)(ha:f_K x=aN (els x N)):∃C,f_W x (m,vals)=aN (vM C 0 x.zA.length)∧zLb x (· ∈(els x N).filter (kD m D vals)) C:=by
 have h9:=h.os.1;have gv:∀i,i≤N→ ∀a∈(els x i).filter (kD m D vals),V (suf x 0) a:=fun i hi a hm=>by obtain⟨k,k1,rfl⟩:=Ja.1 (Gk.1 hm).1;exact(zAE h (by have:=Kd.1 k1;omega)).2.2
 obtain⟨r,r1,b,rfl,r2,r3⟩:=wN (body:=zPS (m,vals) (els x N)) (Q:=fun r=> ∃b,r=(x,b)∧b.length=x.zA.length∧WlB x (· ∈(els x N).filter (kD m D vals)) b [])
  (fun s=> ∃(i:Nat)(b:Mx),s=(x,b,(i:Int))∧i≤N∧b.length=x.zA.length∧WlB x (· ∈(els x i).filter (kD m D vals)) b []) (fun s=>(N-s.2.2).toNat) (fun s hs=>by
   obtain⟨i,b,rfl,hi,hb,hW⟩:=hs;unfold zPS;simp only
   rw[zCz]
   by_cases hiN:i<N
   ·left
    obtain⟨_,_,e2⟩:=zAE h (k:=i) (by omega);obtain⟨z1,_,_⟩:=zFR h hD hV e2;rw[show decide ((i:Int)<(N:Int))=aP from aS (by omega),zH,yC [] (by rw[zCz];exact hiN),zPs hiN,bs,z1,bs];cases hz:kD m D vals (elv x i)with
    |true=>
     have e:(fun a=>a∈(els x i).filter (kD m D vals)∨a∈[elv x i])=(· ∈(els x (i+1)).filter (kD m D vals)):=by
      funext a
      rw[zCy,Hn,Gr (by rw[hz]),Li,Jq]
     have hW2:=Wl.more hW (M:=[elv x i]) (fun a ha=>by rw[List.mem_singleton.1 ha];exact e2);rw[e]at hW2;obtain⟨g,b',g1,g2,g3⟩:=zNc h hc (fun a ha=>gv (i+1) (by omega) a ha) hb hW2 (by simp);rw[zH,g1,bs,zC (by omega) (by omega),bs];exact⟨_,rfl,⟨i+1,b',rfl,by omega,g2,g3⟩,by simp only;omega⟩
    |false=>
     have e:(els x (i+1)).filter (kD m D vals)=(els x i).filter (kD m D vals):=by rw[zCy,Hn,Gs (by rw[hz];decide),Li,Je]
     rw[zI,zC (by omega) (by omega),bs];exact⟨_,rfl,⟨i+1,b,rfl,by omega,hb,by rw[e];exact hW⟩,by simp only;omega⟩
   ·right
    have:i=N:=by omega
    subst this;rw[show decide ((i:Int)<(i:Int))=aQ from aR (by omega),zI];exact⟨_,rfl,b,rfl,hb,hW⟩) 1000000 (x,J1 x.zA.length [],0) (by simp only;omega) ⟨0,_,rfl,Km _,by simp,zFP h hc (M:=[]) (by simp)⟩
 obtain⟨C,c1,c2⟩:=zIX h hc r2 r3;refine⟨C,?_,c2⟩;unfold f_W zRC;rw[yO (by omega),bs,bs,ha,bs,r1,bs,c1,bs]
end
theorem kW{x:SPr}{m:zD}{vals:Mx}(hx:zA2 x)(hm:zEs m)(eJ:S2 vals):∃g k,f_F x m vals=aN (g,k)∧zJp x m vals=aN (g,k)∧S2 g:=by
 have fo:S2 ([]:Mx):=by simp[S2,c2,sm]
 unfold f_F zJp;rcases zGC hx hm eJ with⟨s1,i1,D,hC,hD,_,hV,_⟩|⟨k,k0,s1,i1⟩
 ·obtain⟨N,_,n1,n2,n3,n4⟩:=zCW hC.2.2
  rw[s1,i1,bs,bs,show((0:Int) != 0)=aQ from rfl,zI,zI,n2,n3,bs,bs]
  by_cases hN:(N:Int)> 128
  ·rw[aS hN,zH,zH]
   exact⟨_,_,rfl,rfl,fo⟩
  ·rw[aR hN,zI,zI]
   have hM:∀a∈(els x N).filter (kD m D vals),V (suf x 0) a:=fun a hm=>by obtain⟨k,k1,rfl⟩:=Ja.1 (Gk.1 hm).1;exact(zAE hC.1 (by have:=Kd.1 k1;omega)).2.2
   have hl:=U3 (kD m D vals) (els x N);rw[zCz]at hl;obtain⟨C,c1,c2⟩:=zJc hC.1 hC.2.1 hM (by omega);obtain⟨E,d1,d2⟩:=zLd hC.1 hC.2.1 hD hV n1 n4;have e:=Pc.Can.uniq (zEX hC.1 hC.2.1) (fun ha hb=>Gen.m ha hb) (fun ha hb ca=>Gen.i ha hb ca) c2 d2;rw[zNg hC.1 hD hV n1 n3,bs,c1,bs,d1,bs,zEF _ _ fun j _=>(e j).symm];exact⟨_,_,rfl,rfl,zPr hC.1 hC.2.1 c2⟩
 ·have kb:(k != 0)=aP:=by simp[k0]
  rw[s1,i1,bs,bs,kb,zH,zH];exact⟨_,_,rfl,rfl,fo⟩
theorem zAF(x0:SPr)(x1:zD)(x2:Mx)(v0:zKa x0)(v1:zPg x1)(v2:VL (VL VI) x2)
  (h:zA2 x0→zEs x1→S2 x2→ ∃g k,f_F x0 x1 x2=aN (g,k)∧zJp x0 x1 x2=aN (g,k)∧S2 g):zO6 x0 x1 x2=aN aP:=by
 unfold zO6;rw[zEt v0 (by decide) (by decide),bs];rcases zG3 (c:=zH9 x0) (b:=1048576) (by decide) (by decide)with e|⟨e,a0,b0,w0⟩<;>rw[e]
 ·rfl
 rw[zI,zMB v1 a0 b0,bs];rcases zG3 (c:=zMA x1) a0 b0 with e|⟨e,a1,b1,w1⟩<;>rw[e]
 ·rfl
 rw[zI,zCM v2 a1 b1,bs];rcases zG3 (c:=c2 x2) a1 b1 with e|⟨e,a2,b2,w2⟩<;>rw[e]
 ·rfl
 have s0:zA2 x0:=zA2.of w0;have s1:zEs x1:=zEs.of w1;have s2:S2 x2:=w2;obtain⟨g,k,hs,hi,sg⟩:=h s0 s1 s2;have t0:=zKp s0;have q1:=zID (x:=x1.zL);have w1':=w1;simp only[zMA]at w1';have q2:=zG4 (x:=x2);have qg:=zG4 (x:=g);have sg':=sg;simp only[S2]at sg';rw[zI,zEu s0,bs,zMC s1,bs,zCN s2,bs];simp only[bs];rw[hs,bs,hi,bs];simp only
 rw[jY sg,bs];simp only[beq_self_eq_true,Jm,zI,bne_self_eq_false];rw[zEv s0,bs,Jm,zI,zMD s1,bs,Jm,zI,jY s2,bs,beq_self_eq_true,Jm,zI,zBc s0 (by decide) (by decide),bs];simp only
 rw[zIE s1 (by omega) (by omega),bs];simp only
 rw[qZ s2 (by omega) (by omega),bs];simp only
 rw[aR (by omega),zI,bs,Jm,zI];rw[qZ sg (by decide) (by omega),bs];simp only
 rw[zH8 sg (by decide) (by omega),bs,aR (by omega),zI,bne_self_eq_false,zI,bs];simp only
 rw[jY sg,bs,beq_self_eq_true,Jm,zI,bne_self_eq_false,zI,bs,aR (by omega),zI,bne_self_eq_false,zI]
theorem kX(x0:SPr)(x1:zD)(x2:Mx)(v0:zKa x0)(v1:zPg x1)(v2:VL (VL VI) x2):zO6 x0 x1 x2=aN aP:=
 zAF x0 x1 x2 v0 v1 v2 kW
end Go.Pl
