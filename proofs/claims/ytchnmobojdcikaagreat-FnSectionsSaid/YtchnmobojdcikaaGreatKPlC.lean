/- x -/
import Derived.Test.YtchnmobojdcikaaGreatKPlB
import Derived.Test.YtchnmobojdcikaaGreatKWF
import Derived.Test.YtchnmobojdcikaaGreatKPlA
import Derived.Test.YtchnmobojdcikaaGreatKAbB
open List renaming replicate→J1,getD_eq_getElem?_getD→J3,length_append→J5,length_replicate→J6,getElem?_eq_getElem→J7,mem_cons→J9,append_nil→Jb,length_cons→Jc,getElem?_append_right→Je,mem_append→Jf,append_assoc→Jg,range→Jh,mem_map→Ji,length_singleton→Jm,take_left'→Jp,nil_append→Jq,take_of_length_le→Jr,length_map→Js,map_cons→Jt,replicate_succ→Ju,drop_left'→Jx,length_nil→K0,getElem?_map→K4,reverse_reverse→K5,mem_iff_getElem→K6,all_eq_true→K8,take_succ_eq_append_getElem→Kc,cons_append→Kd,getElem_mem→Ke,getElem?_replicate→Kg,ext_getElem?→Kl,take_zero→Km,mem_range→Kq,length_drop→Kr,range'→Kt,replicate_succ'→Kw,length_take→L4,range_eq_range'→L7,length_set→L8,range_succ→Lo,flatMap_cons→Lq,mem_flatMap→Lr,map_append→Ls,replicate_zero→Lw,getElem?_take→Ha,drop_eq_nil_of_le→Hb,eq_of_mem_replicate→Hc,mem_append_right→He,length_range→Hi,ext_getElem→Hj,flatten_cons→G6,drop_zero→G9,mem_append_left→Gg,map_nil→Gp,drop_eq_getElem_cons→Gs,reverse_cons→Gt,flatten_nil→Ue,map_map→Uu,not_mem_nil→Q8,mem_of_mem_head?→Qi,findSome?_cons→Qz,head?_cons→Jae,range'_succ→Jav,flatMap_append→Jb1
open Bool renaming and_eq_true→J2,not_true→Ja,not_false→Jy,false_eq_true→Hg
open Int renaming toNat_natCast→J8,emod_lt_of_pos→Ki,emod_nonneg→Kv,mul_zero→Lt,add_zero→Lu,natCast_add→H1,tdiv_eq_ediv_of_nonneg→G4,natCast_mul→Um,tdiv_nonneg→Ja2,tmod_lt_of_pos→Jaa
open Nat renaming zero_add→Jd,le_refl→Jk,lt_or_ge→Jn,mul_le_mul_right→Jw,succ_mul→K7,mul_le_mul→Ka,zero_le→Kf,add_sub_cancel_left→Lv,div_add_mod→Gf,mod_lt→Gz,div_lt_iff_lt_mul→U9,add_sub_cancel→Qf,zero_mul→Qm,sub_zero→Qn,add_zero→Jad,eq_zero_or_pos→Jaz
open Option renaming some→Ll,bind→Ga,map_some→Gk,isSome_none→Gy
open Prod renaming mk→Ja1
open Option renaming some→dJ,none→dK
open Bool renaming true→dL,false→dM
namespace Go.Pl
open Go Go.Ab Go.Wk Go.Pc
abbrev Trc:=List (Nat×List Nat)
structure PD where
 k:Nat
 wd:List Nat
 t:Nat
 r1:Nat
 s1:List Nat
 w1:List Nat
 r2:Nat
 s2:List Nat
 w2:List Nat
section
variable (x:SPr)
abbrev PD.B(d:PD)(t1 t2:Trc):Prop:=zKQ x d.k d.r1 d.s1 d.w1 d.r2 d.s2 d.w2 t1 t2
def ups(n i:Nat):List Nat:=Kt (i+1) (n-(i+1))
def pd2(i j k:Nat):PD:=⟨i,[k,j,i],1,base x.zA.length j+(k-(j+1)),[i],j::(nw 0 (lcj x j k)++[i]),base x.zA.length i+(j-(i+1)),[],k::i::nw 0 (lcj x i j)⟩
def pd1(i j:Nat):PD:=⟨i,J1 (yE x j) j++[i],yE x j-1,j,[i],nw 0 (x.zJ.getD j [])++[i],base x.zA.length i+(j-(i+1)),[],J1 (yE x j-1) j++i::nw 0 (lcj x i j)⟩
def pd4(i j:Nat):PD:=⟨i,j::J1 (yE x i) i,1,base x.zA.length i+(j-(i+1)),J1 (yE x i-1) i,i::(nw 0 (lcj x i j)++J1 (yE x i-1) i),i,[],j::nw 0 (x.zJ.getD i [])⟩
def pd3(i:Nat):PD:=⟨i,J1 (yE x i+1) i,1,i,[i],nw 0 (x.zJ.getD i [])++[i],i,[],i::nw 0 (x.zJ.getD i [])⟩
def cps:List PD:=
 ((Jh x.zA.length).flatMap fun i=>(ups x.zA.length i).flatMap fun j=>(ups x.zA.length j).map fun k=>pd2 x i j k)++
 (((Jh x.zA.length).flatMap fun i=>(ups x.zA.length i).map fun j=>pd1 x i j)++
 (((Jh x.zA.length).flatMap fun i=>(ups x.zA.length i).map fun j=>pd4 x i j)++
 (Jh x.zA.length).map fun i=>pd3 x i))
end
theorem zFx{n i j:Nat}:j∈ups n i↔i<j∧j<n:=by grind[ups]
section
variable {x:SPr}
theorem zBB{φ:PD→Prop}:(∀d∈cps x,φ d)↔(∀i j k,i<j→j<k→k<x.zA.length→φ (pd2 x i j k))∧(∀i j,i<j→j<x.zA.length→φ (pd1 x i j))∧(∀i j,i<j→j<x.zA.length→φ (pd4 x i j))∧ ∀i,i<x.zA.length→φ (pd3 x i):=by
 constructor
 ·intro g
  refine⟨fun i j k h1 h2 h3=>g _ ?_,fun i j h1 h2=>g _ ?_,fun i j h1 h2=>g _ ?_,fun i h1=>g _ ?_⟩
  ·exact Gg _ (Lr.2 ⟨i,by grind,Lr.2 ⟨j,by grind[zFx],Ji.2 ⟨k,zFx.2 ⟨h2,h3⟩,rfl⟩⟩⟩)
  ·exact He _ (Gg _ (Lr.2 ⟨i,by grind,Ji.2 ⟨j,zFx.2 ⟨h1,h2⟩,rfl⟩⟩))
  ·exact He _ (He _ (Gg _ (Lr.2 ⟨i,by grind,Ji.2 ⟨j,zFx.2 ⟨h1,h2⟩,rfl⟩⟩)))
  ·exact He _ (by grind)
 ·rintro⟨g2,g1,g4,g3⟩ d hd
  simp only[cps,Jf,Lr,Ji,Kq,zFx]at hd
  grind
theorem zQZ{D:Nat}{m:zC}{T:Mx}:zYW x D m T↔ ∀d∈cps x,∀t1 t2,d.B x t1 t2→tv m.Prime D m T t1=tv m.Prime D m T t2:=by
 rw[zBB (φ:=fun d=> ∀t1 t2,d.B x t1 t2→tv m.Prime D m T t1=tv m.Prime D m T t2)];constructor
 ·intro g
  exact⟨fun i j k h1 h2 h3=>g.p2 i j k h1 h2 h3,fun i j h1 h2=>g.p1 i j h1 h2,fun i j h1 h2=>g.p4 i j h1 h2,fun i h1=>g.p3 i h1⟩
 ·rintro⟨g2,g1,g4,g3⟩
  exact⟨fun k j h1 h2=>g1 k j h1 h2,fun k i j h1 h2 h3=>g2 k i j h1 h2 h3,fun k hk=>g3 k hk,fun k j h1 h2=>g4 k j h1 h2⟩
theorem zYZ(h6:x.zA.length≤6){w:List Nat}{r:zE9}(hw:∀a∈w,a<x.zA.length)(h:hdS x w=dJ r):r.1<base x.zA.length x.zA.length:=by
 unfold hdS at h;have hb:=xW x.zA.length (by omega)
 match w,h with
 | [],h=>cases h
 | [a],h=>
  grind[swp,pws]
 |a::b::w,h=>
  have ha:=hw a (by simp);simp only[swp]at h
  by_cases g:b<a
  ·rw[if_pos g]at h
   cases h;have:=qD x.zA.length (by omega) b (by omega);omega
  ·rw[if_neg g]at h
   grind[pws]
theorem zZa(h6:x.zA.length≤6):∀{w:List Nat}{r:zE9},(∀a∈w,a<x.zA.length)→stS x w=dJ r→r.1<base x.zA.length x.zA.length
 | [],_,_,h=>by cases h
 |a::w,r,hw,h=>by
  simp only[stS]at h;cases e:hdS x (a::w)with
  |some q=>
   rw[e]at h;cases h;exact zYZ h6 hw e
  |none=>
   rw[e]at h;cases e2:stS x w with
   |none=>grind
   |some q=>
    rw[e2]at h;cases h;have:=zZa (w:=w) (r:=q) h6 (by grind) e2;exact this
theorem Col.lt(h6:x.zA.length≤6){k:Nat}{w w':List Nat}{tr:Trc}(hc:Col x k w tr w'):∀q∈tr,q.1<base x.zA.length x.zA.length:=by
 induction hc with
 |refl w=>simp
 |step hw hs _ ih=>
  intro q hq;rcases J9.1 hq with rfl|hq
  ·exact zZa h6 (by grind) hs
  grind
end
section
variable {x:SPr} (h:Pres x) (h6:x.zA.length≤6)
 include h
theorem zMK{d:PD}{t1 t2 u1 u2:Trc}(hk:d.k≤x.zA.length)(a:d.B x t1 t2)(b:d.B x u1 u2):t1=u1∧t2=u2:=by
 obtain⟨⟨v1,y1,rfl,k1⟩,⟨v2,y2,rfl,k2⟩⟩:=a;obtain⟨⟨v3,y3,rfl,k3⟩,⟨v4,y4,rfl,k4⟩⟩:=b;have nn:=fun(y:Vec)(hy:V (suf x d.k) y)=>zGh h (x.zA.length-d.k) d.k (by omega) y hy
 exact⟨by rw[(Col.det k1.col k3.col (nn _ k1.v) (nn _ k3.v)).1],by rw[(Col.det k2.col k4.col (nn _ k2.v) (nn _ k4.v)).1]⟩
 include h6
theorem zGY:∀d∈cps x,d.k<x.zA.length∧(∀a∈d.wd,a<x.zA.length)∧ ∃t1 t2,d.B x t1 t2∧(∀q∈t1,q.1<base x.zA.length x.zA.length)∧ ∀q∈t2,q.1<base x.zA.length x.zA.length:=by
 have f8:∀i j,i<j→j<x.zA.length→ ∀a∈nw 0 (lcj x i j),i+1≤a∧a<x.zA.length:=fun i j hi hj=>(sW h (vY h hi hj) (by omega)).2
 have fh:∀i,i<x.zA.length→ ∀a∈nw 0 (x.zJ.getD i []),i+1≤a∧a<x.zA.length:=fun i hi=>(sW h (kM h hi) hi).2
 have eC:=xW x.zA.length (by omega);have fT:=fun i(hi:i<x.zA.length)=>qD x.zA.length (by omega) i hi
 have key:∀(d:PD),d.k<x.zA.length→(∀a∈d.wd,a<x.zA.length)→d.r1<base x.zA.length x.zA.length→d.r2<base x.zA.length x.zA.length→(∀a∈d.w1,d.k≤a∧a<x.zA.length)→(∀a∈d.w2,d.k≤a∧a<x.zA.length)→d.k<x.zA.length∧(∀a∈d.wd,a<x.zA.length)∧ ∃t1 t2,d.B x t1 t2∧(∀q∈t1,q.1<base x.zA.length x.zA.length)∧ ∀q∈t2,q.1<base x.zA.length x.zA.length:=by
  intro d hk pY b1 b2 c1 c2;obtain⟨u1,y1,k1⟩:=zWP h (x.zA.length-d.k) d.k (by omega) d.w1 c1;obtain⟨u2,y2,k2⟩:=zWP h (x.zA.length-d.k) d.k (by omega) d.w2 c2;refine⟨hk,pY,_,_,⟨⟨u1,y1,rfl,k1⟩,⟨u2,y2,rfl,k2⟩⟩,fun q hq=>?_,fun q hq=>?_⟩
  ·rcases J9.1 hq with rfl|hq
   ·exact b1
   ·exact k1.col.lt h6 q hq
  ·rcases J9.1 hq with rfl|hq
   ·exact b2
   ·exact k2.col.lt h6 q hq
 refine zBB.2 ⟨fun i j k h1 h2 h3=>key _ ?_ ?_ ?_ ?_ ?_ ?_,fun i j h1 h2=>key _ ?_ ?_ ?_ ?_ ?_ ?_,fun i j h1 h2=>key _ ?_ ?_ ?_ ?_ ?_ ?_,fun i h1=>key _ ?_ ?_ ?_ ?_ ?_ ?_⟩
 ·show i<_;omega
 ·intro a ha
  simp only[pd2,J9,Q8,or_false]at ha;omega
 ·have:=fT j (by omega);show base _ j+(k-(j+1))<_;omega
 ·have:=fT i (by omega);show base _ i+(j-(i+1))<_;omega
 ·intro a ha
  simp only[pd2,J9,Jf,Q8,or_false]at ha ⊢
  rcases ha with rfl|ha|rfl
  ·omega
  ·grind
  ·omega
 ·intro a ha
  simp only[pd2,J9]at ha ⊢
  rcases ha with rfl|rfl|ha
  ·omega
  ·omega
  grind
 ·show i<_;omega
 ·intro a ha
  simp only[pd1,Jf,List.mem_singleton]at ha;rcases ha with ha|rfl
  ·grind
  ·omega
 ·show j<_;omega
 ·have:=fT i (by omega);show base _ i+(j-(i+1))<_;omega
 ·intro a ha
  simp only[pd1,Jf,List.mem_singleton]at ha ⊢
  rcases ha with ha|rfl
  ·grind
  ·omega
 ·intro a ha
  simp only[pd1,Jf,J9]at ha ⊢
  rcases ha with ha|rfl|ha
  ·grind
  ·omega
  grind
 ·show i<_;omega
 ·intro a ha
  simp only[pd4,J9]at ha;rcases ha with rfl|ha
  ·omega
  grind
 ·have:=fT i (by omega);show base _ i+(j-(i+1))<_;omega
 ·show i<_;omega
 ·intro a ha
  simp only[pd4,J9,Jf]at ha ⊢
  rcases ha with rfl|ha|ha
  ·omega
  ·grind
  grind
 ·intro a ha
  simp only[pd4,J9]at ha ⊢
  rcases ha with rfl|ha
  ·omega
  grind
 ·exact h1
 ·intro a ha
  have:=Hc (show a∈J1 _ i from ha);omega
 ·show i<_;omega
 ·show i<_;omega
 ·intro a ha
  simp only[pd3,Jf,List.mem_singleton]at ha ⊢
  rcases ha with ha|rfl
  ·grind
  ·omega
 ·intro a ha
  simp only[pd3,J9]at ha ⊢
  rcases ha with rfl|ha
  ·omega
  grind
end
end Go.Pl

namespace Go.Pl
open Go Go.Ab Go.Wk Go.Pc
theorem zJM{α:Type}{F:α→Vec}{D:Nat}(hF:∀a,(F a).length=D):∀L:List α,((L.map F).flatten).length=L.length*D
 | []=>by simp
 |a::L=>by rw[Jt,G6,J5,hF,zJM hF L,Jc,K7];omega
theorem zI3{α:Type}{F:α→Vec}{D:Nat}(hF:∀a,(F a).length=D):∀(L:List α)(i j:Nat)(hi:i<L.length),j<D→at0 ((L.map F).flatten) (i*D+j)=at0 (F L[i]) j
 | [],i,j,hi,_=>by simp at hi
 |a::L,i,j,hi,hj=>by
  have hl:=hF a;rw[Jt,G6];cases i with
  |zero=>
   grind
  |succ i=>
   have ih:=zI3 hF L i j (by grind) hj
   grind
def zAJ(p:Int)(D:Nat)(m:zC)(prs:List (Trc×Trc))(k:Nat):List Int:=(prs.map fun q=>prR p D m q.1 q.2 k).flatten
theorem zI4{p:Int}{D k:Nat}{m:zC}(prs:List (Trc×Trc)):(zAJ p D m prs k).length=prs.length*D:=zJM (F:=fun q:Trc×Trc=>prR p D m q.1 q.2 k) (fun _=>zU _ _) prs
theorem zTH{p:Int}{D N:Nat}{m:zC}{y:Vec}(hp:2≤p){prs:List (Trc×Trc)}(hl:∀q∈prs,(∀r∈q.1,r.1<N)∧ ∀r∈q.2,r.1<N):
  (∀c,c<prs.length*D→(S (N*D) fun k=>at0 y k*ent (gl (N*D) fun k=>zAJ p D m prs k) k c)%p=0)↔ ∀q∈prs,tv p D m (Tc N D y) q.1=tv p D m (Tc N D y) q.2:=by
 have e:∀i j(hi:i<prs.length),j<D→(S (N*D) fun k=>at0 y k*ent (gl (N*D) fun k=>zAJ p D m prs k) k (i*D+j))=S (N*D) fun k=>at0 y k*at0 (prR p D m prs[i].1 prs[i].2 k) j:=fun i j hi hj=>by
  refine xL fun k hk=>?_
  show at0 y k*at0 ((gl (N*D) fun k=>zAJ p D m prs k).getD k []) (i*D+j)=_
  grind[zAJ,zI3,prR,zU]
 constructor
 ·intro g q hq
  obtain⟨i,hi,rfl⟩:=K6.1 hq;refine(zPW hp (hl _ hq).1 (hl _ hq).2).1 fun j hj=>?_
  rw[←e i j hi hj];exact g _ (zAf hi hj)
 ·intro g c hc
  have hD:0<D:=by grind
  have hi:c/D<prs.length:=(U9 hD).2 hc;have hj:c%D<D:=Gz _ hD;have hm:=Ke hi;rw[show c=c/D*D+c%D from by grind[Gf],e _ _ hi hj];exact(zPW hp (hl _ hm).1 (hl _ hm).2).2 (g _ hm) _ hj
def qT(x:SPr):List PD→List (Trc×Trc)→Prop
 | [],[]=>True
 |d::ds,q::qs=>d.B x q.1 q.2∧qT x ds qs
 |_,_=>False
theorem qT.len{x:SPr}:{ds:List PD}→{qs:List (Trc×Trc)}→qT x ds qs→ds.length=qs.length
 | [],[],_=>rfl
 |d::ds,q::qs,h=>by rw[Jc,Jc,qT.len h.2]
 | [],_::_,h=>by simp[qT]at h
 |_::_,[],h=>by simp[qT]at h
theorem qT.all{x:SPr}{φ:Trc×Trc→Prop}:{ds:List PD}→{qs:List (Trc×Trc)}→qT x ds qs→(∀d∈ds,∀t1 t2,d.B x t1 t2→φ (t1,t2))→ ∀q∈qs,φ q
 | [],[],_,_,q,hq=>by cases hq
 |d::ds,q::qs,h,g,r,hr=>by
  rcases J9.1 hr with rfl|hr
  ·exact g d (by simp) _ _ h.1
  ·exact qT.all h.2 (by grind) r hr
 | [],_::_,h,_,_,_=>by simp[qT]at h
 |_::_,[],h,_,_,_=>by grind
theorem qT.of{x:SPr}{φ:Trc×Trc→Prop}:{ds:List PD}→{qs:List (Trc×Trc)}→qT x ds qs→(∀q∈qs,φ q)→ ∀d∈ds,∃t1 t2,d.B x t1 t2∧φ (t1,t2)
 | [],[],_,_,d,hd=>by cases hd
 |d::ds,q::qs,h,g,r,hr=>by
  rcases J9.1 hr with rfl|hr
  ·exact⟨q.1,q.2,h.1,g q (by simp)⟩
  ·exact qT.of h.2 (by grind) r hr
 | [],_::_,h,_,_,_=>by grind
 |_::_,[],h,_,_,_=>by simp[qT]at h
section
variable {x:SPr}{m:zC}{D:Nat} (hx:sU x) (hD:MOk x.zA.length m D)
 include hx hD
theorem zTI{prs:List (Trc×Trc)}(hq:qT x (cps x) prs)(hc:xK (suf x 0))(hr:zCe x m D){y:Vec}(hy:Row m.Prime (base x.zA.length x.zA.length*D) y):
  (∀c,c<prs.length*D→(S (base x.zA.length x.zA.length*D) fun k=>at0 y k*ent (gl (base x.zA.length x.zA.length*D) fun k=>zAJ m.Prime D m prs k) k c)%m.Prime=0)↔xK (suf (exx D x m (Tc (base x.zA.length x.zA.length) D y)) 0):=by
 have hp:=hD.p.pos;have fI:=zGY hx.toPres hx.n6;have gF:∀q∈prs,(∀r∈q.1,r.1<base x.zA.length x.zA.length)∧ ∀r∈q.2,r.1<base x.zA.length x.zA.length:=hq.all fun d hd t1 t2 hb=>by
  obtain⟨hk,_,u1,u2,pc,l1,l2⟩:=fI d hd;obtain⟨rfl,rfl⟩:=zMK hx.toPres (by omega) hb pc
  grind
 obtain⟨e1,e2⟩:=zYY hx hD hy;rw[zTH (by omega) gF,←zQY hx.toPres e1 e2 hc hr,zQZ];constructor
 ·intro g d hd t1 t2 hb
  obtain⟨u1,u2,pc,e⟩:=hq.of (φ:=fun q=>tv m.Prime D m (Tc (base x.zA.length x.zA.length) D y) q.1=tv m.Prime D m (Tc (base x.zA.length x.zA.length) D y) q.2) g d hd;obtain⟨rfl,rfl⟩:=zMK hx.toPres (by grind) hb pc;exact e
 ·intro g
  exact hq.all (by omega)
theorem yAB:∃prs,qT x (cps x) prs:=by
 have _:=hD;have fI:=zGY hx.toPres hx.n6
 revert fI
 generalize cps x=ds
 intro fI
 induction ds with
 |nil=>exact⟨[],trivial⟩
 |cons d ds ih=>
  obtain⟨qs,hq⟩:=ih (by grind);obtain⟨_,_,t1,t2,hb,_⟩:=fI d (by simp);exact⟨(t1,t2)::qs,hb,hq⟩
end
end Go.Pl

namespace Go.Pl
open Go Go.Ab Go.Wk Go.Pc
section
variable {x:SPr}{m:zC}{D:Nat} (hD:MOk x.zA.length m D)
 include hD
theorem zRa{N i:Nat}(hi:i<N)(hN:N≤21){T:Mx}:zH (zR7 m (T,(i:Int))) (J1 (N*D*D) (0:Int),0)=dJ (mkv (N*D*D) fun j=>if j/D=i*D+j%D then 1 else 0):=by
 have h1:=hD.d1;have h3:=hD.d3;have dE:N*D≤21*3:=Ka hN h3;have hB:N*D*D≤63*3:=Ka dE h3;have:=zM (body:=zR7 m (T,(i:Int))) (r:=mkv (N*D*D) fun j=>if j/D=i*D+j%D then(1:Int)else 0)
  (fun c=>(mkv (N*D*D) fun j=>if j/D=i*D+j%D∧j%D<c then(1:Int)else 0,(c:Int))) D (fun c hc=>by
  unfold zR7;simp only
  have a1:i*D+D≤N*D:=by rw[←K7];exact Jw _ hi
  have a2:(i*D+c)*D+D≤N*D*D:=by rw[←K7];exact Jw _ (by omega)
  have b1:(i:Int)*(D:Int)=((i*D:Nat):Int):=by rfl
  have b2:((i*D+c:Nat):Int)*(D:Int)=(((i*D+c)*D:Nat):Int):=by rfl
  have b3:((i*D:Nat):Int)+(c:Int)=((i*D+c:Nat):Int):=by omega
  have b4:(((i*D+c)*D:Nat):Int)+(c:Int)=(((i*D+c)*D+c:Nat):Int):=by omega
  rw[hD.d,yI hc,zK,b1,zF (by omega) (by omega),bs,b3,zF (by omega) (by omega),bs,b2,zF (by omega) (by omega),bs,b4,zF (by omega) (by omega),bs,zT 0 (by grind[zU]),bs,zF (by omega) (by omega),bs,J8,qX,cs]
  congr 3
  refine yA fun j hj=>?_
  have mw:=Gf j D
  by_cases g:j=(i*D+c)*D+c
  ·have e:=sM (q:=i*D+c) hc
   grind
  grind) (by
  unfold zR7;simp only
  rw[hD.d,vR,zL]
  congr 2
  refine yA fun j _=>?_
  have:=Gz j (show 0<D by omega);omega)
 rw[show(mkv (N*D*D) fun j=>if j/D=i*D+j%D∧j%D<0 then(1:Int)else 0)=J1 (N*D*D) 0 from by rw[show J1 (N*D*D) (0:Int)=mkv (N*D*D) fun _=>0 from vX _];simp]at this
 exact this
theorem zI5{N:Nat}(hN:N≤21):zH (zR8 m (N:Int) ((N*D:Nat):Int)) ([],0)=dJ (uT N D):=by
 have h1:=hD.d1;have h3:=hD.d3;have dE:N*D≤21*3:=Ka hN h3;have hB:N*D*D≤63*3:=Ka dE h3;refine tI N (fun i=>mkv (N*D*D) fun j=>if j/D=i*D+j%D then(1:Int)else 0) (fun i acc hi ha=>?_) (fun acc=>?_)
 ·unfold zR8
  simp only
  have b1:((N*D:Nat):Int)*(D:Int)=((N*D*D:Nat):Int):=by rfl
  rw[hD.d,yI hi,zK,b1,zF (by omega) (by omega),bs,yK (by omega),bs,zRa hD hi hN,bs,zP (by simp;omega),bs,zF (by omega) (by omega),bs,cs]
 ·unfold zR8
  simp
theorem zJN{B:Nat}(hB:B≤63){L:Mx}(hL:L.length≤1000)(hr:∀r∈L,r.length=B*D):zH (zVd m ((B:Nat):Int) L) ([],0)=dJ (gl B fun k=>zFw D k L):=by
 have h1:=hD.d1;have h3:=hD.d3;have hLD:L.length*D≤1000*3:=Ka hL h3;have hBD:B*D≤63*3:=Ka hB h3;refine tI B (fun k=>zFw D k L) (fun k acc hk ha=>?_) (fun acc=>?_)
 ·unfold zVd
  simp only
  have a1:k*D+D≤B*D:=by rw[←K7];exact Jw _ hk
  have inner:zH (zR9 m L (acc,(k:Int))) ([],0)=dJ (zFw D k L):=by
   have:=zTi (body:=zR9 m L (acc,(k:Int))) L.length D (fun i=>blk D (L.getD i []) k) [] (fun i hi=>zU _ _) (fun i acc2 hi ha2=>by
    unfold zR9;simp only
    have b0:i*D+D≤L.length*D:=by rw[←K7];exact Jw _ hi
    have b1:(k:Int)*(D:Int)=((k*D:Nat):Int):=by rfl
    have b2:((k+1:Nat):Int)*(D:Int)=((k*D+D:Nat):Int):=by grind
    have gf:(L.getD i []).length=B*D:=by grind
    simp only[K0,Jd]at ha2;rw[hD.d,yI hi,zK,zT [] hi,bs,b1,zF (by omega) (by omega),bs,show(k:Int)+1=((k+1:Nat):Int)from by omega,zF (by omega) (by omega),bs,b2,zF (by omega) (by omega),bs,zJI (by omega),bs,zP (by rw[zU];omega),bs,zF (by omega) (by omega),bs,cs];rfl) (fun acc2=>by
    unfold zR9;simp)
   rw[this,Jq,zFw]
   congr 2
   rw[gl];refine Hj (by simp) fun j h1 h2=>?_
   grind
  rw[yI hk,zK,inner,bs,zP (by simp;omega),bs,zF (by omega) (by omega),bs,cs]
 ·unfold zVd
  simp
end
section
variable {x:SPr}{m:zC}{D:Nat} (hx:sU x) (hD:MOk x.zA.length m D)
 include hx hD
theorem zG7(h0:0<x.zA.length)(hc:xK (suf x 0))(hr:zCe x m D):∃K pk,f_u x m=dJ K∧Red m.Prime (base x.zA.length x.zA.length*D) K pk∧
  ∀y,Row m.Prime (base x.zA.length x.zA.length*D) y→(Sp m.Prime (base x.zA.length x.zA.length*D) K y↔xK (suf (exx D x m (Tc (base x.zA.length x.zA.length) D y)) 0)):=by
 have h6:=hx.n6;have hb:=xW x.zA.length (by omega);have h1:=hD.d1;have h3:=hD.d3;have hB:base x.zA.length x.zA.length*D≤21*3:=Ka hb.2.1 h3;obtain⟨L,l1,l2,l3,l4⟩:=zTE hx hD h0 hc hr;have hLD:L.length*D≤1000*3:=Ka l2 h3;obtain⟨K,pk,k1,_,k3,k4⟩:=zGc hD.p (c:=L.length*D) (N:=base x.zA.length x.zA.length*D) (A:=gl (base x.zA.length x.zA.length*D) fun k=>zFw D k L) (by omega) (fun k hk=>by rw[wA hk];refine⟨zMJ L,fun j hj=>?_⟩;have hi:j/D<L.length:=(U9 (by omega)).2 hj;have hm:j%D<D:=Gz _ (by omega);have e:=zKU (D:=D) (k:=k) L (j/D) (j%D) hi hm;rw[show j/D*D+j%D=j from by grind[Gf]]at e;rw[e];have eI:=l3 (L.getD (j/D) []) (by grind);exact eI.2 _ (zAf hk hm)) yN
 refine⟨K,pk,?_,k3,fun y hy=>?_⟩
 ·unfold f_u
  have b1:((base x.zA.length x.zA.length:Nat):Int)*(D:Int)=((base x.zA.length x.zA.length*D:Nat):Int):=by rfl
  rw[zC4 rfl h6,bs,hD.d,b1,zF (by omega) (by omega),bs,zI5 hD hb.2.1,bs,l1,bs,zJN hD (by omega) l2 (fun r hr=>(l3 r hr).1),bs,show((L.length:Nat):Int)*(D:Int)=((L.length*D:Nat):Int)from by rfl,zF (by omega) (by omega),bs,k1,bs]
 ·rw[k4 y,←l4 y hy,←zTF (L:=L)]
end
end Go.Pl

namespace Go.Pl
open Go Go.Ab Go.Wk Go.Pc
theorem sD{w:List Nat}{t:Nat}(h:t<w.length):ixO (enW w) (t:Int)=dJ (((w.getD t 0:Nat):Int)+1):=by
 rw[zT 0 (by grind)]
 grind
theorem qU{w:List Nat}{t:Nat}(h:t<w.length):w.drop t=w.getD t 0::w.drop (t+1):=by grind[Gs]
theorem zDP{w:List Nat}{a b:Nat}(h1:a≤b)(h2:b≤w.length):zQ (enW w) (a:Int) (b:Int)=dJ (enW ((w.drop a).take (b-a))):=by
 unfold zQ
 simp_all
theorem zTJ{w:List Nat}{t o:Nat}{L:Int→Option (Int⊕(Unit⊕Bool))}(hL:L=zJV (enW w) (t:Int) (enW ((w.drop t).take o))∨L=zJW (enW w) (t:Int) (enW ((w.drop t).take o)))(ht:t<w.length)(ho:t+o≤w.length)(hl:w.length≤1000000):
  zH L 0=dJ (if decide ((w.drop t).take o=J1 o (w.getD t 0))then .inl ()else .inr dM):=by
 have gf:((w.drop t).take o).length=o:=by grind
 have bO:(enW ((w.drop t).take o)).length=o:=by grind
 have cR:∀i,i<o→((w.drop t).take o).getD i 0=w.getD (t+i) 0:=by grind
 have hb:∀i,i<o→L (i:Int)=dJ (if(w.getD (t+i) 0==w.getD t 0)then .inl ((i+1:Nat):Int)else .inr (.inr dM)):=fun i hi=>by
  have e1:ixO (enW ((w.drop t).take o)) (i:Int)=dJ (((w.getD (t+i) 0:Nat):Int)+1):=by grind[sD]
  have e2:(((w.getD (t+i) 0:Nat):Int)+1 != ((w.getD t 0:Nat):Int)+1)= !(w.getD (t+i) 0==w.getD t 0):=by grind
  rcases hL with rfl|rfl<;>
  ·first|unfold zJV|unfold zJW
   rw[bO,yI hi,zK,e1,bs,sD ht,bs,e2]
   by_cases g:(w.getD (t+i) 0==w.getD t 0)=dL
   ·rw[g,Ja,zL,zF (by omega) (by omega),bs,cs];rfl
   grind
 have he:L (o:Int)=dJ (.inr (.inl ())):=by
  rcases hL with rfl|rfl
  ·unfold zJV
   grind
  ·unfold zJW
   grind
 rw[zJ1 o (fun i=>w.getD (t+i) 0==w.getD t 0) (by grind) (fun _=>he)]
 congr 1
 have cP:(Jh o).all (fun i=>w.getD (t+i) 0==w.getD t 0)=decide ((w.drop t).take o=J1 o (w.getD t 0)):=by
  rw[Bool.eq_iff_iff,K8,decide_eq_true_iff];constructor
  ·intro g
   refine Hj (by grind) fun i h1 h2=>?_
   have:=g i (by grind)
   grind
  grind
 rw[cP]
section
variable {x:SPr} (h:Pres x)
 include h
theorem jU{a:Nat}(ha:a<x.zA.length):ixO x.zA (a:Int)=dJ ((yE x a:Nat):Int)∧2≤yE x a∧yE x a≤7:=by
 have hp:=(h.os.2 a ha).pos;rw[zT 0 ha]
 grind
theorem zTK{w:List Nat}{t:Nat}(ht:t<w.length):(pws x (w.drop t)).isSome=decide (t+yE x (w.getD t 0)≤w.length∧(w.drop t).take (yE x (w.getD t 0))=J1 (yE x (w.getD t 0)) (w.getD t 0)):=by
 have _:=h;have hd:=qU ht
 by_cases g:(w.drop t).take (yE x (w.getD t 0))=J1 (yE x (w.getD t 0)) (w.getD t 0)
 ·have hl:=zCi g
  rw[Kr]at hl;rw[dP ⟨by omega,g⟩];rw[hd]at g ⊢
  simp only[pws]
  grind
 ·rw[dO fun z=>g z.2]
  rw[hd]at g ⊢
  simp only[pws]
  grind
theorem zI6{w:List Nat}(hw:∀a∈w,a<x.zA.length)(hl:w.length≤1000000){t:Nat}(ht:t<w.length):yAU x (enW w) (t:Int)=dJ (hdS x (w.drop t)).isSome:=by
 have ha:w.getD t 0<x.zA.length:=by grind[Ke]
 obtain⟨o1,o2,o3⟩:=jU h ha;have gf:(enW w).length=w.length:=by simp
 have hd:=qU ht;have a1:((w.getD t 0:Nat):Int)+1-1=((w.getD t 0:Nat):Int):=by omega
 have a2:(t:Int)+((yE x (w.getD t 0):Nat):Int)=((t+yE x (w.getD t 0):Nat):Int):=by omega
 have h9:=h.os.1;have fin:∀L:List Int→Int→Option (Int⊕(Unit⊕Bool)),(∀o,L (enW ((w.drop t).take o))=zJV (enW w) (t:Int) (enW ((w.drop t).take o))∨L (enW ((w.drop t).take o))=zJW (enW w) (t:Int) (enW ((w.drop t).take o)))→
   (cond (decide (((t+yE x (w.getD t 0):Nat):Int)> ((w.length:Nat):Int))) (dJ dM) ((dJ ((t+yE x (w.getD t 0):Nat):Int)).bind fun v9=>(zQ (enW w) (t:Int) v9).bind fun v10=>(zH (L v10) 0).bind fun r14=>match r14 with|(.inl _)=>dJ dL|(.inr r14)=>dJ r14))=dJ (pws x (w.drop t)).isSome:=by
  intro L hL;rw[zTK h ht]
  by_cases g:t+yE x (w.getD t 0)≤w.length
  ·rw[dO (by omega),zL,bs,zDP (by omega) g,bs,Lv,zTJ (hL _) ht g hl,bs]
   grind
  grind
 unfold yAU;rw[gf,zF (by omega) (by omega),bs]
 by_cases g:t+1<w.length
 ·have cU:=qU g
  rw[dP (by omega),zK,sD ht,bs,bs,show(t:Int)+1=((t+1:Nat):Int)from by omega,sD g,bs]
  by_cases g2:w.getD (t+1) 0<w.getD t 0
  ·rw[dP (by omega),zK,hd,cU]
   unfold hdS;simp only[swp]
   grind
  ·rw[dO (by omega),zL,bs,a1,zF (by omega) (by omega),bs,o1,bs,a2,zF (by omega) (by omega),bs]
   refine(fin (fun v=>zJV (enW w) (t:Int) v) fun o=>.inl rfl).trans ?_;have:swp x (w.drop t)=dK:=by rw[hd,cU];simp only[swp];grind
   grind[hdS]
 ·rw[dO (by omega),zL,sD ht,bs,a1,zF (by omega) (by omega),bs,o1,bs,a2,zF (by omega) (by omega),bs]
  refine(fin (fun v=>zJW (enW w) (t:Int) v) fun o=>.inr rfl).trans ?_
  grind[swp,hdS]
end
end Go.Pl

namespace Go.Pl
open Go Go.Ab Go.Wk Go.Pc
def stI(x:SPr):List Nat→Option (Nat×zE9)
 | []=>dK
 |a::w=>match hdS x (a::w)with
  |some r=>dJ (0,r)
  |none=>(stI x w).map fun z=>(z.1+1,z.2)
section
variable {x:SPr}
theorem zKV:∀w:List Nat,stS x w=(stI x w).map fun z=>(z.2.1,z.2.2.1,w.take z.1++z.2.2.2)
 | []=>rfl
 |a::w=>by
  simp only[stS,stI];cases hdS x (a::w)with
  |some r=>rfl
  |none=>
   rw[zKV w];cases stI x w with
   |none=>rfl
   |some z=>rfl
theorem zPX:∀{w:List Nat}{z:Nat×zE9},stI x w=dJ z→z.1<w.length∧hdS x (w.drop z.1)=dJ z.2
 | [],_,h=>by cases h
 |a::w,z,h=>by
  simp only[stI]at h;cases e:hdS x (a::w)with
  |some r=>
   grind
  |none=>
   rw[e]at h;cases e2:stI x w with
   |none=>grind
   |some q=>
    rw[e2]at h;cases h;obtain⟨h1,h2⟩:=zPX e2
    grind
theorem zML:∀(k i:Nat)(w:List Nat),i+k=w.length→(Kt i k).findSome? (fun j=>if(hdS x (w.drop j)).isSome then dJ (j:Int)else dK)=(stI x (w.drop i)).map fun z=>((i+z.1:Nat):Int)
 |0,i,w,h=>by rw[Hb (by omega)];rfl
 |k+1,i,w,h=>by
  rw[Jav,Qz,qU (by omega)];simp only[stI];cases e:hdS x (w.getD i 0::w.drop (i+1))with
  |some r=>rfl
  |none=>
   simp only[Gy,Hg,if_false];rw[zML k (i+1) w (by omega)];cases stI x (w.drop (i+1))with
   |none=>rfl
   |some z=>
    grind
section
variable (h:Pres x)
 include h
theorem zCj{w:List Nat}(hw:∀a∈w,a<x.zA.length)(hl:w.length≤1000000):zVn x (enW w)=dJ (match stI x w with|some z=>(z.1:Int)|none=> -1):=by
 have gf:(enW w).length=w.length:=by simp
 unfold zVn;have:=zJ0 (body:=zQp x (enW w)) w.length (fun j=>if(hdS x (w.drop j)).isSome then dJ (j:Int)else dK) 0 (Kf _) (fun i _ hi _=>by
  unfold zQp;rw[gf,yI hi,zK,zI6 h hw hl hi,bs];cases hdS x (w.drop i)with
  |some r=>rfl
  |none=>
   simp only[Gy];rw[zL,zF (by omega) (by omega),bs,cs];rfl) (fun _=>by
  unfold zQp;simp)
 rw[show((0:Nat):Int)=0 from rfl,Qn,zML w.length 0 w (by omega),G9]at this;rw[this,bs];cases stI x w with
 |none=>rfl
 |some z=>simp only[Gk,zMb,Jd]
theorem zI7{v:List Int}(hn:x.zA.length≤6)(hv:yAf x.zA v):f_O v=dJ (enW (nw 0 v))∧(nw 0 v).length≤36:=by
 have hb:∀i,i<v.length→0≤at0 v i∧at0 v i≤6:=fun i hi=>by have h1:=hv.2 i hi;have h2:=(h.os.2 i (by grind)).pos;omega
 have:=zFX 0 v (by grind);have hl:=hv.1
 grind[zAH]
theorem zD0(hn:x.zA.length≤6){w:List Nat}(hw:∀a∈w,a<x.zA.length)(hl:w.length≤900000){t:Nat}{r:zE9}(ht:t<w.length)(hr:hdS x (w.drop t)=dJ r):zVe x (enW w) (t:Int)=dJ (enW (w.take t++r.2.2)):=by
 have gn:∀i,i<w.length→w.getD i 0<x.zA.length:=by grind[Ke]
 have ha:=gn t ht;obtain⟨o1,o2,o3⟩:=jU h ha;have gf:(enW w).length=w.length:=by simp
 have hd:=qU ht;have a1:((w.getD t 0:Nat):Int)+1-1=((w.getD t 0:Nat):Int):=by omega
 have a2:(t:Int)+((yE x (w.getD t 0):Nat):Int)=((t+yE x (w.getD t 0):Nat):Int):=by omega
 obtain⟨p1,p2⟩:=zI7 h hn (h.tl _ ha).1.1;have h0:zQ (enW w) 0 (t:Int)=dJ (enW (w.take t)):=by
  have:=zDP (w:=w) (Kf t) (by omega)
  grind
 have hs:∀q,q≤w.length→zQ (enW w) (q:Int) (w.length:Int)=dJ (enW (w.drop q)):=fun q hq=>by rw[zDP hq (Jk _),Jr (by simp)]
 have pw:swp x (w.drop t)=dK→(rng (((w.getD t 0:Nat):Int)+1-1)).bind (fun v3=>(zQ (enW w) 0 (t:Int)).bind fun v4=>(ixO x.zJ v3).bind fun v5=>(f_O v5).bind fun r6=>(ixO x.zA v3).bind fun v7=>(rng ((t:Int)+v7)).bind fun v8=>(zQ (enW w) v8 (w.length:Int)).bind fun v9=>(f_N [v4,r6,v9]).bind fun r10=>dJ r10)=dJ (enW (w.take t++r.2.2)):=fun bq=>by
  unfold hdS at hr;rw[bq]at hr;simp only at hr;rw[hd]at hr;simp only[pws]at hr;split at hr
  ·rename_i g
   have gT:=zCi g;rw[←hd,Kr]at gT;cases hr;rw[a1,zF (by omega) (by omega),bs,h0,bs,zT [] (by rw[h.pl];exact ha),bs,p1,bs,o1,bs,a2,zF (by omega) (by omega),bs,hs _ (by omega),bs,zB7 (by simp) (by simp only[G6,Ue,J5,Js,L4,Kr,K0,enW];omega),bs]
   simp_all
  ·cases hr
 unfold zVe;rw[gf,zF (by omega) (by omega),bs]
 by_cases g:t+1<w.length
 ·have cU:=qU g
  have hb:=gn _ g;rw[dP (by omega),zK,sD ht,bs,bs,show(t:Int)+1=((t+1:Nat):Int)from by omega,sD g,bs]
  by_cases g2:w.getD (t+1) 0<w.getD t 0
  ·rw[hd,cU]at hr
   unfold hdS at hr;simp only[swp]at hr;rw[if_pos g2]at hr;cases hr;have fe:=h.tl _ hb;have ag:=fe.2.2 (w.getD t 0-(w.getD (t+1) 0+1)) (by have:=fe.2.1;omega);obtain⟨q1,q2⟩:=zI7 h hn ag.1;have b1:((w.getD (t+1) 0:Nat):Int)+1-1=((w.getD (t+1) 0:Nat):Int):=by omega
   have b2:((w.getD t 0:Nat):Int)-((w.getD (t+1) 0:Nat):Int)-1=((w.getD t 0-(w.getD (t+1) 0+1):Nat):Int):=by omega
   rw[dP (by omega),zK,bs,a1,zF (by omega) (by omega),bs,bs,sD g,bs,b1,zF (by omega) (by omega),bs,h0,bs,zF (by omega) (by omega),bs,zT [] (by rw[h.cl];exact hb),bs,zF (by omega) (by omega),bs,b2,zF (by omega) (by omega),bs,zT [] (by have:=fe.2.1;omega),bs,q1,bs,zF (by omega) (by omega),bs,show(t:Int)+2=((t+2:Nat):Int)from by omega,hs _ (by omega),bs,zB7 (by simp) (by simp only[G6,Ue,J5,Js,L4,Kr,K0,Jc,enW];omega),bs];simp
  ·rw[dO (by omega),zL,bs]
   exact pw (by rw[hd,cU];simp only[swp];grind)
 ·rw[dO (by omega),zL,sD ht,bs]
  exact pw (by rw[hd,Hb (by omega)];rfl)
end
end
end Go.Pl

namespace Go.Pl
open Go Go.Ab Go.Wk Go.Pc
def smx(p:Int)(D N:Nat)(F:Nat→Nat→Nat→Int):List zS:=gl N fun r=>zS.mk p (D:Int) (gl D fun i=>mkv D fun j=>F r i j%p)
def upd(F:Nat→Nat→Nat→Int)(s:Int)(r0:Nat)(A:Mx)(c:Nat):Nat→Nat→Nat→Int:=fun r i j=>F r i j+if r=r0∧i<c then s*ent A i j else 0
theorem zCk{β:Type}{n:Nat}{f g:Nat→β}(h:∀i,i<n→f i=g i):gl n f=gl n g:=by simp_all
section
variable {x:SPr}{m:zC}{D N:Nat}{s:Int}{r0:Nat}{A:Mx}{T0:List zS}
theorem zJO(hp:Prime m.Prime)(hD:D≤3)(_:N≤100)(hs:-7≤s∧s≤7)(hr:r0<N)(hA:Mat m.Prime D A){F:Nat→Nat→Nat→Int}{L:(List zS)×Int→Option (((List zS)×Int)⊕(List zS))}
  (hL:L=zX4 ⟨x,m,T0⟩ s (r0:Int) (zS.mk m.Prime (D:Int) A)∨L=zX5 ⟨x,m,T0⟩ s (r0:Int) (zS.mk m.Prime (D:Int) A)∨L=zX6 ⟨x,m,T0⟩ s (r0:Int) (zS.mk m.Prime (D:Int) A)):
  zH L (smx m.Prime D N F,0)=dJ (smx m.Prime D N (upd F s r0 A D)):=by
 have bF:=hp.pos;have cY:=hA.1;have gG:∀c,c<D→ ∀(k:Nat),(c:Int)+1=(k:Int)→((ixO A (c:Int)).bind fun v10=>(ixO (smx m.Prime D N (upd F s r0 A c)) (r0:Int)).bind fun v11=>(ixO v11.Rows (c:Int)).bind fun v12=>(f_Q v12 v10 s m.Prime).bind fun r13=>(rng ((c:Int)+1)).bind fun v14=>
   (dJ (.inl ((smx m.Prime D N (upd F s r0 A c)).set (r0:Int).toNat (zS.mk v11.Prime v11.tD (v11.Rows.set (c:Int).toNat r13)),v14)):Option (((List zS)×Int)⊕(List zS))))=dJ (.inl (smx m.Prime D N (upd F s r0 A (c+1)),((c+1:Nat):Int))):=fun c hc k _=>by
  have eI:Row m.Prime D (mkv D fun j=>upd F s r0 A c r0 c j%m.Prime):=⟨zU _ _,fun j hj=>by rw[yC hj];exact⟨Kv _ (by omega),by have:=Ki (upd F s r0 A c r0 c j) (show 0<m.Prime by omega);omega⟩⟩
  rw[zT [] (by omega),bs,smx,zAC hr,bs];simp only
  rw[zAC hc,bs,zJC hp eI (hA.2 c hc) hs (by omega),bs,zF (by omega) (by omega),bs,J8,J8,zE5,zE5,cs]
  congr 3
  refine zCk fun r _=>?_
  by_cases g:r=r0
  ·rw[if_pos g,g]
   congr 1
   refine zCk fun i _=>?_
   by_cases g2:i=c
   ·rw[if_pos g2,g2,uW]
    refine yA fun j hj=>?_
    rw[yC hj,upd,upd,if_neg (by simp),if_pos (by simp),Lu];simp
   ·rw[if_neg g2]
    refine yA fun j hj=>?_
    rw[upd,upd]
    grind
  ·rw[if_neg g]
   congr 1
   refine zCk fun i _=>yA fun j _=>?_
   rw[upd,upd,if_neg (fun z=>g z.1),if_neg (fun z=>g z.1)]
 have:=zM (body:=L) (r:=smx m.Prime D N (upd F s r0 A D)) (fun c=>(smx m.Prime D N (upd F s r0 A c),(c:Int))) D (fun c hc=>by
  rcases hL with rfl|rfl|rfl
  ·unfold zX4
   grind
  ·unfold zX5
   grind
  ·unfold zX6
   grind) (by
  rcases hL with rfl|rfl|rfl
  ·unfold zX4
   grind
  ·unfold zX5
   grind
  ·unfold zX6
   grind)
 rw[show smx m.Prime D N (upd F s r0 A 0)=smx m.Prime D N F from zCk fun r _=>by
  congr 1
  refine zCk fun i _=>yA fun j _=>?_
  rw[upd,if_neg (by simp),Lu]]at this
 exact this
end
theorem zTL:∀n:Nat,n<7→ ∀j:Nat,j<n→ ∀i:Nat,i<j→((rng ((n:Int)-1)).bind fun v10=>(rng ((i:Int)*v10)).bind fun v11=>(rng ((n:Int)+v11)).bind fun v12=>(rng ((i:Int)-1)).bind fun v13=>(rng ((i:Int)*v13)).bind fun v14=>(wS v14 2).bind fun v15=>(rng (v12-v15)).bind fun v16=>(rng (v16+(j:Int))).bind fun v17=>(rng (v17-(i:Int))).bind fun v18=>(rng (v18-1)).bind fun v19=>dJ v19)=dJ ((base n i+(j-(i+1)):Nat):Int):=by decide+kernel
end Go.Pl

namespace Go.Pl
open Go Go.Ab Go.Wk Go.Pc
section
variable {x:SPr}{m:zC}{D:Nat}{T0:List zS} (h:Pres x) (hn:x.zA.length≤6) (hD:MOk x.zA.length m D)
 include h hn
theorem zGH{w:List Nat}(hw:∀a∈w,a<x.zA.length)(hl:w.length≤900000){t:Nat}{r:zE9}(ht:t<w.length)(hr:hdS x (w.drop t)=dJ r):yAT ⟨x,m,T0⟩ (enW w) (t:Int)=dJ (r.1:Int):=by
 have _:=h;have gn:∀i,i<w.length→w.getD i 0<x.zA.length:=by grind[Ke]
 have ha:=gn t ht;have gf:(enW w).length=w.length:=by simp
 have hd:=qU ht;have a1:((w.getD t 0:Nat):Int)+1-1=((w.getD t 0:Nat):Int):=by omega
 have pw:swp x (w.drop t)=dK→(rng (((w.getD t 0:Nat):Int)+1-1)).bind (fun v3=>dJ v3)=dJ (r.1:Int):=by grind[hdS,pws,zF]
 unfold yAT;rw[gf,zF (by omega) (by omega),bs]
 by_cases g:t+1<w.length
 ·have cU:=qU g
  have hb:=gn _ g;rw[dP (by omega),zK,sD ht,bs,bs,show(t:Int)+1=((t+1:Nat):Int)from by omega,sD g,bs]
  by_cases g2:w.getD (t+1) 0<w.getD t 0
  ·rw[hd,cU]at hr
   unfold hdS at hr;simp only[swp]at hr;rw[if_pos g2]at hr;cases hr;have b1:((w.getD (t+1) 0:Nat):Int)+1-1=((w.getD (t+1) 0:Nat):Int):=by omega
   rw[dP (by omega),zK,bs,a1,zF (n:=((w.getD t 0:Nat):Int)) (by omega) (by omega),bs,bs,sD g,bs,b1,zF (n:=((w.getD (t+1) 0:Nat):Int)) (by omega) (by omega),bs]
   grind[zTL]
  ·rw[dO (by omega),zL,bs]
   exact pw (by rw[hd,cU];simp only[swp];grind)
 ·rw[dO (by omega),zL,sD ht,bs]
  exact pw (by rw[hd,Hb (by omega)];rfl)
 include hD
theorem zGi{w:List Nat}(hw:∀a∈w,a<x.zA.length)(hl:w.length≤60000){t:Nat}{r:zE9}(ht:t<w.length)(hr:hdS x (w.drop t)=dJ r){s:Int}(hs:-7≤s∧s≤7){F:Nat→Nat→Nat→Int}:
  f_F ⟨x,m,smx m.Prime D (base x.zA.length x.zA.length) F⟩ (enW w) (t:Int) s=dJ (enW (w.take t++r.2.2),⟨x,m,smx m.Prime D (base x.zA.length x.zA.length) (upd F s r.1 (wM m.Prime D m.zG r.2.1 (idM D)) D)⟩):=by
 have hp:=hD.p.pos;have h3:=hD.d3;have eC:=xW x.zA.length (by omega);have gn:∀i,i<w.length→w.getD i 0<x.zA.length:=by grind[Ke]
 have ha:=gn t ht;obtain⟨o1,o2,o3⟩:=jU h ha;have gf:(enW w).length=w.length:=by simp
 have hd:=qU ht;have a1:((w.getD t 0:Nat):Int)+1-1=((w.getD t 0:Nat):Int):=by omega
 have a2:(t:Int)+((yE x (w.getD t 0):Nat):Int)=((t+yE x (w.getD t 0):Nat):Int):=by omega
 have tw:=zYZ hn (by grind) hr;have hA:∀z,Mat m.Prime D (wM m.Prime D m.zG z (idM D)):=by grind[zC0,sG]
 have gQ:∀q,q≤w.length→zQ (enW w) (q:Int) (w.length:Int)=dJ (enW (w.drop q)):=fun q hq=>by rw[zDP hq (Jk _),Jr (by simp)]
 have tc:∀q,q≤w.length→zLh m (enW (w.drop q))=dJ (zS.mk m.Prime (D:Int) (wM m.Prime D m.zG (w.drop q) (idM D))):=fun q hq=>
  zBH hD (by omega) (by grind) (by grind)
 have pw:swp x (w.drop t)=dK→r.2.1=w.drop (t+yE x (w.getD t 0))∧t+yE x (w.getD t 0)≤w.length:=fun bq=>by
  unfold hdS at hr;rw[bq]at hr;simp only at hr;rw[hd]at hr;simp only[pws]at hr;split at hr
  ·rename_i g
   have gT:=zCi g
   grind[List.drop_drop]
  ·cases hr
 unfold f_F;rw[zGH h hn hw (by omega) ht hr,bs,zD0 h hn hw (by omega) ht hr,bs,gf,zF (by omega) (by omega),bs]
 by_cases g:t+1<w.length
 ·have cU:=qU g
  have hb:=gn _ g;rw[dO (by omega),zL,sD ht,bs,bs,show(t:Int)+1=((t+1:Nat):Int)from by omega,sD g,bs]
  by_cases g2:w.getD (t+1) 0<w.getD t 0
  ·rw[hd,cU]at hr
   unfold hdS at hr;simp only[swp]at hr;rw[if_pos g2]at hr;cases hr;rw[dO (by omega),zL,zF (by omega) (by omega),bs,show(t:Int)+2=((t+2:Nat):Int)from by omega,gQ _ (by omega),bs,tc _ (by omega),bs,zJO hD.p h3 (by omega) hs tw (hA _) (.inr (.inr rfl)),bs]
  ·obtain⟨e1,e2⟩:=pw (by rw[hd,cU];simp only[swp];grind)
   rw[dP (by omega),zK,bs,a1,zF (by omega) (by omega),bs,o1,bs,a2,zF (by omega) (by omega),bs,gQ _ e2,bs,tc _ e2,bs,zJO hD.p h3 (by omega) hs tw (hA _) (.inr (.inl rfl)),bs,e1]
 ·obtain⟨e1,e2⟩:=pw (by rw[hd,Hb (by omega)];rfl)
  omega
end
end Go.Pl

namespace Go.Pl
open Go Go.Ab Go.Wk Go.Pc
inductive Cb (x:SPr) (M:Nat):List Nat→Trc→List Nat→Prop where
 |refl (w:List Nat) (hl:w.length≤M) (hw:∀a∈w,a<x.zA.length):Cb x M w [] w
 |step {w w1 w' s:List Nat}{r:Nat}{tr:Trc} (hl:w.length≤M) (hw:∀a∈w,a<x.zA.length) (hs:stS x w=dJ (r,s,w1)) (h:Cb x M w1 tr w'):Cb x M w ((r,s)::tr) w'
theorem Cb.st{x:SPr}{M:Nat}{w w':List Nat}{tr:Trc}(h:Cb x M w tr w'):w.length≤M∧ ∀a∈w,a<x.zA.length:=by
 cases h with
 |refl _ hl hw=>grind
 |step hl hw _ _=>grind
def zDZ(m:zC)(D:Nat)(s:Int):(Nat→Nat→Nat→Int)→Trc→Nat→Nat→Nat→Int
 |F,[]=>F
 |F,(r,z)::tr=>zDZ m D s (upd F s r (wM m.Prime D m.zG z (idM D)) D) tr
theorem zPY{m:zC}{D:Nat}{s:Int}{r i j:Nat}(hi:i<D):∀(tr:Trc)(F:Nat→Nat→Nat→Int),zDZ m D s F tr r i j=F r i j+s*zBM m.Prime D m tr r i j
 | [],F=>by rw[zDZ,zBM,Lt,Lu]
 |(q,z)::tr,F=>by
  rw[zDZ,zPY hi tr,upd,zBM,Int.mul_add,Int.add_assoc]
  grind
abbrev zTM(x:SPr)(w:List Nat):Int:=match stI x w with
 |some z=>(z.1:Int)
 |none=> -1
section
variable {x:SPr}{m:zC}{D:Nat} (h:Pres x) (hn:x.zA.length≤6) (hD:MOk x.zA.length m D)
 include h hn hD
theorem zKW{s:Int}(hs:-7≤s∧s≤7){w w':List Nat}{tr:Trc}(hc:Cb x 60000 w tr w')(ew:stS x w'=dK):∀F:Nat→Nat→Nat→Int,
  zH (zQq s) (x,m,smx m.Prime D (base x.zA.length x.zA.length) F,enW w,zTM x w)=dJ (x,m,smx m.Prime D (base x.zA.length x.zA.length) (zDZ m D s F tr)):=by
 induction hc with
 |refl w hl hw=>
  intro F;have e:zTM x w= -1:=by
   rw[zKV]at ew
   grind
  rw[yQ,e];rfl
 |step hl hw gG hc ih=>
  rename_i w w1 w2 z r tr;intro F;rw[zKV]at gG;cases g:stI x w with
  |none=>grind
  |some q=>
   rw[g]at gG;obtain⟨t,q⟩:=q;simp only[Gk,Ll.injEq,Ja1.injEq]at gG;obtain⟨e1,e2,e3⟩:=gG;obtain⟨ht,hh⟩:=zPX g;simp only at ht hh;have fc:=hc.st;have e:zTM x w=(t:Int):=by grind
   have h1:=zGi h hn hD hw hl ht hh hs (F:=F);rw[e3,e1,e2]at h1;have h2:=zCj h fc.2 (by omega);rw[yQ,e];have hb:zQq s (x,m,smx m.Prime D (base x.zA.length x.zA.length) F,enW w,(t:Int))=dJ (.inl (x,m,smx m.Prime D (base x.zA.length x.zA.length) (upd F s r (wM m.Prime D m.zG z (idM D)) D),enW w1,zTM x w1)):=by
    unfold zQq
    grind
   rw[hb];simp only
   exact ih ew _
theorem zFy{s:Int}(hs:-7≤s∧s≤7){w w':List Nat}{tr:Trc}(hc:Cb x 60000 w tr w')(ew:stS x w'=dK)(F:Nat→Nat→Nat→Int):
  zGI ⟨x,m,smx m.Prime D (base x.zA.length x.zA.length) F⟩ (enW w) s=dJ ⟨x,m,smx m.Prime D (base x.zA.length x.zA.length) (zDZ m D s F tr)⟩:=by
 have fc:=hc.st;unfold zGI;rw[show zVn (wI.p ⟨x,m,smx m.Prime D (base x.zA.length x.zA.length) F⟩) (enW w)=dJ (zTM x w)from by grind[zCj],bs];have:=zKW h hn hD hs hc ew F
 grind
end
end Go.Pl

namespace Go.Pl
open Go Go.Ab Go.Wk Go.Pc
inductive Cl (x:SPr) (k M:Nat):List Nat→Trc→List Nat→Prop where
 |refl (w:List Nat) (hl:w.length≤M) (hw:∀a∈w,k≤a∧a<x.zA.length):Cl x k M w [] w
 |step {w w1 w' s:List Nat}{r:Nat}{tr:Trc} (hl:w.length≤M) (hw:∀a∈w,k≤a∧a<x.zA.length) (hs:stS x w=dJ (r,s,w1)) (h:Cl x k M w1 tr w'):Cl x k M w ((r,s)::tr) w'
theorem Cl.trans{x:SPr}{k M:Nat}{w w1 w2:List Nat}{t1 t2:Trc}(h:Cl x k M w t1 w1)(h2:Cl x k M w1 t2 w2):Cl x k M w (t1++t2) w2:=by
 induction h with
 |refl w=>exact h2
 |step hl hw hs _ ih=>exact .step hl hw hs (ih h2)
theorem Cl.mono{x:SPr}{k M M2:Nat}(hM:M≤M2){w w':List Nat}{tr:Trc}(h:Cl x k M w tr w'):Cl x k M2 w tr w':=by
 induction h with
 |refl w hl hw=>exact .refl _ (by omega) hw
 |step hl hw hs _ ih=>exact .step (by omega) hw hs ih
theorem Cl.cb{x:SPr}{k M:Nat}{w w':List Nat}{tr:Trc}(h:Cl x k M w tr w'):Cb x M w tr w':=by
 induction h with
 |refl w hl hw=>exact .refl _ hl (by grind)
 |step hl hw hs _ ih=>exact .step hl (by grind) hs ih
theorem Cl.col{x:SPr}{k M:Nat}{w w':List Nat}{tr:Trc}(h:Cl x k M w tr w'):Col x k w tr w':=by
 induction h with
 |refl w hl hw=>exact .refl _
 |step hl hw hs _ ih=>exact .step hw hs ih
section
variable {x:SPr} (h:Pres x)
 include h
theorem zPZ:∀(d k:Nat),k+d=x.zA.length→ ∀y,V (suf x k) y→(nw k y).length≤6*d
 |0,k,hk,y,hy=>by
  rw[vA (x:=x) (k:=k) (by omega)]at hy;cases y with
  |nil=>simp[nw]
  |cons b y=>cases hy
 |d+1,k,hk,y,hy=>by
  have hp:=(h.os.2 k (by omega)).pos;rw[zY (x:=x) (by omega)]at hy;cases y with
  |nil=>exact hy.elim
  |cons b y=>
   obtain⟨⟨h1,h2⟩,h3⟩:=hy;have ih:=zPZ d (k+1) (by omega) y h3;have fM:b<at0 x.zA k:=h2
   grind[nw]
theorem Cl.ctx{i a M:Nat}(hi:i<x.zA.length)(ha:a<yE x i){s:List Nat}(hs:∀b∈s,i≤b∧b<x.zA.length){w w':List Nat}{tr:Trc}(hc:Cl x (i+1) M w tr w'):
  Cl x i (a+M+s.length) (J1 a i++(w++s)) (tr.map fun q=>(q.1,q.2++s)) (J1 a i++(w'++s)):=by
 have mem:∀{w:List Nat},(∀b∈w,i+1≤b∧b<x.zA.length)→ ∀b∈J1 a i++(w++s),i≤b∧b<x.zA.length:=by grind
 induction hc with
 |refl w hl hw=>exact .refl _ (by simp;omega) (mem hw)
 | @step w w1 w' s1 r tr hl hw gG _ ih=>
  refine .step (by simp;omega) (mem hw) ?_ ih;rw[zEA ha a (Jk _) fun b hb=>?_,zKK (by grind[zMD]) gG]
  ·rfl
  ·cases w with
   |nil=>cases gG
   |cons c w=>
    simp only[Kd,Jae,Ll.injEq]at hb;have:=hw c (by simp);omega
theorem zKX(hn:x.zA.length≤6){i j:Nat}(hi:i<j)(hj:j<x.zA.length):(nw 0 (lcj x i j)).length≤36:=(zI7 h hn (vY h hi hj).1).2
theorem zQa(hn:x.zA.length≤6){i:Nat}:∀{ur:List Nat},(∀b∈ur,i+1≤b∧b<x.zA.length)→(cwd x i ur).length≤36*ur.length
 | [],_=>by simp[cwd]
 |l::ur,hu=>by
  have h1:=hu l (by simp);have h2:=zKX h hn (show i<l by omega) h1.2;have ih:=zQa hn (ur:=ur) fun b hb=>hu b (by simp[hb])
  grind[cwd]
theorem Cl.move(hn6:x.zA.length≤6){i a:Nat}(hi:i<x.zA.length)(ha:a<yE x i):∀{ur:List Nat},(∀b∈ur,i+1≤b∧b<x.zA.length)→stS x ur.reverse=dK→ ∀{z:List Nat},(∀b∈z,i≤b∧b<x.zA.length)→
  Cl x i (a+1+37*ur.length+z.length) (J1 a i++(ur.reverse++i::z)) (mtr x i ur z) (J1 (a+1) i++(cwd x i ur++z))
 | [],_,_,z,hz=>by
  have e:J1 a i++(([]:List Nat).reverse++i::z)=J1 (a+1) i++(cwd x i []++z):=by grind[Kw,cwd]
  rw[e];refine .refl _ (by simp[cwd]) fun b hb=>?_
  grind
 |l::ur,hu,hn,z,hz=>by
  obtain⟨l1,l2⟩:=hu l (by simp);have c8:∀b∈ur,i+1≤b∧b<x.zA.length:=by grind
  have ck:=sW h (vY h (show i<l by omega) l2) hi;have mi:=zKX h hn6 (show i<l by omega) l2;rw[Gt]at hn ⊢
  have me:=zG5 (by grind[zMD]) hn;have eM:∀b∈nw 0 (lcj x i l)++z,i≤b∧b<x.zA.length:=by grind
  have ih:=(Cl.move hn6 hi ha c8 me eM).mono (M2:=a+1+37*(l::ur).length+z.length) (by grind);rw[show cwd x i (l::ur)++z=cwd x i ur++(nw 0 (lcj x i l)++z)from by simp[cwd]];have e1:ur.reverse++[l]++i::z=ur.reverse++l::i::z:=by simp
  rw[e1];refine .step (by simp;omega) (fun b hb=>?_) ?_ ih
  ·simp only[Jf,J9,List.mem_reverse]at hb
   rcases hb with hb|hb|hb|hb|hb
   ·grind
   ·grind
   ·omega
   all_goals grind
  ·rw[zEA ha a (Jk _) fun b hb=>?_,zT2 (by grind) (by omega) hn]
   ·rfl
   ·have:b∈ur.reverse++l::i::z:=by grind[Qi]
    cases e:ur.reverse with
    |nil=>grind
    |cons c t=>
     rw[e]at hb;simp only[Kd,Jae,Ll.injEq]at hb
     grind
end
end Go.Pl

namespace Go.Pl
open Go Go.Ab Go.Wk Go.Pc
section
variable {x:SPr} (h:Pres x) (hn:x.zA.length≤6)
 include h hn
theorem zKY{k M W L:Nat}(hk:k<x.zA.length)(P:∀v:List Nat,v.length≤W→(∀a∈v,k+1≤a∧a<x.zA.length)→ ∃tr y,Cl x (k+1) M v tr (nw (k+1) y)∧V (suf x (k+1)) y):∀(z:List Nat),z.length≤L→(∀a∈z,k≤a∧a<x.zA.length)→ ∀(a:Nat),a<yE x k→ ∀(v:List Nat),v.length+z.length≤W→1400+z.length≤W→(∀a∈v,k+1≤a∧a<x.zA.length)→
  ∃tr y,Cl x k (M+L+1500) (J1 a k++(v++z)) tr (nw k y)∧V (suf x k) y
 | [],_,_,a,ha,v,co,_,hv=>by
  obtain⟨tr,y,c1,c2⟩:=P v (by omega) hv;have ho:=(jU h hk).2.2;have hc:=(Cl.ctx h hk ha (s:=[]) (by simp) c1).mono (M2:=M+L+1500) (by simp;omega);rw[show(fun q:Nat×List Nat=>(q.1,q.2++[]))=id from by grind,List.map_id,Jb,Jb]at hc;refine⟨tr,(a:Int)::y,?_,?_⟩
  ·grind[nw]
  ·rw[zY hk]
   refine⟨⟨by omega,?_⟩,c2⟩;show(a:Int)<at0 x.zA k
   grind
 |l::z,cm,hz,a,ha,v,co,hW,hv=>by
  have ho:=(jU h hk).2.2;have hzl2:z.length+1≤L:=by omega
  have ap:v.length+(z.length+1)≤W:=by omega
  have hW2:1400+(z.length+1)≤W:=by omega
  have eM:∀b∈z,k≤b∧b<x.zA.length:=by grind
  obtain⟨l1,l2⟩:=hz l (by simp);rcases Jn k l with g|g
  ·obtain⟨tr,y,c1,c2⟩:=zKY (L:=L) hk P z (by omega) eM a ha (v++[l]) (by simp;omega) (by omega) (by grind)
   grind
  ·obtain rfl:l=k:=by omega
   obtain⟨tr1,y1,c1,c2⟩:=P v (by omega) hv;have gJ:=zPO h (by omega) c2;have cN:∀b∈(nw (l+1) y1).reverse,l+1≤b∧b<x.zA.length:=by grind
   have eY:(nw (l+1) y1).length≤36:=by have:=zPZ h (x.zA.length-(l+1)) (l+1) (by omega) y1 c2;omega
   have gA:(cwd x l (nw (l+1) y1).reverse).length≤1296:=by grind[zQa]
   have k1:=(Cl.ctx h hk ha (s:=l::z) hz c1).mono (M2:=M+L+1500) (by simp;omega);have k2:=(Cl.move h hn hk ha cN (by rw[K5];exact zGh h _ _ (by omega:l+1+(x.zA.length-(l+1))=x.zA.length) y1 c2) eM).mono (M2:=M+L+1500) (by grind);rw[K5]at k2;have pb:=zKN h cN;rcases Jn (a+1) (yE x l)with g2|g2
   ·obtain⟨tr2,y2,d1,d2⟩:=zKY (L:=L) hk P z (by omega) eM (a+1) g2 (cwd x l (nw (l+1) y1).reverse) (by omega) (by omega) pb
    exact⟨_,y2,k1.trans (k2.trans d1),d2⟩
   ·have g4:a+1=yE x l:=by omega
    have p6:=kM h hk;have p7:=sW h p6 hk;have fW:=(zI7 h hn p6.1).2;have tm:∀b∈nw 0 (x.zJ.getD l [])++cwd x l (nw (l+1) y1).reverse,l+1≤b∧b<x.zA.length:=fun b hb=>by
     simp only[Jf]at hb;rcases hb with hb|hb
     ·grind
     grind
    obtain⟨tr2,y2,d1,d2⟩:=zKY (L:=L) hk P z (by omega) eM 0 (by omega) _ (by grind) (by omega) tm;rw[Lw,Jq,Jg]at d1;have k3:Cl x l (M+L+1500) (J1 (a+1) l++(cwd x l (nw (l+1) y1).reverse++z)) ((l,cwd x l (nw (l+1) y1).reverse++z)::tr2) (nw l y2):=by
     refine .step (by grind[J5,J6]) (fun b hb=>?_) (by grind[zYL,zMD]) d1;simp only[Jf]at hb;rcases hb with hb|hb|hb
     ·grind
     ·grind
     grind
    exact⟨_,y2,k1.trans (k2.trans k3),d2⟩
def lnB:Nat→Nat→Nat
 |0,l=>l
 |d+1,l=>lnB d (l+1400)+l+1500
theorem zZb:∀(d k:Nat),k+d=x.zA.length→ ∀(L:Nat)(z:List Nat),z.length≤L→(∀a∈z,k≤a∧a<x.zA.length)→ ∃tr y,Cl x k (lnB d L) z tr (nw k y)∧V (suf x k) y
 |0,k,hk,L,z,_,hz=>by
  have:z=[]:=by
   cases z with
   |nil=>rfl
   |cons a z=>have:=hz a (by simp);omega
  subst this;exact⟨[],[],.refl _ (by simp) (by simp),by rw[vA (x:=x) (k:=k) (by omega)];rfl⟩
 |d+1,k,hk,L,z,hl,hz=>by
  have ho:=zMD h (show k<x.zA.length by omega);obtain⟨tr,y,c1,c2⟩:=zKY h hn (M:=lnB d (L+1400)) (W:=L+1400) (L:=L) (by omega) (fun v hv hvm=>zZb d (k+1) (by omega) (L+1400) v hv hvm) z hl hz 0 (by omega) [] (by simp;omega) (by omega) (by simp)
  grind[lnB]
theorem zQb{k L:Nat}(hk:k≤x.zA.length){z:List Nat}(hl:z.length≤L){tr:Trc}{y:Vec}(hc:qM x k z tr y)(hz:∀a∈z,k≤a∧a<x.zA.length):Cb x (lnB (x.zA.length-k) L) z tr (nw k y)∧stS x (nw k y)=dK:=by obtain⟨tr2,y2,c1,c2⟩:=zZb h hn (x.zA.length-k) k (by omega) L z hl hz;have n1:=zGh h (x.zA.length-k) k (by omega) y hc.v;have n2:=zGh h (x.zA.length-k) k (by omega) y2 c2;obtain⟨e1,e2⟩:=Col.det hc.col c1.col n1 n2;rw[e1,e2];exact⟨c1.cb,n2⟩
end
theorem yAC:∀d:Nat,d<7→lnB d 100≤60000:=by decide
end Go.Pl

namespace Go.Pl
open Go Go.Ab Go.Wk Go.Pc
structure PD.Ok (x:SPr) (d:PD):Prop where
 h1:hdS x (d.wd.drop 0)=dJ (d.r1,d.s1,d.w1)
 ht:d.t<d.wd.length
 h2:∃q,hdS x (d.wd.drop d.t)=dJ (d.r2,d.s2,q)∧d.w2=d.wd.take d.t++q
 l:d.wd.length≤14
 l1:d.w1.length≤100
 l2:d.w2.length≤100
 m1:∀a∈d.w1,d.k≤a∧a<x.zA.length
 m2:∀a∈d.w2,d.k≤a∧a<x.zA.length
section
variable {x:SPr} (h:Pres x) (hn:x.zA.length≤6)
 include h hn
theorem zQc{a b:Nat}{s:List Nat}(ai:b<a):hdS x (a::b::s)=dJ (base x.zA.length b+(a-(b+1)),s,b::(nw 0 (lcj x b a)++s)):=by
 have _:=h;have _:=hn;unfold hdS;simp only[swp]
 grind
theorem zQd{a:Nat}{s:List Nat}(ha:a<x.zA.length):hdS x (J1 (yE x a) a++s)=dJ (a,s,nw 0 (x.zJ.getD a [])++s):=by
 have _:=hn;obtain⟨q,hq⟩:∃q,yE x a=q+2:=⟨yE x a-2,by have:=(jU h ha).2.1;omega⟩;have e:swp x (J1 (yE x a) a++s)=dK:=by rw[hq,Ju,Ju];simp only[Kd,swp];simp
 unfold hdS;rw[e];have e2:J1 (yE x a) a++s=a::(J1 (q+1) a++s):=by grind
 have e3:(J1 (yE x a) a++s).take (yE x a)=J1 (yE x a) a:=by simp
 have e4:(J1 (yE x a) a++s).drop (yE x a)=s:=by simp
 rw[e2]at e3 e4;rw[e2];simp only[pws]
 grind
theorem zKZ:∀d∈cps x,d.Ok x:=by
 have f8:∀i j,i<j→j<x.zA.length→ ∀a∈nw 0 (lcj x i j),i+1≤a∧a<x.zA.length:=fun i j hi hj=>(sW h (vY h hi hj) (by omega)).2
 have fh:∀i,i<x.zA.length→ ∀a∈nw 0 (x.zJ.getD i []),i+1≤a∧a<x.zA.length:=fun i hi=>(sW h (kM h hi) hi).2
 have lcon:∀i j,i<j→j<x.zA.length→(nw 0 (lcj x i j)).length≤36:=fun i j hi hj=>zKX h hn hi hj
 have lpow:∀i,i<x.zA.length→(nw 0 (x.zJ.getD i [])).length≤36:=fun i hi=>(zI7 h hn (kM h hi).1).2
 have od:∀i,i<x.zA.length→2≤yE x i∧yE x i≤7:=fun i hi=>(jU h hi).2
 refine zBB.2 ⟨fun i j k h1 h2 h3=>?_,fun i j h1 h2=>?_,fun i j h1 h2=>?_,fun i h1=>?_⟩
 ·have c1:=lcon j k h2 h3
  have c2:=lcon i j h1 (by omega);refine⟨zQc h hn h2,by simp[pd2],⟨i::(nw 0 (lcj x i j)++[]),zQc h hn h1,by simp[pd2]⟩,by simp[pd2],by simp only[pd2,Jc,J5,K0];omega,by simp only[pd2,Jc];omega,fun a ha=>?_,fun a ha=>?_⟩
  ·simp only[pd2,J9,Jf,Q8,or_false]at ha ⊢
   rcases ha with rfl|ha|rfl
   ·omega
   ·have:=f8 j k (by omega) h3 a ha;omega
   ·omega
  ·simp only[pd2,J9]at ha ⊢
   rcases ha with rfl|rfl|ha
   ·omega
   ·omega
   ·have:=f8 i j (by omega) (by omega) a ha;omega
 ·have c1:=lpow j h2
  have c2:=lcon i j h1 h2;have o:=od j h2;have e:J1 (yE x j) j++[i]=J1 (yE x j-1) j++[j,i]:=by obtain⟨q,hq⟩:∃q,yE x j=q+1:=⟨yE x j-1,by omega⟩;rw[hq,Kw,Qf,Jg];rfl
  refine⟨zQd h hn h2,by simp only[pd1,J5,J6,Jc,K0];omega,⟨i::(nw 0 (lcj x i j)++[]),?_,?_⟩,by simp only[pd1,J5,J6,Jc,K0];omega,by simp only[pd1,Jc,J5,K0];omega,by simp only[pd1,J5,J6,Jc];omega,fun a ha=>?_,fun a ha=>?_⟩
  ·show hdS x ((J1 (yE x j) j++[i]).drop (yE x j-1))=_
   rw[e,Jx (J6)];exact zQc h hn h1
  ·show _=(J1 (yE x j) j++[i]).take (yE x j-1)++_
   rw[e,Jp (J6),Jb];rfl
  ·simp only[pd1,Jf,List.mem_singleton]at ha ⊢
   rcases ha with ha|rfl
   ·have:=fh j h2 a ha;omega
   ·omega
  ·simp only[pd1,Jf,J9]at ha ⊢
   rcases ha with ha|rfl|ha
   ·have:=Hc ha;omega
   ·omega
   ·have:=f8 i j h1 h2 a ha;omega
 ·have c1:=lpow i (by omega)
  have c2:=lcon i j h1 h2;have o:=od i (by omega);have e:J1 (yE x i) i=i::J1 (yE x i-1) i:=by obtain⟨q,hq⟩:∃q,yE x i=q+1:=⟨yE x i-1,by omega⟩;rw[hq,Ju,Qf]
  refine⟨?_,by simp only[pd4,J6,Jc];omega,⟨nw 0 (x.zJ.getD i [])++[],?_,by simp[pd4]⟩,by simp only[pd4,J6,Jc];omega,by simp only[pd4,Jc,J5,J6];omega,by simp only[pd4,Jc];omega,fun a ha=>?_,fun a ha=>?_⟩
  ·show hdS x (j::J1 (yE x i) i)=_
   rw[e];exact zQc h hn h1
  ·show hdS x (J1 (yE x i) i)=_
   have:=zQd h hn (s:=[]) (show i<x.zA.length by omega);rw[Jb]at this;exact this
  ·simp only[pd4,J9,Jf]at ha ⊢
   rcases ha with rfl|ha|ha
   ·omega
   ·have:=f8 i j h1 h2 a ha;omega
   ·have:=Hc ha;omega
  ·simp only[pd4,J9]at ha ⊢
   rcases ha with rfl|ha
   ·omega
   ·have:=fh i (by omega) a ha;omega
 ·have c1:=lpow i h1
  have o:=od i h1;refine⟨?_,by simp only[pd3,J6];omega,⟨nw 0 (x.zJ.getD i [])++[],?_,?_⟩,by simp only[pd3,J6];omega,by simp only[pd3,Jc,J5,K0];omega,by simp only[pd3,Jc];omega,fun a ha=>?_,fun a ha=>?_⟩
  ·show hdS x (J1 (yE x i+1) i)=_
   rw[Kw];exact zQd h hn h1
  ·show hdS x ((J1 (yE x i+1) i).drop 1)=_
   rw[Ju,List.drop_succ_cons,G9];have:=zQd h hn (s:=[]) h1;rw[Jb]at this;exact this
  ·show i::nw 0 (x.zJ.getD i [])=(J1 (yE x i+1) i).take 1++_
   rw[Ju,Jb];rfl
  ·simp only[pd3,Jf,List.mem_singleton]at ha ⊢
   rcases ha with ha|rfl
   ·have:=fh i h1 a ha;omega
   ·omega
  ·simp only[pd3,J9]at ha ⊢
   rcases ha with rfl|ha
   ·omega
   ·have:=fh i h1 a ha;omega
end
end Go.Pl

namespace Go.Pl
open Go Go.Ab Go.Wk Go.Pc
section
variable {x:SPr}{m:zC}{D:Nat} (h:Pres x) (hn:x.zA.length≤6) (hD:MOk x.zA.length m D)
 include h hn hD
theorem zRb{d:PD}(hd:d∈cps x){t1 t2:Trc}(hb:d.B x t1 t2)(F:Nat→Nat→Nat→Int):
  ((f_F ⟨x,m,smx m.Prime D (base x.zA.length x.zA.length) F⟩ (enW d.wd) ((0:Nat):Int) 1).bind fun r=>(zGI r.2 r.1 1).bind fun k2=>(f_F k2 (enW d.wd) (d.t:Int) (-1)).bind fun r3=>zGI r3.2 r3.1 (-1))=
   dJ ⟨x,m,smx m.Prime D (base x.zA.length x.zA.length) (zDZ m D (-1) (zDZ m D 1 F t1) t2)⟩:=by
 have ok:=zKZ h hn d hd;obtain⟨hk,pY,_⟩:=zGY h hn d hd;obtain⟨⟨u1,y1,rfl,k1⟩,⟨u2,y2,rfl,k2⟩⟩:=hb;obtain⟨q,q1,q2⟩:=ok.h2;have hl:=ok.l;have ht:=ok.ht;obtain⟨c1,n1⟩:=zQb h hn (by omega) ok.l1 k1 ok.m1;obtain⟨c2,n2⟩:=zQb h hn (by omega) ok.l2 k2 ok.m2;have up:∀{w w':List Nat}{tr:Trc},Cb x (lnB (x.zA.length-d.k) 100) w tr w'→Cb x 60000 w tr w':=fun{w w' tr} hc=>by
  have hM:=yAC (x.zA.length-d.k) (by omega)
  generalize lnB (x.zA.length-d.k) 100=M at hc hM
  induction hc with
  |refl w hl hw=>exact .refl _ (by omega) hw
  |step hl hw hs _ ih=>exact .step (by omega) hw hs ih
 rw[zGi h hn hD pY (by omega) (by omega) ok.h1 (s:=1) (by omega) (F:=F),bs];simp only[Km,Jq];rw[zFy h hn hD (by omega) (up c1) n1,bs,zGi h hn hD pY (by omega) ht q1 (s:=-1) (by omega),bs];simp only
 rw[←q2,zFy h hn hD (by omega) (up c2) n2];rfl
end
theorem zTN{p:Int}{m:zC}{D r i:Nat}(hi:i<D){t1 t2:Trc}(hp:m.Prime=p):(mkv D fun j=>zDZ m D (-1) (zDZ m D 1 (fun _ _ _=>0) t1) t2 r i j%m.Prime)=prR p D m t1 t2 (r*D+i):=by grind[sM,prR,zPY]
end Go.Pl

namespace Go.Pl
open Go Go.Ab Go.Wk Go.Pc
theorem uV{α β:Type}{f:α→List β}{c:Nat}(hf:∀a,(f a).length≤c):∀l:List α,(l.flatMap f).length≤l.length*c
 | []=>by simp
 |a::l=>by
  have:=uV hf l
  grind[K7]
theorem zGZ{x:SPr}(hn:x.zA.length≤6):(cps x).length≤300:=by
 have hu:∀i,(ups x.zA.length i).length≤6:=by grind[ups]
 have h1:=uV (c:=36) (f:=fun i=>(ups x.zA.length i).flatMap fun j=>(ups x.zA.length j).map fun k=>pd2 x i j k) (fun i=>by
  have:=uV (c:=6) (f:=fun j=>(ups x.zA.length j).map fun k=>pd2 x i j k) (by grind) (ups x.zA.length i)
  grind) (Jh x.zA.length)
 have h2:=uV (c:=6) (f:=fun i=>(ups x.zA.length i).map fun j=>pd1 x i j) (by grind) (Jh x.zA.length);have h3:=uV (c:=6) (f:=fun i=>(ups x.zA.length i).map fun j=>pd4 x i j) (by grind) (Jh x.zA.length)
 grind[cps]
section
variable {x:SPr}{m:zC}{D:Nat} (hx:sU x) (hD:MOk x.zA.length m D)
 include hx hD
theorem zMM(h0:0<x.zA.length)(hc:xK (suf x 0))(hr:zCe x m D){prs:List (Trc×Trc)}(hq:qT x (cps x) prs):∃K,f_u x m=dJ K∧
  zNr m.Prime (gl (base x.zA.length x.zA.length*D) fun k=>zAJ m.Prime D m prs k) ((prs.length*D:Nat):Int)=dJ K:=by
 have h6:=hx.n6;have hp:=hD.p.pos;have hb:=xW x.zA.length (by omega);have h3:=hD.d3;have hB:base x.zA.length x.zA.length*D≤21*3:=Ka hb.2.1 h3;have hql:prs.length≤300:=by rw[←hq.len];exact zGZ h6
 have hqD:prs.length*D≤300*3:=Ka hql h3;obtain⟨K,pk,k1,k2,k3⟩:=zG7 hx hD h0 hc hr;obtain⟨K2,pk2,_,j2,j3,j4⟩:=zGc hD.p (c:=prs.length*D) (N:=base x.zA.length x.zA.length*D) (A:=gl (base x.zA.length x.zA.length*D) fun k=>zAJ m.Prime D m prs k) (by omega) (fun k hk=>by rw[wA hk];refine⟨zI4 prs,fun j hj=>?_⟩;have tg:0<D:=hD.d1;have hi:j/D<prs.length:=(U9 tg).2 hj;have hm:j%D<D:=Gz _ tg;have e:=zI3 (F:=fun q:Trc×Trc=>prR m.Prime D m q.1 q.2 k) (fun _=>zU _ _) prs (j/D) (j%D) hi hm;rw[show j/D*D+j%D=j from by grind[Gf]]at e;rw[zAJ,e,prR,yC hm];exact⟨Kv _ (by omega),by have:=Ki (zBM m.Prime D m (prs[j/D]).1 (k/D) (k%D) (j%D)-zBM m.Prime D m (prs[j/D]).2 (k/D) (k%D) (j%D)) (show 0<m.Prime by omega);omega⟩) yN
 have key:∀y,Row m.Prime (base x.zA.length x.zA.length*D) y→(Sp m.Prime (base x.zA.length x.zA.length*D) K y↔Sp m.Prime (base x.zA.length x.zA.length*D) K2 y):=by grind[zTI]
 have e:K=K2:=Red.unique (by omega) k2 j3 ⟨fun i hi=>(key _ (k2.row i hi)).1 (qL hi),fun i hi=>(key _ (j3.row i hi)).2 (qL hi)⟩
 grind
end
end Go.Pl

namespace Go.Pl
open Go Go.Ab Go.Wk Go.Pc
section
variable {x:SPr}{m:zC}{D:Nat} (h0:x.zA.length=0) (hD:MOk x.zA.length m D)
 include h0 hD
theorem zRc{T:Mx}:zIY ⟨x,m,T⟩=dJ []:=by
 have _:=hD;unfold zIY;rw[yQ];unfold zJT
 grind
theorem zOn:∃K pk,f_u x m=dJ K∧zNr m.Prime [] 0=dJ K∧Red m.Prime 0 K pk:=by
 obtain⟨K,pk,k1,k2,k3,_⟩:=zGc hD.p (c:=0) (N:=0) (A:=[]) (by omega) (by simp) rfl;refine⟨K,pk,?_,k2,k3⟩;unfold f_u;have e1:=zI5 hD (N:=0) (by omega);have e2:=zJN hD (B:=0) (L:=[]) (by omega) (by simp) (by simp);rw[Qm]at e1;rw[zC4 h0 (by omega),bs,hD.d,show base 0 0=0 from rfl,show((0:Nat):Int)*(D:Int)=((0:Nat):Int)from by simp,zF (by omega) (by omega),bs,e1,bs,zRc h0 hD,bs,e2,bs,show((([]:Mx).length:Nat):Int)*(D:Int)=((0:Nat):Int)from by simp,zF (by omega) (by omega),bs]
 grind
end
end Go.Pl

namespace Go.Pl
open Go Go.Ab Go.Wk Go.Pc
theorem yEg{v:Int}:f_q [v] 4=dJ [v,v,v,v]:=by
 unfold f_q;have h:=zM (body:=zCD) (r:=[v,v,v,v]) (fun i=>match i with|0=>([v,0,0,0],1)|1=>([v,v,0,0],2)|_=>([v,v,v,v],4)) 2 (fun i hi=>by
  match i,hi with
  |0,_=>rfl
  |1,_=>simp[zCD,zQ,wC,rng,inR]) (by rfl)
 rw[show decide ((4:Int)<0)=dM from rfl,zL,zMt (by rfl),bs];have hl:yG (IntKind.wrap .i64 4)=dJ 4:=by rfl
 simp only[hl,bs];rw[show decide ((0:Int)> 0)=dM from rfl,zL,show decide ((4:Int)> 9223372036854775807)=dM from by decide,zL]
 grind[wC]
theorem yEh{v:Int}:f_q [v] 6=dJ [v,v,v,v,v,v]:=by
 unfold f_q;have h:=zM (body:=zCD) (r:=[v,v,v,v,v,v]) (fun i=>match i with|0=>([v,0,0,0,0,0],1)|1=>([v,v,0,0,0,0],2)|2=>([v,v,v,v,0,0],4)|_=>([v,v,v,v,v,v],6)) 3 (fun i hi=>by
  match i,hi with
  |0,_=>rfl
  |1,_=>simp[zCD,zQ,wC,rng,inR]
  |2,_=>rfl) (by rfl)
 rw[show decide ((6:Int)<0)=dM from rfl,zL,zMt (by rfl),bs];have hl:yG (IntKind.wrap .i64 6)=dJ 6:=by rfl
 simp only[hl,bs];rw[show decide ((0:Int)> 0)=dM from rfl,zL,show decide ((6:Int)> 9223372036854775807)=dM from by decide,zL];have e2:wC (J1 6 (0:Int)) 0 (([v]:List Int).take ((J1 6 (0:Int)).length-0))=[v,0,0,0,0,0]:=by rfl
 grind
theorem yEi{v:Int}:f_q [v] 8=dJ [v,v,v,v,v,v,v,v]:=by
 unfold f_q;have h:=zM (body:=zCD) (r:=[v,v,v,v,v,v,v,v]) (fun i=>match i with|0=>([v,0,0,0,0,0,0,0],1)|1=>([v,v,0,0,0,0,0,0],2)|2=>([v,v,v,v,0,0,0,0],4)|_=>([v,v,v,v,v,v,v,v],8)) 3 (fun i hi=>by
  match i,hi with
  |0,_=>rfl
  |1,_=>simp[zCD,zQ,wC,rng,inR]
  |2,_=>simp[zCD,zQ,wC,rng,inR]) (by rfl)
 rw[show decide ((8:Int)<0)=dM from rfl,zL,zMt (by rfl),bs];have hl:yG (IntKind.wrap .i64 8)=dJ 8:=by rfl
 simp only[hl,bs];rw[show decide ((0:Int)> 0)=dM from rfl,zL,show decide ((8:Int)> 9223372036854775807)=dM from by decide,zL];have e2:wC (J1 8 (0:Int)) 0 (([v]:List Int).take ((J1 8 (0:Int)).length-0))=[v,0,0,0,0,0,0,0]:=by rfl
 grind
theorem zBC{β:Type}{body:List β×Int→Option ((List β×Int)⊕List β)}(s n B:Nat)(F:Nat→List β)(a0:List β)(hB:a0.length+((Kt s n).flatMap F).length≤B)
  (h:∀i acc,s≤i→i<s+n→acc.length+(F i).length≤B→body (acc,((i+1:Nat):Int))=dJ (.inl (acc++F i,((i+1+1:Nat):Int))))(he:∀acc,body (acc,((s+n+1:Nat):Int))=dJ (.inr acc)):
  zH body (a0,((s+1:Nat):Int))=dJ (a0++(Kt s n).flatMap F):=by
 have:=zM (body:=body) (r:=a0++(Kt s n).flatMap F) (fun i=>(a0++(Kt s i).flatMap F,((s+i+1:Nat):Int))) n (fun i hi=>by
  have e:(Kt s (i+1)).flatMap F=(Kt s i).flatMap F++F (s+i):=by rw[List.range'_1_concat,Jb1,Lq,List.flatMap_nil,Jb]
  have c0:((Kt s (i+1)).flatMap F).length≤((Kt s n).flatMap F).length:=by
   obtain⟨k,rfl⟩:∃k,n=i+1+k:=⟨n-(i+1),by omega⟩;have e3:Kt s (i+1+k)=Kt s (i+1)++Kt (s+(i+1)) k:=List.range'_append_1.symm
   grind
  grind) (he _)
 grind
def CPd(d:PD):zR:=⟨enW d.wd,enW d.w1,enW d.w2⟩
section
variable {x:SPr} (h:Pres x) (hn:x.zA.length≤6)
 include h
theorem zMN{v:Int}{a:Nat}(ha:a<x.zA.length):zO7 v ((yE x a:Nat):Int)=dJ (J1 (yE x a) v):=by
 have hp:=h.os.2 a ha;have e:=(jU h ha).1;have e2:at0 x.zA a=((yE x a:Nat):Int):=by grind[yF]
 grind[zO7,zDt]
theorem zRd{v:Int}{a:Nat}(ha:a<x.zA.length):zO7 v (((yE x a+1:Nat)):Int)=dJ (J1 (yE x a+1) v):=by
 have hp:=h.os.2 a ha;have e:=(jU h ha).1;have e2:at0 x.zA a=((yE x a:Nat):Int):=by grind[yF]
 rw[e2]at hp;have:yE x a=2∨yE x a=3∨yE x a=5∨yE x a=7:=by rcases hp with g|g|g|g<;>omega
 unfold zO7;rcases this with g|g|g|g<;>rw[g]
 ·exact(congrArg (fun o=>Ga o _) (zDt (v:=v) (o:=3) (.inr (.inl rfl)))).trans rfl
 ·exact(congrArg (fun o=>Ga o _) (yEg (v:=v))).trans rfl
 ·exact(congrArg (fun o=>Ga o _) (yEh (v:=v))).trans rfl
 ·exact(congrArg (fun o=>Ga o _) (yEi (v:=v))).trans rfl
 include hn
theorem zFz{d:PD}(hd:d∈cps x){out:List zR}(ho:out.length≤100000):zRA (enW d.wd) (d.t:Int) out x=dJ (out++[CPd d]):=by have ok:=zKZ h hn d hd;obtain⟨_,pY,_⟩:=zGY h hn d hd;obtain⟨q,q1,q2⟩:=ok.h2;have hl:=ok.l;have ht:=ok.ht;unfold zRA;rw[show(0:Int)=((0:Nat):Int)from rfl,zD0 h hn pY (by omega) (by omega) ok.h1,bs,zD0 h hn pY (by omega) ht q1,bs,zP (by grind),bs];simp only[Km,Jq];rw[←q2];rfl
end
end Go.Pl

namespace Go.Pl
open Go Go.Ab Go.Wk Go.Pc
theorem zCB{α β:Type}{f:α→β}:∀l:List α,(l.flatMap fun a=>[f a])=l.map f
 | []=>rfl
 |a::l=>by rw[Lq,zCB l];rfl
theorem zBa{N i:Nat}(hN:N≤6):(ups N i).length≤6:=by grind[ups]
section
variable {x:SPr} (h:Pres x) (hn:x.zA.length≤6)
 include h hn
theorem yCU{i j:Nat}(eg:i<j)(hj:j<x.zA.length){o1 o2 out:List zR}(ho:out.length≤3000):
  zH (zVf x (o1,((i+1:Nat):Int)) (o2,((j+1:Nat):Int))) (out,((j+1+1:Nat):Int))=dJ (out++(ups x.zA.length j).map fun k=>CPd (pd2 x i j k)):=by
 have hm:=((zBB (x:=x) (φ:=fun d=>d∈cps x)).1 fun d hd=>hd).1;have hu:=zBa (i:=j) hn;have:=zBC (body:=zVf x (o1,((i+1:Nat):Int)) (o2,((j+1:Nat):Int))) (j+1) (x.zA.length-(j+1)) 4000 (fun k=>[CPd (pd2 x i j k)]) out (by rw[zCB,Js];grind) (fun k acc hk1 f9 hb=>by
  unfold zVf;simp only
  have e:([((k+1:Nat):Int),((j+1:Nat):Int),((i+1:Nat):Int)])=enW (pd2 x i j k).wd:=by rfl
  rw[dP (by omega),zK,e,show(1:Int)=((pd2 x i j k).t:Int)from rfl,zFz h hn (by grind) (by omega),bs,show((k+1:Nat):Int)+((pd2 x i j k).t:Int)=((k+1+1:Nat):Int)from rfl,zF (by omega) (by omega),bs]) (fun acc=>by
  unfold zVf
  grind)
 rw[zCB]at this;exact this
theorem yCV{i:Nat}(hi:i<x.zA.length){o1 out:List zR}(ho:out.length≤2000):
  zH (zVg x (o1,((i+1:Nat):Int))) (out,((i+1+1:Nat):Int))=dJ (out++(ups x.zA.length i).flatMap fun j=>(ups x.zA.length j).map fun k=>CPd (pd2 x i j k)):=by
 have hu:=zBa (i:=i) hn;have hf:=uV (c:=6) (f:=fun j=>(ups x.zA.length j).map fun k=>CPd (pd2 x i j k)) (by grind[zBa]) (ups x.zA.length i);have:=zBC (body:=zVg x (o1,((i+1:Nat):Int))) (i+1) (x.zA.length-(i+1)) 3000 (fun j=>(ups x.zA.length j).map fun k=>CPd (pd2 x i j k)) out (by grind[ups]) (fun j acc hj1 aa hb=>by
  unfold zVg;simp only
  rw[dP (by omega),zK,show((j+1:Nat):Int)+1=((j+1+1:Nat):Int)from by omega,zF (by omega) (by omega),bs,yCU h hn (by omega) (by omega) (by omega),bs,bs]) (fun acc=>by
  unfold zVg
  grind)
 exact this
theorem yCW:zH (zVh x) ([],1)=dJ ((Jh x.zA.length).flatMap fun i=>(ups x.zA.length i).flatMap fun j=>(ups x.zA.length j).map fun k=>CPd (pd2 x i j k)):=by
 have hf:=uV (c:=36) (f:=fun i=>(ups x.zA.length i).flatMap fun j=>(ups x.zA.length j).map fun k=>CPd (pd2 x i j k)) (fun i=>by
  have:=uV (c:=6) (f:=fun j=>(ups x.zA.length j).map fun k=>CPd (pd2 x i j k)) (by grind[zBa]) (ups x.zA.length i)
  grind[zBa]) (Jh x.zA.length)
 rw[Hi]at hf;have:=zBC (body:=zVh x) 0 x.zA.length 2000 (fun i=>(ups x.zA.length i).flatMap fun j=>(ups x.zA.length j).map fun k=>CPd (pd2 x i j k)) [] (by grind[L7]) (fun i acc bS fx hb=>by
  unfold zVh;simp only
  rw[dP (by omega),zK,show((i+1:Nat):Int)+1=((i+1+1:Nat):Int)from by omega,zF (by omega) (by omega),bs,yCV h hn (by omega) (by omega),bs,bs]) (fun acc=>by
  unfold zVh
  grind)
 grind[L7]
theorem yCX{i:Nat}(hi:i<x.zA.length){o1 out:List zR}(ho:out.length≤3000):
  zH (zVi x (o1,((i+1:Nat):Int))) (out,((i+1+1:Nat):Int))=dJ (out++(ups x.zA.length i).map fun j=>CPd (pd1 x i j)):=by
 have hm:=((zBB (x:=x) (φ:=fun d=>d∈cps x)).1 fun d hd=>hd).2.1;have hu:=zBa (i:=i) hn;have:=zBC (body:=zVi x (o1,((i+1:Nat):Int))) (i+1) (x.zA.length-(i+1)) 4000 (fun j=>[CPd (pd1 x i j)]) out (by rw[zCB,Js];rw[ups]at hu;omega) (fun j acc hj1 aa hb=>by
  have ho:=jU h (show j<x.zA.length by omega);unfold zVi;simp only
  have e:J1 (yE x j) ((j+1:Nat):Int)++[((i+1:Nat):Int)]=enW (pd1 x i j).wd:=by show _=enW (J1 (yE x j) j++[i]);simp only[enW,Ls,List.map_replicate,Jt,Gp];rfl
  have et:((yE x j:Nat):Int)-1=((pd1 x i j).t:Int):=by show _=((yE x j-1:Nat):Int);omega
  rw[dP (by omega),zK,show((j+1:Nat):Int)-1=(j:Int)from by omega,zF (n:=(j:Int)) (by omega) (by omega),bs,ho.1,bs,zMN h (by omega),bs,zP (by simp only[J6,Jc,K0];omega),bs,bs,ho.1,bs,zF (n:=((yE x j:Nat):Int)-1) (by omega) (by omega),bs,e,et,zFz h hn (hm i j (by omega) (by omega)) (by simp only[Jc,K0]at hb;omega),bs,show((j+1:Nat):Int)+1=((j+1+1:Nat):Int)from by omega,zF (by omega) (by omega),bs]) (fun acc=>by
  unfold zVi;simp only
  rw[dO (by omega),zL])
 rw[zCB]at this;exact this
theorem yCY{out:List zR}(ho:out.length≤1000):zH (zVj x) (out,1)=dJ (out++(Jh x.zA.length).flatMap fun i=>(ups x.zA.length i).map fun j=>CPd (pd1 x i j)):=by
 have hf:=uV (c:=6) (f:=fun i=>(ups x.zA.length i).map fun j=>CPd (pd1 x i j)) (by grind[zBa]) (Jh x.zA.length);rw[Hi]at hf;have:=zBC (body:=zVj x) 0 x.zA.length 2000 (fun i=>(ups x.zA.length i).map fun j=>CPd (pd1 x i j)) out (by grind[L7]) (fun i acc bS fx hb=>by
  unfold zVj;simp only
  rw[dP (by omega),zK,show((i+1:Nat):Int)+1=((i+1+1:Nat):Int)from by omega,zF (by omega) (by omega),bs,yCX h hn (by omega) (by omega),bs,bs]) (fun acc=>by
  unfold zVj
  grind)
 grind[L7]
theorem yCZ{i:Nat}(hi:i<x.zA.length){o1 out:List zR}(ho:out.length≤3000):
  zH (zVk x (o1,((i+1:Nat):Int))) (out,((i+1+1:Nat):Int))=dJ (out++(ups x.zA.length i).map fun j=>CPd (pd4 x i j)):=by
 have hm:=((zBB (x:=x) (φ:=fun d=>d∈cps x)).1 fun d hd=>hd).2.2.1;have hu:=zBa (i:=i) hn;have ho:=jU h hi;have:=zBC (body:=zVk x (o1,((i+1:Nat):Int))) (i+1) (x.zA.length-(i+1)) 4000 (fun j=>[CPd (pd4 x i j)]) out (by rw[zCB,Js];grind) (fun j acc hj1 aa hb=>by
  unfold zVk;simp only
  have e:[((j+1:Nat):Int)]++J1 (yE x i) ((i+1:Nat):Int)=enW (pd4 x i j).wd:=by show _=enW (j::J1 (yE x i) i);simp
  rw[dP (by omega),zK,show((i+1:Nat):Int)-1=(i:Int)from by omega,zF (n:=(i:Int)) (by omega) (by omega),bs,ho.1,bs,zMN h hi,bs,zP (by simp only[J6,Jc,K0];omega),bs,e,show(1:Int)=((pd4 x i j).t:Int)from rfl,zFz h hn (hm i j (by omega) (by omega)) (by simp only[Jc,K0]at hb;omega),bs,show((j+1:Nat):Int)+((pd4 x i j).t:Int)=((j+1+1:Nat):Int)from rfl,zF (by omega) (by omega),bs]) (fun acc=>by
  unfold zVk
  grind)
 rw[zCB]at this;exact this
theorem yDa{out:List zR}(ho:out.length≤1000):zH (zVl x) (out,1)=dJ (out++(Jh x.zA.length).flatMap fun i=>(ups x.zA.length i).map fun j=>CPd (pd4 x i j)):=by
 have hf:=uV (c:=6) (f:=fun i=>(ups x.zA.length i).map fun j=>CPd (pd4 x i j)) (by grind[zBa]) (Jh x.zA.length);rw[Hi]at hf;have:=zBC (body:=zVl x) 0 x.zA.length 2000 (fun i=>(ups x.zA.length i).map fun j=>CPd (pd4 x i j)) out (by grind[L7]) (fun i acc bS fx hb=>by
  unfold zVl;simp only
  rw[dP (by omega),zK,show((i+1:Nat):Int)+1=((i+1+1:Nat):Int)from by omega,zF (by omega) (by omega),bs,yCZ h hn (by omega) (by omega),bs,bs]) (fun acc=>by
  unfold zVl
  grind)
 grind[L7]
theorem yDb{out:List zR}(ho:out.length≤1000):zH (zVm x) (out,1)=dJ (out++(Jh x.zA.length).map fun i=>CPd (pd3 x i)):=by
 have hm:=((zBB (x:=x) (φ:=fun d=>d∈cps x)).1 fun d hd=>hd).2.2.2;have:=zBC (body:=zVm x) 0 x.zA.length 2000 (fun i=>[CPd (pd3 x i)]) out (by rw[zCB,Js,List.length_range'];omega) (fun i acc bS fx hb=>by
  have ho:=jU h (show i<x.zA.length by omega);unfold zVm;simp only
  have e:J1 (yE x i+1) ((i+1:Nat):Int)=enW (pd3 x i).wd:=by show _=enW (J1 (yE x i+1) i);simp
  rw[dP (by omega),zK,show((i+1:Nat):Int)-1=(i:Int)from by omega,zF (n:=(i:Int)) (by omega) (by omega),bs,ho.1,bs,show((yE x i:Nat):Int)+1=((yE x i+1:Nat):Int)from by omega,zF (n:=((yE x i+1:Nat):Int)) (by omega) (by omega),bs,zRd h (by omega),bs,e,show(1:Int)=((pd3 x i).t:Int)from rfl,zFz h hn (hm i (by omega)) (by simp only[Jc,K0]at hb;omega),bs,show((i+1:Nat):Int)+((pd3 x i).t:Int)=((i+1+1:Nat):Int)from rfl,zF (by omega) (by omega),bs]) (fun acc=>by
  unfold zVm
  grind)
 grind[zCB,L7]
theorem zEC:f_h x=dJ ((cps x).map CPd):=by
 have hl:=zGZ (x:=x) hn;have em:(cps x).map CPd=((Jh x.zA.length).flatMap fun i=>(ups x.zA.length i).flatMap fun j=>(ups x.zA.length j).map fun k=>CPd (pd2 x i j k))++(((Jh x.zA.length).flatMap fun i=>(ups x.zA.length i).map fun j=>CPd (pd1 x i j))++(((Jh x.zA.length).flatMap fun i=>(ups x.zA.length i).map fun j=>CPd (pd4 x i j))++(Jh x.zA.length).map fun i=>CPd (pd3 x i))):=by simp only[cps,Ls,List.map_flatMap,Uu];rfl
 have pP:((cps x).map CPd).length≤300:=by grind
 rw[em]at pP;simp only[J5]at pP;unfold f_h;rw[yCW h hn,bs,yCY h hn (by omega),bs,yDa h hn (by grind),bs,yDb h hn (by simp only[J5];omega),bs,em];simp
end
end Go.Pl

namespace Go.Pl
open Go Go.Ab Go.Wk Go.Pc
theorem yEj:yDu=zO8:=rfl
theorem yEk:yDv=zO8:=rfl
theorem qT.get{x:SPr}:{ds:List PD}→{qs:List (Trc×Trc)}→qT x ds qs→ ∀k(h1:k<ds.length)(h2:k<qs.length),(ds[k]).B x (qs[k]).1 (qs[k]).2
 | [],[],_,k,h1,_=>by simp at h1
 |d::ds,q::qs,h,0,_,_=>h.1
 |d::ds,q::qs,h,k+1,h1,h2=>by simpa using qT.get h.2 k (by simpa using h1) (by simpa using h2)
 | [],_::_,h,_,_,_=>by grind
 |_::_,[],h,_,_,_=>by grind
theorem zRe{p:Int}{D:Nat}{m:zC}{prs:List (Trc×Trc)}{k q:Nat}(hk:k<prs.length):zAJ p D m (prs.take (k+1)) q=zAJ p D m (prs.take k) q++prR p D m (prs[k]).1 (prs[k]).2 q:=by grind[zAJ,Kc]
section
variable {x:SPr}{m:zC}{D:Nat} (hD:MOk x.zA.length m D)
 include hD
theorem yDc:zH (zVo ⟨m.Prime,(D:Int),idM D⟩) (idM D,0)=dJ (gl D fun _=>mkv D fun _=>0):=by
 have h3:=hD.d3;have:=zM (body:=zVo ⟨m.Prime,(D:Int),idM D⟩) (r:=gl D fun _=>mkv D fun _=>0) (fun i=>(gl D fun a=>mkv D fun j=>if j=a then(if a<i then 0 else 1)else 0,(i:Int))) D (fun i hi=>by
  unfold zVo;simp only
  rw[sV,yI hi,zK,zAC hi,bs,yF (by grind[zU]),bs,zF (by omega) (by omega),bs];simp only[J8];rw[zE5,qX]
  grind) (by
  unfold zVo;simp only
  rw[sV,vR,zL]
  simp_all)
 have e:(gl D fun a=>mkv D fun j=>if j=a then(if a<0 then(0:Int)else 1)else 0)=idM D:=rfl
 grind
theorem yDd{N:Nat}(hN:N≤100):zH (zVp m (N:Int)) ([],0)=dJ (smx m.Prime D N fun _ _ _=>0):=by
 refine(tI (body:=zVp m (N:Int)) N (fun _=>zS.mk m.Prime (D:Int) (gl D fun _=>mkv D fun _=>0)) (fun i acc hi ha=>?_) (fun acc=>?_)).trans ?_
 ·unfold zVp
  simp only
  rw[yI hi,zK,hD.d,zEk hD.p (by have:=hD.d3;omega),bs]
  grind[yDc,zP,zF]
 ·unfold zVp
  simp
 ·rfl
section
variable {N:Nat}{G:Nat→Nat→Nat→Int}{R:Nat→List Int}
abbrev zF0(p:Int)(D:Nat)(G:Nat→Nat→Nat→Int)(R:Nat→List Int)(k:Nat):List Int:=R k++mkv D fun j=>G (k/D) (k%D) j%p
theorem yDe(hN:N≤100)(hR:∀k,(R k).length≤100000){r:Nat}(hr:r<N){z:Mx}:
  zH (zVq m (z,(r:Int)) ⟨m.Prime,(D:Int),gl D fun i=>mkv D fun j=>G r i j%m.Prime⟩) (gl (N*D) fun k=>if k<r*D then zF0 m.Prime D G R k else R k,0)=dJ (gl (N*D) fun k=>if k<(r+1)*D then zF0 m.Prime D G R k else R k):=by
 have h3:=hD.d3;have h1:=hD.d1;have hb:(r+1)*D≤N*D:=Jw D (by omega);have pc:N*D≤100*3:=Ka hN h3;rw[K7]at hb;have:=zM (body:=zVq m (z,(r:Int)) ⟨m.Prime,(D:Int),gl D fun i=>mkv D fun j=>G r i j%m.Prime⟩) (r:=gl (N*D) fun k=>if k<(r+1)*D then zF0 m.Prime D G R k else R k) (fun i=>(gl (N*D) fun k=>if k<r*D+i then zF0 m.Prime D G R k else R k,(i:Int))) D (fun i hi=>by
  obtain⟨e1,e2⟩:=sM (q:=r) hi;unfold zVq;simp only
  rw[yN,yI hi,zK,zAC hi,bs,hD.d,←Um,zF (by omega) (by omega),bs,←H1,zF (by omega) (by omega),bs,zAC (by omega),bs,if_neg (by omega),zP (by rw[zU];have:=hR (r*D+i);omega),bs,zF (by omega) (by omega),bs];simp only[J8];rw[zE5]
  grind) (by
  unfold zVq
  grind)
 exact this
theorem yDf(hN:N≤100)(hR:∀k,(R k).length≤100000):zH (zO8 m ⟨x,m,smx m.Prime D N G⟩) (gl (N*D) R,0)=dJ (gl (N*D) (zF0 m.Prime D G R)):=by
 have gf:(smx m.Prime D N G).length=N:=yN;have:=zM (body:=zO8 m ⟨x,m,smx m.Prime D N G⟩) (r:=gl (N*D) (zF0 m.Prime D G R)) (fun i=>(gl (N*D) fun k=>if k<i*D then zF0 m.Prime D G R k else R k,(i:Int))) N (fun i hi=>by
  unfold zO8;simp only
  rw[gf,yI hi,zK,smx,zAC hi,bs,yDe hD hN hR hi,bs,zF (by omega) (by omega),bs];rfl) (by
  unfold zO8
  simp_all)
 grind
end
end
theorem yDg{x:SPr}(h:Pres x):∀d∈cps x,2≤d.wd.length∧((d.wd.getD 0 0=d.wd.getD 1 0∧d.wd.getD (d.wd.length-1) 0≠d.wd.getD 0 0∧d.t=d.wd.length-2)∨(d.wd.getD 0 0=d.wd.getD 1 0∧d.wd.getD (d.wd.length-1) 0=d.wd.getD 0 0∧d.t=1)∨(d.wd.getD 0 0≠d.wd.getD 1 0∧d.t=1)):=by
 refine zBB.2 ⟨fun i j k h1 h2 h3=>?_,fun i j h1 h2=>?_,fun i j h1 h2=>?_,fun i h1=>?_⟩
 ·refine⟨by simp[pd2],.inr (.inr ⟨?_,rfl⟩)⟩
  show k≠j;omega
 ·have o:=(jU h h2).2
  obtain⟨q,hq⟩:∃q,yE x j=q+2:=⟨yE x j-2,by omega⟩;simp only[pd1,hq,J5,J6,Jc,K0];refine⟨by omega,.inl ⟨rfl,?_,by omega⟩⟩;have:(J1 (q+2) j++[i]).getD (q+2+(0+1)-1) 0=i:=by simp
  grind
 ·have o:=(jU h (show i<x.zA.length by omega)).2
  obtain⟨q,hq⟩:∃q,yE x i=q+2:=⟨yE x i-2,by omega⟩;simp only[pd4,hq,J6,Jc]
  grind
 ·have o:=(jU h h1).2
  obtain⟨q,hq⟩:∃q,yE x i=q+2:=⟨yE x i-2,by omega⟩;simp only[pd3,hq,J6];simp
section
variable {x:SPr}{m:zC}{D:Nat} (h:Pres x) (hn:x.zA.length≤6) (hD:MOk x.zA.length m D)
 include h hn hD
theorem zWV{prs:List (Trc×Trc)}(hq:qT x (cps x) prs){k:Nat}(hk:k<(cps x).length){N:Nat}(hN:N=base x.zA.length x.zA.length):
  zVr x m (N:Int) ((cps x).map CPd) (gl (N*D) (fun q=>zAJ m.Prime D m (prs.take k) q),(k:Int))=dJ (.inl (gl (N*D) (fun q=>zAJ m.Prime D m (prs.take (k+1)) q),((k+1:Nat):Int))):=by
 subst hN;have hl:=hq.len;have hd:=Ke hk;have f9:k<prs.length:=by omega
 have eC:=xW x.zA.length (by omega);have h3:=hD.d3;have h1:=hD.d1;have gA:=zGZ (x:=x) hn;have fE:=zRb h hn hD hd (hq.get k hk f9) (fun _ _ _=>0);obtain⟨w2,ht⟩:=yDg h _ hd;have hlw:=(zKZ h hn _ hd).l;have fe:=(zKZ h hn _ hd).ht;have hR:∀q,(zAJ m.Prime D m (prs.take k) q).length≤100000:=fun q=>by rw[zI4,L4];have:min k prs.length*D≤300*3:=Ka (by omega) h3;omega
 have eF:=yDf (x:=x) (G:=zDZ m D (-1) (zDZ m D 1 (fun _ _ _=>0) (prs[k]).1) (prs[k]).2) hD (show base x.zA.length x.zA.length≤100 by omega) hR;have erow:gl (base x.zA.length x.zA.length*D) (zF0 m.Prime D (zDZ m D (-1) (zDZ m D 1 (fun _ _ _=>0) (prs[k]).1) (prs[k]).2) (fun q=>zAJ m.Prime D m (prs.take k) q))=gl (base x.zA.length x.zA.length*D) fun q=>zAJ m.Prime D m (prs.take (k+1)) q:=kK fun q _=>by have hm:q%D<D:=Gz _ (by omega);rw[zRe f9,zF0,zTN hm rfl,show q/D*D+q%D=q from by grind[Gf]]
 rw[erow]at eF;have hix:ixO ((cps x).map CPd) (k:Int)=dJ (CPd (cps x)[k]):=by grind[zAy]
 generalize (cps x)[k]=d at*
 have key:∀K:wI→Option ((Mx×Int)⊕Mx),((f_F ⟨x,m,smx m.Prime D (base x.zA.length x.zA.length) fun _ _ _=>0⟩ (enW d.wd) 0 1).bind fun r=>(zGI r.2 r.1 1).bind fun k2=>(f_F k2 (enW d.wd) (d.t:Int) (-1)).bind fun r3=>(zGI r3.2 r3.1 (-1)).bind K)=K ⟨x,m,smx m.Prime D (base x.zA.length x.zA.length) (zDZ m D (-1) (zDZ m D 1 (fun _ _ _=>0) (prs[k]).1) (prs[k]).2)⟩:=fun K=>by have e:=congrArg (fun o=>Ga o K) fE;simp only[Option.bind_assoc,bs]at e;exact e
 unfold zVr;simp only
 rw[Js,yI hk,zK,hix,bs,yDd hD (by omega),bs];simp only[CPd];have i0:=sD (w:=d.wd) (t:=0) (by omega);have i1:=sD (w:=d.wd) (t:=1) (by omega);have il:=sD (w:=d.wd) (t:=d.wd.length-1) (by omega);rw[show((0:Nat):Int)=0 from rfl]at i0;rw[show((1:Nat):Int)=1 from rfl]at i1;rw[i0,bs,i1,bs,Js];rcases ht with⟨t1,t2,t3⟩|⟨t1,t2,t3⟩|⟨t1,t3⟩
 ·rw[show((((d.wd.getD 0 0:Nat):Int)+1)==(((d.wd.getD 1 0:Nat):Int)+1))=dL from by grind,zK,zF (by omega) (by omega),bs,show(d.wd.length:Int)-1=((d.wd.length-1:Nat):Int)from by omega,il,bs,show((((d.wd.getD (d.wd.length-1) 0:Nat):Int)+1) != (((d.wd.getD 0 0:Nat):Int)+1))=dL from by rw[bne_iff_ne];omega,zK,zF (by omega) (by omega),bs,show(d.wd.length:Int)-2=(d.t:Int)from by omega,key,eF,bs,zF (by omega) (by omega),bs]
  rfl
 ·rw[show((((d.wd.getD 0 0:Nat):Int)+1)==(((d.wd.getD 1 0:Nat):Int)+1))=dL from by grind,zK,zF (by omega) (by omega),bs,show(d.wd.length:Int)-1=((d.wd.length-1:Nat):Int)from by omega,il,bs,show((((d.wd.getD (d.wd.length-1) 0:Nat):Int)+1) != (((d.wd.getD 0 0:Nat):Int)+1))=dM from by rw[t2];exact bne_self_eq_false _,zL]
  rw[t3]at key;rw[show(1:Int)=((1:Nat):Int)from rfl]at*
  rw[key,yEj,eF,bs,zF (by omega) (by omega),bs];rfl
 ·rw[show((((d.wd.getD 0 0:Nat):Int)+1)==(((d.wd.getD 1 0:Nat):Int)+1))=dM from by grind,zL]
  rw[t3]at key;rw[show(1:Int)=((1:Nat):Int)from rfl]at*
  rw[key,yEk,eF,bs,zF (by omega) (by omega),bs];rfl
end
end Go.Pl

namespace Go.Pl
open Go Go.Ab Go.Wk Go.Pc
section
variable {x:SPr}{m:zC}{D:Nat} (hx:sU x) (hD:MOk x.zA.length m D)
 include hx hD
theorem zIS(hc:xK (suf x 0))(hr:zCe x m D):∃K pk,f_u x m=dJ K∧f_k x m=dJ K∧Red m.Prime (base x.zA.length x.zA.length*D) K pk:=by
 have h6:=hx.n6;have h3:=hD.d3;have h1:=hD.d1;have eC:=xW x.zA.length (by omega);have hbD:base x.zA.length x.zA.length*D≤21*3:=Ka eC.2.1 h3;obtain⟨prs,hq⟩:=yAB hx hD;have hl:=hq.len;have gA:=zGZ (x:=x) h6;have fp:=zM (body:=zVr x m ((base x.zA.length x.zA.length:Nat):Int) ((cps x).map CPd)) (r:=gl (base x.zA.length x.zA.length*D) (fun q=>zAJ m.Prime D m prs q)) (fun k=>(gl (base x.zA.length x.zA.length*D) (fun q=>zAJ m.Prime D m (prs.take k) q),(k:Int))) (cps x).length (fun k hk=>zWV hx.toPres h6 hD hq hk rfl) (by
  unfold zVr
  grind)
 have e0:gl (base x.zA.length x.zA.length*D) (fun q=>zAJ m.Prime D m (prs.take 0) q)=J1 (base x.zA.length x.zA.length*D) ([]:List Int):=by simp only[Km,zAJ,Gp,Ue];rw[List.eq_replicate_iff];simp
 rw[e0]at fp;have pf:f_k x m=cond (decide (((gl (base x.zA.length x.zA.length*D) (fun q=>zAJ m.Prime D m prs q)).length:Int)> 0)) (
   (ixO (gl (base x.zA.length x.zA.length*D) (fun q=>zAJ m.Prime D m prs q)) 0).bind fun v32=>(zNr m.Prime (gl (base x.zA.length x.zA.length*D) (fun q=>zAJ m.Prime D m prs q)) (v32.length:Int)).bind fun r33=>dJ r33) (
   (zNr m.Prime (gl (base x.zA.length x.zA.length*D) (fun q=>zAJ m.Prime D m prs q)) 0).bind fun r34=>dJ r34):=by
  unfold f_k;rw[zIj rfl h6,bs,hD.d,←Um,zF (by omega) (by omega),bs,yK (by omega),bs,zEC hx.toPres h6,bs]
  grind
 rcases Jaz x.zA.length with h0|h0
 ·obtain⟨K,pk,k1,k2,k3⟩:=zOn h0 hD
  grind
 ·obtain⟨K,pk,k1,k2,_⟩:=zG7 hx hD h0 hc hr
  obtain⟨K2,j1,j2⟩:=zMM hx hD h0 hc hr hq;rw[k1]at j1;cases j1;refine⟨K,pk,k1,?_,k2⟩;have cz:0<base x.zA.length x.zA.length*D:=Nat.mul_pos (by omega) h1;rw[pf,yN,dP (by omega),zK,show(0:Int)=((0:Nat):Int)from rfl,zAC cz,bs,zI4,j2,bs]
end
end Go.Pl

namespace Go.Pl
open Go Go.Ab Go.Wk Go.Pc
end Go.Pl

namespace Go.Pl
open Go Go.Ab Go.Wk Go.Pc
end Go.Pl

namespace Go.Pl
open Go Go.Ab Go.Wk Go.Pc
end Go.Pl

namespace Go.Pl
open Go Go.Ab Go.Wk Go.Pc
end Go.Pl

namespace Go.Pl
open Go Go.Ab Go.Wk Go.Pc
end Go.Pl

namespace Go.Pl
open Go Go.Ab Go.Wk Go.Pc
end Go.Pl

namespace Go.Pl
open Go Go.Ab Go.Wk Go.Pc
end Go.Pl

namespace Go.Pl
open Go Go.Ab Go.Wk Go.Pc
end Go.Pl

namespace Go.Pl
open Go Go.Ab Go.Wk Go.Pc
end Go.Pl

namespace Go.Pl
open Go Go.Ab Go.Wk Go.Pc
end Go.Pl

namespace Go.Pl
open Go Go.Ab Go.Wk Go.Pc
end Go.Pl

namespace Go.Pl
open Go Go.Ab Go.Wk Go.Pc
end Go.Pl

namespace Go.Pl
open Go Go.Ab Go.Wk Go.Pc
end Go.Pl

namespace Go.Pl
open Go Go.Ab Go.Wk Go.Pc
end Go.Pl

namespace Go.Pl
open Go Go.Ab Go.Wk Go.Pc
end Go.Pl

namespace Go.Pl
open Go Go.Ab Go.Wk Go.Pc
end Go.Pl

namespace Go.Pl
open Go Go.Ab Go.Wk Go.Pc
end Go.Pl

namespace Go.Pl
open Go Go.Ab Go.Wk Go.Pc
end Go.Pl

namespace Go.Pl
open Go Go.Ab Go.Wk Go.Pc
end Go.Pl

namespace Go.Pl
open Go Go.Ab Go.Wk Go.Pc
end Go.Pl

namespace Go.Pl
open Go Go.Ab Go.Wk Go.Pc
end Go.Pl

namespace Go.Pl
open Go Go.Ab Go.Wk Go.Pc
end Go.Pl

namespace Go.Pl
open Go Go.Ab Go.Wk Go.Pc
end Go.Pl

namespace Go.Pl
open Go Go.Ab Go.Wk Go.Pc
end Go.Pl

namespace Go.Pl
open Go Go.Ab Go.Wk Go.Pc
end Go.Pl

namespace Go.Pl
open Go Go.Ab Go.Wk Go.Pc
end Go.Pl

namespace Go.Pl
open Go Go.Ab Go.Wk Go.Pc
end Go.Pl

namespace Go.Pl
open Go Go.Ab Go.Wk Go.Pc
end Go.Pl

namespace Go.Pl
open Go Go.Ab Go.Wk Go.Pc
end Go.Pl

namespace Go.Pl
open Go Go.Ab Go.Wk Go.Pc
end Go.Pl

namespace Go.Pl
open Go Go.Ab Go.Wk Go.Pc
end Go.Pl

namespace Go.Pl
open Go Go.Ab Go.Wk Go.Pc
end Go.Pl

namespace Go.Pl
open Go Go.Ab Go.Wk Go.Pc
variable {x:SPr}{w:Pres x∧xK (suf x 0)}
end Go.Pl

namespace Go.Pl
open Go Go.Ab Go.Wk Go.Pc
variable {x:SPr}{w:Pres x∧xK (suf x 0)}
end Go.Pl

namespace Go.Pl
open Go Go.Ab Go.Wk Go.Pc
end Go.Pl

namespace Go.Pl
open Go Go.Ab Go.Wk Go.Pc
end Go.Pl

namespace Go.Pl
open Go Go.Ab Go.Wk Go.Pc
end Go.Pl

namespace Go.Pl
open Go Go.Ab Go.Wk Go.Pc
end Go.Pl

namespace Go.Pl
open Go Go.Ab Go.Wk Go.Pc
end Go.Pl

namespace Go.Pl
open Go Go.Ab Go.Wk Go.Pc
end Go.Pl

namespace Go.Pl
open Go Go.Ab Go.Wk Go.Pc
end Go.Pl

namespace Go.Pl
open Go Go.Ab Go.Wk Go.Pc
end Go.Pl

namespace Go.Pl
open Go Go.Ab
def Le{α:Type}(a b:Option α):Prop:=∀r,a=dJ r→b=dJ r
class LeC {α:Type} (a b:Option α):Prop where
 h:Le a b
theorem Le.rf{α:Type}{a:Option α}:Le a a:=fun _ h=>h
theorem Le.bd{α β:Type}{a b:Option α}{f g:α→Option β}(h:Le a b)(k:∀x,Le (f x) (g x)):Le (a.bind f) (b.bind g):=by
 intro r hr;cases ha:a with
 |none=>rw[ha]at hr;cases hr
 |some x=>rw[ha]at hr;rw[h x ha];exact k x r hr
theorem Le.cd{α:Type}{c:Bool}{a b a' b':Option α}(h:Le a b)(k:Le a' b'):Le (cond c a a') (cond c b b'):=by
 cases c
 ·exact k
 ·exact h
theorem Le.lp{σ ρ:Type}{e f:σ→Option (σ⊕ρ)}{n:Nat}{s:σ}(h:∀s,Le (e s) (f s)):Le (xE e n s) (zH f s):=by
 intro r hr;rw[zCp];refine⟨n,?_⟩
 induction n generalizing s with
 |zero=>cases hr
 |succ n ih=>
  simp only[xE]at hr ⊢
  cases he:e s with
  |none=>rw[he]at hr;cases hr
  |some x=>
   rw[he]at hr;rw[h s x he];cases x with
   |inl s'=>exact ih hr
   |inr r'=>exact hr
theorem leS{α:Type}{a b:Option α}(h:Le a b:=by
 repeat' first
  |with_reducible exact Le.rf
  |exact LeC.h
  |with_reducible refine Le.bd ?_ fun _=>?_
  |with_reducible refine Le.cd ?_ ?_
  |with_reducible refine Le.lp fun _=>?_
  |(rename_i x;cases x using Sum.casesOn<;>dsimp only)
  |fail):Le a b:=h
theorem Le.fu{α:Type}{g:Nat→Option α}{n:Nat}(h:∀n,Le (g n) (g (n+1))):Le (g n) (zCH g):=fun r hr=>
 zBm n fun m hm=>by
  induction m with
  |zero=>rw[show 0=n from by omega];exact hr
  |succ m ih=>
   rcases Nat.eq_or_lt_of_le hm with e|e
   ·rw[←e];exact hr
   ·exact h m r (ih (by omega))
end Go.Pl

namespace Go.Wk
open Go Go.Ab Go.Pl
noncomputable def tT (x0:List Int):Option Int:=
 (xE (zRg x0) 400 (1,0)).bind fun r5=>
 dJ r5
noncomputable def uR (x0:List Int) (x1:List Int) (x2:Int):Option Bool:=
 cond ((x1.length:Int) != (x0.length:Int)) (
  dJ dM) (
  (xE (zMS x0 x1 x2) 400 0).bind fun r6=>
  match r6 with
  |(.inl _)=>
   dJ dL
  |(.inr r6)=>
   dJ r6)
noncomputable def tK (x0:SPr) (s7:Int) (s8:Int):Option (Int⊕(Unit⊕Bool)):=
 (ixO x0.zB s7).bind fun v11=>
 cond (decide (s8<(v11.length:Int))) (
  (ixO x0.zB s7).bind fun v12=>
  (ixO v12 s8).bind fun v13=>
  (uR x0.zA v13 s7).bind fun r14=>
  cond (!r14) (
   dJ (.inr (.inr dM))) (
   (rng (s8+1)).bind fun v15=>
   dJ (.inl v15))) (
  dJ (.inr (.inl ())))
noncomputable def tL (x0:SPr) (s7:Int):Option (Int⊕(Unit⊕Bool)):=
 cond (decide (s7<(x0.zA.length:Int))) (
  (ixO x0.zJ s7).bind fun v6=>
  (uR x0.zA v6 s7).bind fun r7=>
  cond (!r7) (
   dJ (.inr (.inr dM))) (
   (ixO x0.zB s7).bind fun v8=>
   (rng ((x0.zA.length:Int)-1)).bind fun v9=>
   (rng (v9-s7)).bind fun v10=>
   cond ((v8.length:Int) != v10) (
    dJ (.inr (.inr dM))) (
    (xE (tK x0 s7) 400 0).bind fun r16=>
    match r16 with
    |(.inl _)=>
     (rng (s7+1)).bind fun v17=>
     dJ (.inl v17)
    |(.inr r16)=>
     dJ (.inr (.inr r16))))) (
  dJ (.inr (.inl ())))
noncomputable def tU (x0:SPr):Option Bool:=
 cond (decide ((x0.zA.length:Int)> 6)) (
  dJ dM) (
  cond ((x0.zJ.length:Int) != (x0.zA.length:Int)) (
   dJ dM) (
   cond ((x0.zB.length:Int) != (x0.zA.length:Int)) (
    dJ dM) (
    (xE (zRh x0) 400 0).bind fun r4=>
    match r4 with
    |(.inl _)=>
     (tT x0.zA).bind fun r5=>
     cond (decide (r5> 729)) (
      dJ dM) (
      (xE (tL x0) 400 0).bind fun r18=>
      match r18 with
      |(.inl _)=>
       dJ dL
      |(.inr r18)=>
       dJ r18)
    |(.inr r4)=>
     dJ r4)))
noncomputable def zAK (x0:List Int) (x1:List Int):Option Bool:=
 cond ((x0.length:Int) != (x1.length:Int)) (
  dJ dM) (
  (xE (yAH x0 x1) 400 0).bind fun r4=>
  match r4 with
  |(.inl _)=>
   dJ dL
  |(.inr r4)=>
   dJ r4)
noncomputable def kN (x0:Int) (x1:List Int) (x2:List (List Int)) (s5:(List Int)×Int):Option (((List Int)×Int)⊕(List Int)):=
 cond (decide (s5.2<(x1.length:Int))) (
  cond (decide (s5.2<(x2.length:Int))) (
   (xE (zRj x0 x1 x2 s5) 400 (s5.1,0)).bind fun r12=>
   (rng (s5.2+1)).bind fun v13=>
   dJ (.inl (r12,v13))) (
   dJ (.inr s5.1))) (
  dJ (.inr s5.1))
noncomputable def zAg (x0:Int) (x1:List Int) (x2:List (List Int)) (x3:Int):Option (List Int):=
 (yG x3).bind fun m1=>
 (xE (kN x0 x1 x2) 400 (J1 m1 (0:Int),0)).bind fun r14=>
 dJ r14
noncomputable def qN (x0:Int) (x1:List (List Int)) (x2:List (List Int)) (x3:Int) (s1:(List (List Int))×Int):Option (((List (List Int))×Int)⊕(List (List Int))):=
 cond (decide (s1.2<(x1.length:Int))) (
  (ixO x1 s1.2).bind fun v1=>
  (zAg x0 v1 x2 x3).bind fun r2=>
  (zZ s1.1 [r2]).bind fun v3=>
  (rng (s1.2+1)).bind fun v4=>
  dJ (.inl (v3,v4))) (
  dJ (.inr s1.1))
noncomputable def jV (x0:Int) (x1:List (List Int)) (x2:List (List Int)) (x3:Int):Option (List (List Int)):=
 (xE (qN x0 x1 x2 x3) 400 ([],0)).bind fun r5=>
 dJ r5
noncomputable def zAL (x0:List Int):Option Bool:=
 (xE (zUR x0) 400 0).bind fun r3=>
 match r3 with
 |(.inl _)=>
  dJ dL
 |(.inr r3)=>
  dJ r3
noncomputable def tX (x0:List (List Int)):Option (List (List Int)):=
 (xE (zJU x0) 400 ([],0)).bind fun r5=>
 dJ r5
noncomputable def qO (x0:List Int) (s5:(List (List Int))×(List (List (List Int)))×Int):Option (((List (List Int))×(List (List (List Int)))×Int)⊕((List (List Int))×(List (List (List Int))))):=
 cond (decide (s5.2.2<(x0.length:Int))) (
  (yG (x0.length:Int)).bind fun m2=>
  (zZ s5.1 [J1 m2 (0:Int)]).bind fun v3=>
  (rng (s5.2.2+1)).bind fun v4=>
  (xE (zRD x0) 400 ([],v4)).bind fun r8=>
  (zZ s5.2.1 [r8]).bind fun v9=>
  (rng (s5.2.2+1)).bind fun v10=>
  dJ (.inl (v3,v9,v10))) (
  dJ (.inr (s5.1,s5.2.1)))
noncomputable def wN (x0:List Int):Option SPr:=
 (f_p x0).bind fun r1=>
 (xE (qO x0) 400 ([],[],0)).bind fun r11=>
 dJ (SPr.mk r1 r11.1 r11.2)
noncomputable def qP (s5:Int×(List Int)×Int):Option ((Int×(List Int)×Int)⊕(Int×(List Int))):=
 cond (decide (s5.2.2≤7)) (
  (xE (zVu s5) 400 (s5.1,s5.2.1)).bind fun r5=>
  (rng (s5.2.2+1)).bind fun v6=>
  dJ (.inl (r5.1,r5.2,v6))) (
  dJ (.inr (s5.1,s5.2.1)))
noncomputable def vD (x0:Int):Option ((List Int)×Bool):=
 (xE qP 400 (x0,[],2)).bind fun r7=>
 dJ (r7.2,(r7.1==1))
noncomputable def wV (x0:Int):Option (SPr×Int):=
 (zIU x0 1 729).bind fun r1=>
 cond (!r1) (
  dJ ((SPr.mk [] [] []),2)) (
  (vD x0).bind fun r2=>
  cond (!r2.2) (
   dJ ((SPr.mk [] [] []),2)) (
   cond (decide ((r2.1.length:Int)> 6)) (
    dJ ((SPr.mk [] [] []),3)) (
    (wN r2.1).bind fun r3=>
    (xE (zQs r2) 400 (r3.zJ,0)).bind fun r9=>
    dJ ((SPr.mk r3.zA r9 r3.zB),0))))
noncomputable def uS (x0:List Int) (x1:Int) (x2:Int):Option (List Int):=
 (yG (x0.length:Int)).bind fun m1=>
 (xE (zVv x0) 400 (x2,J1 m1 (0:Int),x1)).bind fun r8=>
 dJ r8
noncomputable def qF (x0:Int) (x1:Int) (x2:Int):Option Int:=
 (xR 1 x2).bind fun v1=>
 (xE (zVw x2) 400 (x0,x1,v1)).bind fun r11=>
 dJ r11
noncomputable def zAh (v4:List Int) (s7:(List (List (List Int)))×Int×Int) (s8:(List (List (List Int)))×Int):Option (((List (List (List Int)))×Int)⊕(List (List (List Int)))):=
 cond (decide (s8.2<(v4.length:Int))) (
  (ixO s8.1 s7.2.2).bind fun v18=>
  (rng (s8.2-s7.2.2)).bind fun v19=>
  (rng (v19-1)).bind fun v20=>
  (uS v4 s8.2 s7.2.1).bind fun r21=>
  (ixO v18 v20).bind fun _=>
  (rng (s8.2+1)).bind fun v23=>
  dJ (.inl (s8.1.set s7.2.2.toNat (v18.set v20.toNat r21),v23))) (
  dJ (.inr s8.1))
noncomputable def zAi (x1:Int) (r1:(List Int)×Bool) (v4:List Int) (s7:(List (List (List Int)))×Int×Int):Option (((List (List (List Int)))×Int×Int)⊕(List (List (List Int)))):=
 cond (decide (s7.2.2<(r1.1.length:Int))) (
  (xE (zAh v4 s7) 400 (s7.1,(r1.1.length:Int))).bind fun r24=>
  (ixO r1.1 s7.2.2).bind fun v25=>
  (qF s7.2.1 v25 x1).bind fun r26=>
  (rng (s7.2.2+1)).bind fun v27=>
  dJ (.inl (r24,r26,v27))) (
  dJ (.inr s7.1))
noncomputable def zAj (v4:List Int) (s15:(List (List (List Int)))×Int×Int) (s16:(List (List (List Int)))×Int):Option (((List (List (List Int)))×Int)⊕(List (List (List Int)))):=
 cond (decide (s16.2<(v4.length:Int))) (
  (ixO s16.1 s15.2.2).bind fun v30=>
  (rng (s16.2-s15.2.2)).bind fun v31=>
  (rng (v31-1)).bind fun v32=>
  (uS v4 s16.2 s15.2.1).bind fun r33=>
  (ixO v30 v32).bind fun _=>
  (rng (s16.2+1)).bind fun v35=>
  dJ (.inl (s16.1.set s15.2.2.toNat (v30.set v32.toNat r33),v35))) (
  dJ (.inr s16.1))
noncomputable def zAk (x1:Int) (r1:(List Int)×Bool) (v4:List Int) (s15:(List (List (List Int)))×Int×Int):Option (((List (List (List Int)))×Int×Int)⊕(List (List (List Int)))):=
 cond (decide (s15.2.2<(r1.1.length:Int))) (
  (xE (zAj v4 s15) 400 (s15.1,(r1.1.length:Int))).bind fun r36=>
  (ixO r1.1 s15.2.2).bind fun v37=>
  (qF s15.2.1 v37 x1).bind fun r38=>
  (rng (s15.2.2+1)).bind fun v39=>
  dJ (.inl (r36,r38,v39))) (
  dJ (.inr s15.1))
noncomputable def xY (x0:Int) (x1:Int) (x2:Int) (x3:Int):Option SPr:=
 (vD x0).bind fun r1=>
 (vD x1).bind fun r2=>
 (f_p r1.1).bind fun r3=>
 (zZ r3 r2.1).bind fun v4=>
 (wN v4).bind fun r5=>
 (xE (zX8 r1 v4) 400 (r5.zJ,0)).bind fun r13=>
 cond (decide ((r1.1.length:Int)> 0)) (
  (rng ((r1.1.length:Int)-1)).bind fun v14=>
  (uS v4 (r1.1.length:Int) x3).bind fun r15=>
  (ixO r13 v14).bind fun _=>
  (xR x2 x1).bind fun v17=>
  (xE (zAi x1 r1 v4) 400 (r5.zB,v17,0)).bind fun r28=>
  dJ (SPr.mk r5.zA (r13.set v14.toNat r15) r28)) (
  (xR x2 x1).bind fun v29=>
  (xE (zAk x1 r1 v4) 400 (r5.zB,v29,0)).bind fun r40=>
  dJ (SPr.mk r5.zA r13 r40))
noncomputable def jW (x0:Int) (x1:List (List Int)) (r1:(List Int)×Bool) (s13:(List (List (List Int)))×(List (List Int))×Int) (s16:(List (List Int))×Int):Option (((List (List Int))×Int)⊕(List (List Int))):=
 (ixO r1.1 s13.2.2).bind fun v23=>
 cond (decide (s16.2<v23)) (
  (jV x0 s16.1 s13.2.1 (x1.length:Int)).bind fun r24=>
  (rng (s16.2+1)).bind fun v25=>
  dJ (.inl (r24,v25))) (
  dJ (.inr s16.1))
noncomputable def jY (x0:Int) (x1:List (List Int)) (r1:(List Int)×Bool) (s13:(List (List (List Int)))×(List (List Int))×Int):Option (((List (List (List Int)))×(List (List Int))×Int)⊕(List (List (List Int)))):=
 cond (decide (s13.2.2<(r1.1.length:Int))) (
  (xE (zXB x1 r1 s13) 400 (s13.1,0)).bind fun r22=>
  (xE (jW x0 x1 r1 s13) 400 (s13.2.1,1)).bind fun r26=>
  (rng (s13.2.2+1)).bind fun v27=>
  dJ (.inl (r22,r26,v27))) (
  dJ (.inr s13.1))
noncomputable def wD (x0:Int) (x1:List (List Int)) (x2:Int):Option SPr:=
 (vD x2).bind fun r1=>
 (f_p r1.1).bind fun r2=>
 (xE (yAV x0 x1) 400 (r2,0)).bind fun r5=>
 (wN r5).bind fun r6=>
 (xE (zXA r1 r5) 400 (r6.zJ,0)).bind fun r12=>
 (tX x1).bind fun r13=>
 (xE (jY x0 x1 r1) 400 (r6.zB,r13,0)).bind fun r28=>
 dJ (SPr.mk r6.zA r12 r28)
noncomputable def tM (x0:ByteArray) (x1:Int):Option (List ByteArray):=
 (xE (zV3 x0 x1) 400 ([],0,0)).bind fun r7=>
 (zGG x0 r7.2 (x0.size:Int)).bind fun v8=>
 (zZ r7.1 [v8]).bind fun v9=>
 dJ v9
noncomputable def zAl (x0:ByteArray):Option Int:=
 cond ((x0.size:Int)==0) (
  dJ (-1)) (
  cond (decide ((x0.size:Int)> 6)) (
   dJ (-1)) (
   cond (decide ((x0.size:Int)> 1)) (
    (zBz x0 0).bind fun v1=>
    cond (v1==48) (
     dJ (-1)) (
     (xE (zV4 x0) 400 (0,0)).bind fun r8=>
     match r8 with
     |(.inl r8)=>
      dJ r8
     |(.inr r8)=>
      dJ r8)) (
    (xE (zV5 x0) 400 (0,0)).bind fun r15=>
    match r15 with
    |(.inl r15)=>
     dJ r15
    |(.inr r15)=>
     dJ r15)))
noncomputable def jZ (r1:(List ByteArray)) (s1:(List Int)×Int):Option (((List Int)×Int)⊕((List Int)⊕((List Int)×Bool))):=
 cond (decide (s1.2<(r1.length:Int))) (
  (ixO r1 s1.2).bind fun v2=>
  (zAl v2).bind fun r3=>
  (zOo r3).bind fun r4=>
  cond (!r4) (
   dJ (.inr (.inr ([],dM)))) (
   cond (decide (s1.2≥6)) (
    dJ (.inr (.inr ([],dM)))) (
    (zZ s1.1 [r3]).bind fun v5=>
    (rng (s1.2+1)).bind fun v6=>
    dJ (.inl (v5,v6))))) (
  dJ (.inr (.inl s1.1)))
noncomputable def kO (x0:ByteArray):Option ((List Int)×Bool):=
 cond (zDV x0 (ByteArray.mk #[49])) (
  dJ ([],dL)) (
  (tM x0 32).bind fun r1=>
  (xE (jZ r1) 400 ([],0)).bind fun r7=>
  match r7 with
  |(.inl r7)=>
   (tT r7).bind fun r8=>
   dJ (r7,decide (r8≤729))
  |(.inr r7)=>
   dJ r7)
noncomputable def zAm (x0:Int) (x1:ByteArray):Option ((List Int)×Bool):=
 cond (zDV x1 (ByteArray.mk #[49])) (
  dJ ([],dL)) (
  (xE (zV6 x0 x1) 400 ([],0)).bind fun r14=>
  match r14 with
  |(.inl r14)=>
   dJ (r14,decide ((r14.length:Int)> 0))
  |(.inr r14)=>
   dJ r14)
noncomputable def kQ (x0:Int) (x1:List Int):Option ((List Int)×Bool):=
 (yG x0).bind fun m1=>
 (xE (zV7 x1) 400 (J1 m1 (0:Int),0)).bind fun r11=>
 match r11 with
 |(.inl r11)=>
  dJ (r11,dL)
 |(.inr r11)=>
  dJ r11
noncomputable def zAM (x0:SPr) (s1:(List (List (List Int)))×Int):Option (((List (List (List Int)))×Int)⊕(List (List (List Int)))):=
 cond (decide (s1.2<(x0.zB.length:Int))) (
  (ixO x0.zB s1.2).bind fun v3=>
  (tX v3).bind fun r4=>
  (zZ s1.1 [r4]).bind fun v5=>
  (rng (s1.2+1)).bind fun v6=>
  dJ (.inl (v5,v6))) (
  dJ (.inr s1.1))
noncomputable def zBu (x0:SPr):Option SPr:=
 (f_p x0.zA).bind fun r1=>
 (tX x0.zJ).bind fun r2=>
 (xE (zAM x0) 400 ([],0)).bind fun r7=>
 dJ (SPr.mk r1 r2 r7)
noncomputable def sX (x0:Int):Option ByteArray:=zLn 40 x0
noncomputable def qQ (x0:SPr) (x1:ByteArray):Option (SPr×Bool):=
 (tM x1 61).bind fun r1=>
 cond ((r1.length:Int) != 2) (
  dJ (x0,dM)) (
  (ixO r1 0).bind fun v2=>
  cond ((v2.size:Int) != 4) (
   dJ (x0,dM)) (
   (ixO r1 0).bind fun v3=>
   (zBz v3 0).bind fun v4=>
   cond (v4 != 32) (
    dJ (x0,dM)) (
    (ixO r1 0).bind fun v5=>
    (zBz v5 2).bind fun v6=>
    cond (v6 != 94) (
     dJ (x0,dM)) (
     (ixO r1 1).bind fun v7=>
     (zAm (x0.zA.length:Int) v7).bind fun r8=>
     cond (!r8.2) (
      dJ (x0,dM)) (
      (kQ (x0.zA.length:Int) r8.1).bind fun r9=>
      (ixO r1 0).bind fun v10=>
      (zBz v10 1).bind fun v11=>
      (rng ((IntKind.wrap .i64 v11)-97)).bind fun v12=>
      (ixO r1 0).bind fun v13=>
      (zBz v13 3).bind fun v14=>
      (rng ((IntKind.wrap .i64 v14)-97)).bind fun v15=>
      cond (!r9.2) (
       dJ (x0,dM)) (
       cond (decide (v12<0)) (
        dJ (x0,dM)) (
        cond (decide (v12≥(x0.zA.length:Int))) (
         dJ (x0,dM)) (
         (zBu x0).bind fun r16=>
         (ixO r1 0).bind fun v17=>
         (zGG v17 3 (v17.size:Int)).bind fun v18=>
         (ixO x0.zA v12).bind fun v19=>
         (sX v19).bind fun r20=>
         cond (zDV v18 r20) (
          (ixO r16.zJ v12).bind fun _=>
          dJ ((SPr.mk r16.zA (r16.zJ.set v12.toNat r9.1) r16.zB),dL)) (
          cond (decide (v15<0)) (
           dJ (x0,dM)) (
           cond (decide (v15≥v12)) (
            dJ (x0,dM)) (
            (ixO r16.zB v15).bind fun v22=>
            (rng (v12-v15)).bind fun v23=>
            (rng (v23-1)).bind fun v24=>
            (ixO v22 v24).bind fun _=>
            dJ ((SPr.mk r16.zA r16.zJ (r16.zB.set v15.toNat (v22.set v24.toNat r9.1))),dL))))))))))))
noncomputable def tY (x0:List Int):Option ByteArray:=
 cond ((x0.length:Int)==0) (
  dJ (ByteArray.mk #[49])) (
  (xE (zV8 x0) 400 ([],0)).bind fun r12=>
  dJ (b2s r12))
noncomputable def uU (x0:Int):Option ByteArray:=
 (rng (x0+1)).bind fun v1=>
 (tY [v1]).bind fun r2=>
 dJ r2
noncomputable def zAn (x0:List Int) (s5:(List Int)×Int):Option (((List Int)×Int)⊕(List Int)):=
 cond (decide (s5.2<(x0.length:Int))) (
  (xE (zV9 x0 s5) 400 (s5.1,0)).bind fun r5=>
  (rng (s5.2+1)).bind fun v6=>
  dJ (.inl (r5,v6))) (
  dJ (.inr s5.1))
noncomputable def jO (x0:List Int):Option (List Int):=
 (xE (zAn x0) 400 ([],0)).bind fun r7=>
 dJ r7
noncomputable def zAo (x0:SPr) (s1:ByteArray×Int):Option ((ByteArray×Int)⊕ByteArray):=
 cond (decide (s1.2<(x0.zA.length:Int))) (
  cond (decide (s1.2> 0)) (
   (vL s1.1 (ByteArray.mk #[32])).bind fun v1=>
   (ixO x0.zA s1.2).bind fun v2=>
   (sX v2).bind fun r3=>
   (vL v1 r3).bind fun v4=>
   (rng (s1.2+1)).bind fun v5=>
   dJ (.inl (v4,v5))) (
   (ixO x0.zA s1.2).bind fun v6=>
   (sX v6).bind fun r7=>
   (vL s1.1 r7).bind fun v8=>
   (rng (s1.2+1)).bind fun v9=>
   dJ (.inl (v8,v9)))) (
  dJ (.inr s1.1))
noncomputable def zAp (x0:SPr) (s3:ByteArray×Int):Option ((ByteArray×Int)⊕ByteArray):=
 cond (decide (s3.2<(x0.zA.length:Int))) (
  (ixO x0.zJ s3.2).bind fun v11=>
  (zAL v11).bind fun r12=>
  cond (!r12) (
   (vL s3.1 (ByteArray.mk #[59,32])).bind fun v13=>
   (uU s3.2).bind fun r14=>
   (vL v13 r14).bind fun v15=>
   (vL v15 (ByteArray.mk #[94])).bind fun v16=>
   (ixO x0.zA s3.2).bind fun v17=>
   (sX v17).bind fun r18=>
   (vL v16 r18).bind fun v19=>
   (vL v19 (ByteArray.mk #[61])).bind fun v20=>
   (ixO x0.zJ s3.2).bind fun v21=>
   (jO v21).bind fun r22=>
   (tY r22).bind fun r23=>
   (vL v20 r23).bind fun v24=>
   (rng (s3.2+1)).bind fun v25=>
   dJ (.inl (v24,v25))) (
   (rng (s3.2+1)).bind fun v26=>
   dJ (.inl (s3.1,v26)))) (
  dJ (.inr s3.1))
noncomputable def zAq (x0:SPr) (s9:ByteArray×Int) (s10:ByteArray×Int):Option ((ByteArray×Int)⊕ByteArray):=
 cond (decide (s10.2<(x0.zA.length:Int))) (
  (ixO x0.zB s9.2).bind fun v29=>
  (rng (s10.2-s9.2)).bind fun v30=>
  (rng (v30-1)).bind fun v31=>
  (ixO v29 v31).bind fun v32=>
  (zF5 (x0.zA.length:Int) s10.2).bind fun r33=>
  (zAK v32 r33).bind fun r34=>
  cond (!r34) (
   (vL s10.1 (ByteArray.mk #[59,32])).bind fun v35=>
   (uU s10.2).bind fun r36=>
   (vL v35 r36).bind fun v37=>
   (vL v37 (ByteArray.mk #[94])).bind fun v38=>
   (uU s9.2).bind fun r39=>
   (vL v38 r39).bind fun v40=>
   (vL v40 (ByteArray.mk #[61])).bind fun v41=>
   (ixO x0.zB s9.2).bind fun v42=>
   (rng (s10.2-s9.2)).bind fun v43=>
   (rng (v43-1)).bind fun v44=>
   (ixO v42 v44).bind fun v45=>
   (jO v45).bind fun r46=>
   (tY r46).bind fun r47=>
   (vL v41 r47).bind fun v48=>
   (rng (s10.2+1)).bind fun v49=>
   dJ (.inl (v48,v49))) (
   (rng (s10.2+1)).bind fun v50=>
   dJ (.inl (s10.1,v50)))) (
  dJ (.inr s10.1))
noncomputable def zAr (x0:SPr) (s9:ByteArray×Int):Option ((ByteArray×Int)⊕ByteArray):=
 cond (decide (s9.2<(x0.zA.length:Int))) (
  (rng (s9.2+1)).bind fun v28=>
  (xE (zAq x0 s9) 400 (s9.1,v28)).bind fun r51=>
  (rng (s9.2+1)).bind fun v52=>
  dJ (.inl (r51,v52))) (
  dJ (.inr s9.1))
noncomputable def zAN (x0:SPr):Option ByteArray:=
 cond ((x0.zA.length:Int)==0) (
  dJ (ByteArray.mk #[49])) (
  (xE (zAo x0) 400 ((ByteArray.mk #[]),0)).bind fun r10=>
  (xE (zAp x0) 400 (r10,0)).bind fun r27=>
  (xE (zAr x0) 400 (r27,0)).bind fun r53=>
  dJ r53)
noncomputable def vZ (r1:(List ByteArray)) (s1:(List Int)×(List (List Int))×(List (List (List Int)))×Int):Option (((List Int)×(List (List Int))×(List (List (List Int)))×Int)⊕(((List Int)×(List (List Int))×(List (List (List Int))))⊕(SPr×Int))):=
 cond (decide (s1.2.2.2<(r1.length:Int))) (
  (ixO r1 s1.2.2.2).bind fun v5=>
  (qQ (SPr.mk s1.1 s1.2.1 s1.2.2.1) v5).bind fun r6=>
  cond (!r6.2) (
   dJ (.inr (.inr ((SPr.mk [] [] []),6)))) (
   (rng (s1.2.2.2+1)).bind fun v7=>
   dJ (.inl (r6.1.zA,r6.1.zJ,r6.1.zB,v7)))) (
  dJ (.inr (.inl (s1.1,s1.2.1,s1.2.2.1))))
noncomputable def uI (x0:ByteArray):Option (SPr×Int):=
 (tM x0 59).bind fun r1=>
 (ixO r1 0).bind fun v2=>
 (kO v2).bind fun r3=>
 cond (!r3.2) (
  dJ ((SPr.mk [] [] []),6)) (
  (wN r3.1).bind fun r4=>
  (xE (vZ r1) 400 (r4.zA,r4.zJ,r4.zB,1)).bind fun r8=>
  match r8 with
  |(.inl r8)=>
   (tU (SPr.mk r8.1 r8.2.1 r8.2.2)).bind fun r9=>
   cond (!r9) (
    dJ ((SPr.mk [] [] []),6)) (
    (zAN (SPr.mk r8.1 r8.2.1 r8.2.2)).bind fun r10=>
    cond (!zDV r10 x0) (
     dJ ((SPr.mk [] [] []),6)) (
     dJ ((SPr.mk r8.1 r8.2.1 r8.2.2),0)))
  |(.inr r8)=>
   dJ r8)
noncomputable def zAs (x0:Int):Option SPr:=
 (xR x0 10).bind fun v1=>
 (ixO [(ByteArray.mk #[49]),(ByteArray.mk #[50]),(ByteArray.mk #[50,32,50,59,32,97,94,50,61,98]),(ByteArray.mk #[50,32,51,59,32,98,94,97,61,98,98]),(ByteArray.mk #[51,32,50,32,50,59,32,98,94,97,61,99,59,32,99,94,97,61,98,99]),(ByteArray.mk #[50,32,51,32,50,32,50,59,32,98,94,97,61,98,98,59,32,99,94,97,61,100,59,32,100,94,97,61,99,59,32,99,94,98,61,100,59,32,100,94,98,61,99,100]),(ByteArray.mk #[51,32,50,32,50,32,50,59,32,98,94,50,61,100,59,32,99,94,50,61,100,59,32,98,94,97,61,99,59,32,99,94,97,61,98,99,59,32,99,94,98,61,99,100]),(ByteArray.mk #[50,32,50,32,50,59,32,97,94,50,61,99,59,32,98,94,50,61,99,59,32,98,94,97,61,98,99]),(ByteArray.mk #[50,32,50,32,50,59,32,98,94,97,61,98,99]),(ByteArray.mk #[50,32,50,32,50,32,50,59,32,99,94,97,61,99,100,59,32,99,94,98,61,99,100])] v1).bind fun v2=>
 (uI v2).bind fun r3=>
 cond (r3.2 != 0) (
  (wN [2]).bind fun r4=>
  dJ r4) (
  dJ r3.1)
instance m_f_spec_l07Product(x0:List Int):LeC (tT x0) (f_X x0):=⟨by unfold tT f_X;exact leS⟩
instance m_f_spec_l07Exponents(x0:List Int)(x1:List Int)(x2:Int):LeC (uR x0 x1 x2) (zOp x0 x1 x2):=⟨by unfold uR zOp;exact leS⟩
instance m_l2_spec_IsPresentation(x0:SPr)(s7:Int)(s8:Int):LeC (tK x0 s7 s8) (zOq x0 s7 s8):=⟨by unfold tK zOq;exact leS⟩
instance m_l3_spec_IsPresentation(x0:SPr)(s7:Int):LeC (tL x0 s7) (zLd x0 s7):=⟨by unfold tL zLd;exact leS⟩
instance m_f_spec_IsPresentation(x0:SPr):LeC (tU x0) (f_o x0):=⟨by unfold tU f_o;exact leS⟩
instance m_f_spec_l01Same(x0:List Int)(x1:List Int):LeC (zAK x0 x1) (f_Z x0 x1):=⟨by unfold zAK f_Z;exact leS⟩
instance m_l2_spec_l02Times(x0:Int)(x1:List Int)(x2:List (List Int))(s5:(List Int)×Int):LeC (kN x0 x1 x2 s5) (zOt x0 x1 x2 s5):=⟨by unfold kN zOt;exact leS⟩
instance m_f_spec_l02Times(x0:Int)(x1:List Int)(x2:List (List Int))(x3:Int):LeC (zAg x0 x1 x2 x3) (f_L x0 x1 x2 x3):=⟨by unfold zAg f_L;exact leS⟩
instance m_l1_spec_l02Product(x0:Int)(x1:List (List Int))(x2:List (List Int))(x3:Int)(s1:(List (List Int))×Int):LeC (qN x0 x1 x2 x3 s1) (zOu x0 x1 x2 x3 s1):=⟨by unfold qN zOu;exact leS⟩
instance m_f_spec_l02Product(x0:Int)(x1:List (List Int))(x2:List (List Int))(x3:Int):LeC (jV x0 x1 x2 x3) (f_V x0 x1 x2 x3):=⟨by unfold jV f_V;exact leS⟩
instance m_f_spec_l01Zero(x0:List Int):LeC (zAL x0) (zNm x0):=⟨by unfold zAL zNm;exact leS⟩
instance m_f_spec_l01Own2(x0:List (List Int)):LeC (tX x0) (zLl x0):=⟨by unfold tX zLl;exact leS⟩
instance m_l2_spec_l07Trivial(x0:List Int)(s5:(List (List Int))×(List (List (List Int)))×Int):LeC (qO x0 s5) (zLm x0 s5):=⟨by unfold qO zLm;exact leS⟩
instance m_f_spec_l07Trivial(x0:List Int):LeC (wN x0) (f_z x0):=⟨by unfold wN f_z;exact leS⟩
instance m_l2_spec_l07Factors(s5:Int×(List Int)×Int):LeC (qP s5) (zQr s5):=⟨by unfold qP zQr;exact leS⟩
instance m_f_spec_l07Factors(x0:Int):LeC (vD x0) (zO9 x0):=⟨by unfold vD zO9;exact leS⟩
instance m_f_spec_CyclicPresentation(x0:Int):LeC (wV x0) (zX7 x0):=⟨by unfold wV zX7;exact leS⟩
instance m_f_spec_l07Digits(x0:List Int)(x1:Int)(x2:Int):LeC (uS x0 x1 x2) (zRE x0 x1 x2):=⟨by unfold uS zRE;exact leS⟩
instance m_f_spec_l01Power(x0:Int)(x1:Int)(x2:Int):LeC (qF x0 x1 x2) (zVx x0 x1 x2):=⟨by unfold qF zVx;exact leS⟩
instance m_l2_spec_l07Meta(v4:List Int)(s7:(List (List (List Int)))×Int×Int)(s8:(List (List (List Int)))×Int):LeC (zAh v4 s7 s8) (zVy v4 s7 s8):=⟨by unfold zAh zVy;exact leS⟩
instance m_l3_spec_l07Meta(x1:Int)(r1:(List Int)×Bool)(v4:List Int)(s7:(List (List (List Int)))×Int×Int):LeC (zAi x1 r1 v4 s7) (zVz x1 r1 v4 s7):=⟨by unfold zAi zVz;exact leS⟩
instance m_l4_spec_l07Meta(v4:List Int)(s15:(List (List (List Int)))×Int×Int)(s16:(List (List (List Int)))×Int):LeC (zAj v4 s15 s16) (zV0 v4 s15 s16):=⟨by unfold zAj zV0;exact leS⟩
instance m_l5_spec_l07Meta(x1:Int)(r1:(List Int)×Bool)(v4:List Int)(s15:(List (List (List Int)))×Int×Int):LeC (zAk x1 r1 v4 s15) (zV1 x1 r1 v4 s15):=⟨by unfold zAk zV1;exact leS⟩
instance m_f_spec_l07Meta(x0:Int)(x1:Int)(x2:Int)(x3:Int):LeC (xY x0 x1 x2 x3) (f_n x0 x1 x2 x3):=⟨by unfold xY f_n;exact leS⟩
instance m_l4_spec_l07Affine(x0:Int)(x1:List (List Int))(r1:(List Int)×Bool)(s13:(List (List (List Int)))×(List (List Int))×Int)(s16:(List (List Int))×Int):LeC (jW x0 x1 r1 s13 s16) (zXC x0 x1 r1 s13 s16):=⟨by unfold jW zXC;exact leS⟩
instance m_l5_spec_l07Affine(x0:Int)(x1:List (List Int))(r1:(List Int)×Bool)(s13:(List (List (List Int)))×(List (List Int))×Int):LeC (jY x0 x1 r1 s13) (zV2 x0 x1 r1 s13):=⟨by unfold jY zV2;exact leS⟩
instance m_f_spec_l07Affine(x0:Int)(x1:List (List Int))(x2:Int):LeC (wD x0 x1 x2) (f_y x0 x1 x2):=⟨by unfold wD f_y;exact leS⟩
instance m_f_spec_l01Split(x0:ByteArray)(x1:Int):LeC (tM x0 x1) (zRF x0 x1):=⟨by unfold tM zRF;exact leS⟩
instance m_f_spec_l01Value(x0:ByteArray):LeC (zAl x0) (zXD x0):=⟨by unfold zAl zXD;exact leS⟩
instance m_l1_spec_l07Orders(r1:(List ByteArray))(s1:(List Int)×Int):LeC (jZ r1 s1) (zQt r1 s1):=⟨by unfold jZ zQt;exact leS⟩
instance m_f_spec_l07Orders(x0:ByteArray):LeC (kO x0) (zXE x0):=⟨by unfold kO zXE;exact leS⟩
instance m_f_spec_l06Parse(x0:Int)(x1:ByteArray):LeC (zAm x0 x1) (zXF x0 x1):=⟨by unfold zAm zXF;exact leS⟩
instance m_f_spec_l07Vector(x0:Int)(x1:List Int):LeC (kQ x0 x1) (zXG x0 x1):=⟨by unfold kQ zXG;exact leS⟩
instance m_l1_spec_l07Own(x0:SPr)(s1:(List (List (List Int)))×Int):LeC (zAM x0 s1) (zGA x0 s1):=⟨by unfold zAM zGA;exact leS⟩
instance m_f_spec_l07Own(x0:SPr):LeC (zBu x0) (zNw x0):=⟨by unfold zBu zNw;exact leS⟩
instance m_f_spec_l01Dec(x0:Int):LeC (sX x0) (f_l x0):=⟨Le.fu (n:=40) (g:=fun n=>zLn n x0) fun n=>by
 induction n generalizing x0 with
 |zero=>intro r h;cases h
 |succ n ih=>
  have:=fun x0=>LeC.mk (ih x0)
  show Le (b_l (zLn n) x0) (b_l (zLn (n+1)) x0);unfold b_l;exact leS⟩
instance m_f_spec_l07Relation(x0:SPr)(x1:ByteArray):LeC (qQ x0 x1) (zXH x0 x1):=⟨by unfold qQ zXH;exact leS⟩
instance m_f_spec_l06Text(x0:List Int):LeC (tY x0) (zRG x0):=⟨by unfold tY zRG;exact leS⟩
instance m_f_spec_l07Letter(x0:Int):LeC (uU x0) (zRH x0):=⟨by unfold uU zRH;exact leS⟩
instance m_l2_spec_l07Word(x0:List Int)(s5:(List Int)×Int):LeC (zAn x0 s5) (zQu x0 s5):=⟨by unfold zAn zQu;exact leS⟩
instance m_f_spec_l07Word(x0:List Int):LeC (jO x0) (zVA x0):=⟨by unfold jO zVA;exact leS⟩
instance m_l1_spec_l07Text(x0:SPr)(s1:ByteArray×Int):LeC (zAo x0 s1) (zXI x0 s1):=⟨by unfold zAo zXI;exact leS⟩
instance m_l2_spec_l07Text(x0:SPr)(s3:ByteArray×Int):LeC (zAp x0 s3) (zXJ x0 s3):=⟨by unfold zAp zXJ;exact leS⟩
instance m_l3_spec_l07Text(x0:SPr)(s9:ByteArray×Int)(s10:ByteArray×Int):LeC (zAq x0 s9 s10) (zXK x0 s9 s10):=⟨by unfold zAq zXK;exact leS⟩
instance m_l4_spec_l07Text(x0:SPr)(s9:ByteArray×Int):LeC (zAr x0 s9) (zXL x0 s9):=⟨by unfold zAr zXL;exact leS⟩
instance m_f_spec_l07Text(x0:SPr):LeC (zAN x0) (f_I x0):=⟨by unfold zAN f_I;exact leS⟩
instance m_l1_spec_ParsePresentation(r1:(List ByteArray))(s1:(List Int)×(List (List Int))×(List (List (List Int)))×Int):LeC (vZ r1 s1) (zQv r1 s1):=⟨by unfold vZ zQv;exact leS⟩
instance m_f_spec_ParsePresentation(x0:ByteArray):LeC (uI x0) (zXM x0):=⟨by unfold uI zXM;exact leS⟩
instance m_f_spec_l07Table(x0:Int):LeC (zAs x0) (zXN x0):=⟨by unfold zAs zXN;exact leS⟩
end Go.Wk
namespace Go.Pl
open Go Go.Ab Go.Wk
def shB(p:SPr):Bool:=decide (p.zA.length≤6)&&(p.zJ.length==p.zA.length)&&p.zJ.all (fun v=>v.length==p.zA.length)&&(p.zB.length==p.zA.length)&&(Jh p.zA.length).all fun i=>decide ((p.zB.getD i []).length≤p.zA.length-1-i)&&(p.zB.getD i []).all fun v=>v.length==p.zA.length
def okP(o:Option SPr):Bool:=match o with|some p=>shB p|none=>dM
theorem okP.of{a b:Option SPr}[h:LeC a b](k:okP a=dL):∃p,b=dJ p∧shB p=dL:=by
 cases a with
 |none=>cases k
 |some p=>exact⟨p,h.h p rfl,k⟩
theorem yDh{m:Int}(h:m∈[3,4,5,6,7,8,9,12]):okP (xY 2 m (m-1) 0)=dL:=by revert m;decide+kernel
theorem yDi{m:Int}(h:m∈[4,6,8,12]):okP (xY 2 m (m-1) (m.tdiv 2))=dL:=by revert m;decide+kernel
theorem yDj:(okP (xY 3 7 2 0)&&okP (xY 4 5 2 0)&&okP (xY 2 8 3 0)&&okP (xY 2 8 5 0)&&okP (xY 4 4 3 0)&&okP (xY 3 9 4 0))=dL:=by decide+kernel
theorem aff:(okP (wD 3 [[2,0],[0,2]] 2)&&okP (wD 3 [[0,1],[2,0]] 4)&&okP (wD 2 [[0,1,0],[0,0,1],[1,1,0]] 7)&&okP (wD 2 [[1,1,0],[0,1,1],[0,0,1]] 4)&&okP (wD 2 [[0,1,0,0],[1,0,0,0],[0,0,0,1],[0,0,1,0]] 2)&&okP (wD 5 [[0,1],[4,4]] 3))=dL:=by decide+kernel
theorem cyc{n:Int}(h:n∈[1,4,6,8,9,12,5,7,27,25,36]):okP ((wV n).map (·.1))=dL:=by revert n;decide+kernel
theorem zTO:(Jh 10).all (fun k=>okP (zAs k))=dL:=by decide+kernel
end Go.Pl

namespace Go.Pl
open Go Go.Ab Go.Wk Go.Pc
def Ans{α:Type}(o:Option α)(P:α→Prop):Prop:=∃r,o=dJ r∧P r
theorem Ans.rt{α:Type}{P:α→Prop}{r:α}(h:P r):Ans (dJ r) P:=⟨r,rfl,h⟩
theorem Ans.bd{α β:Type}{P:α→Prop}{Q:β→Prop}{o:Option α}{f:α→Option β}(h:Ans o P)(k:∀r,P r→Ans (f r) Q):Ans (o.bind f) Q:=by obtain⟨r,h1,h2⟩:=h;rw[h1,bs];exact k r h2
theorem Ans.mp{α:Type}{P Q:α→Prop}{o:Option α}(h:Ans o P)(k:∀r,P r→Q r):Ans o Q:=by obtain⟨r,h1,h2⟩:=h;exact⟨r,h1,k r h2⟩
theorem Ans.cd{α:Type}{Q:α→Prop}{c:Bool}{a b:Option α}(h:c=dL→Ans a Q)(k:c=dM→Ans b Q):Ans (cond c a b) Q:=by
 cases c
 ·exact k rfl
 ·exact h rfl
theorem Ans.rg{β:Type}{Q:β→Prop}{n:Int}{f:Int→Option β}(h:-9223372036854775808≤n∧n≤9223372036854775807)(k:Ans (f n) Q):Ans ((rng n).bind f) Q:=by rw[zF h.1 h.2,bs];exact k
abbrev Ei{α β:Type}(P:α→Prop)(Q:β→Prop)(x:α⊕β):Prop:=match x with|.inl a=>P a|.inr b=>Q b
theorem Ans.lp{σ ρ:Type}{body:σ→Option (σ⊕ρ)}{Q:ρ→Prop}{s:σ}(I:Nat→σ→Prop)(n:Nat)(h0:I 0 s)
  (h:∀i s,i≤n→I i s→Ans (body s) (Ei (fun s'=>i<n∧I (i+1) s') Q)):Ans (zH body s) Q:=by
 refine uK I n (fun i s hi hs=>?_) (fun s hs=>?_) h0
 ·obtain⟨x,h1,h2⟩:=h i s (by omega) hs
  rcases x with s'|r
  ·exact .inl ⟨s',h1,h2.2⟩
  ·exact .inr ⟨r,h1,h2⟩
 ·obtain⟨x,h1,h2⟩:=h n s (by omega) hs
  rcases x with s'|r
  ·omega
  ·exact⟨r,h1,h2⟩
theorem Ans.jn{σ ρ:Type}{body:σ→Option (σ⊕ρ)}{Q:ρ→Prop}{s:σ}(h:Ans (body s) (Ei (fun _=>False) Q)):Ans (zH body s) Q:=by
 obtain⟨x,h1,h2⟩:=h;rcases x with s'|r
 ·exact h2.elim
 ·exact⟨r,by rw[yQ,h1],h2⟩
structure Src (s:zE):Prop where
 b:∀i(h:i<s.code.length),0≤s.code[i]∧s.code[i]≤255
 l:s.code.length≤68719476736
 a:0≤s.at_∧s.at_≤s.code.length
 s:0≤s.seed∧s.seed<2147483647
theorem wr{n:Int}(h:0≤n∧n≤255):IntKind.wrap .i64 n=n:=zBZ (by simp[inR];omega)
theorem zHa{m n:Int}(hn:0<n)(hm:0≤m):Ans (xR m n) fun r=>0≤r∧r<n:=by unfold xR;rw[if_neg (by omega)];exact .rt ⟨Int.tmod_nonneg _ hm,Jaa _ hn⟩
theorem yS{s:zE}(hs:Src s){n:Int}(hn:n≤68719476736):Ans (f_g s n) fun r=>Src r.2∧0≤r.1∧(r.1<n∨n≤1∧r.1=0):=by
 have h1:=hs.s;have h2:=hs.a;have hl:=hs.l;unfold f_g;refine .cd (fun h=>.rt ⟨hs,by omega,.inr ⟨by simpa using h,rfl⟩⟩) fun h=>?_
 have hn:1<n:=by simpa using h
 refine .rg (by omega) (.rg (by omega) (.bd (zHa (by omega) (by omega)) fun v hv=>?_));have:wS v 47=dJ (v.tdiv 47):=by
  have h3:=Ja2 hv.1 (show(0:Int)≤47 by omega);have h4:v.tdiv 47≤v:=by rw[G4 hv.1];omega
  unfold wS;rw[if_neg (by omega),zF (by omega) (by omega)]
 rw[this,bs];have h3:=Ja2 hv.1 (show(0:Int)≤47 by omega);have h4:v.tdiv 47≤v:=by rw[G4 hv.1];omega
 have key:∀{x:Int}{s':zE},0≤x→Src s'→Ans ((xR x n).bind fun v=>dJ (v,s')) fun r=>Src r.2∧0≤r.1∧(r.1<n∨n≤1∧r.1=0):=fun hx gQ=>
  .bd (zHa (by omega) hx) fun v hv=>.rt ⟨gQ,hv.1,.inl hv.2⟩
 refine .cd (fun h=>?_) fun h=>?_
 ·have h:s.at_<s.code.length:=by simpa using h
  obtain⟨i,hi⟩:∃i:Nat,s.at_=i:=⟨s.at_.toNat,by omega⟩;have hb:=hs.b i (by omega);rw[hi,zAy (by omega),bs,wr hb];refine .rg (by omega) (.rg (by omega) ?_);have hS:Src (zE.mk s.code (i+1) v):=⟨hs.b,hs.l,by simp only;omega,hv⟩;refine .cd (fun h=>.bd (zHa (by omega) (by omega)) fun w hw=>.cd (fun h=>.rg (by omega) ?_) fun h=>key (by omega) hS) fun h=>key (by omega) hS
  rw[show((i:Int)+1-1)=i from by omega,zAy (by omega),bs,wr hb];exact key hb.1 hS
 ·exact key h3 ⟨hs.b,hs.l,hs.a,hv⟩
theorem zBb{s:zE}(hs:Src s){l:List Int}(h0:0<l.length)(hl:l.length≤1000):Ans (zED s l) fun r=>Src r.2∧r.1∈l:=by
 unfold zED;refine .bd (yS hs (by omega)) fun r hr=>?_
 obtain⟨i,hi⟩:∃i:Nat,r.1=i:=⟨r.1.toNat,by omega⟩;rw[hi,zAy (by omega),bs];exact .rt ⟨hr.1,Ke _⟩
theorem zWW{c:List Int}(hb:∀i(h:i<c.length),0≤c[i]∧c[i]≤255)(hl:c.length≤68719476736):Ans (zRC c) Src:=by
 unfold zRC;refine .bd (P:=fun r=>0≤r∧r<2147483647) (.lp (fun i s=>s.2=i∧0≤s.1∧s.1<2147483647) 64 ⟨rfl,by simp,by simp⟩ fun i s hi hs=>?_) fun r hr=>.rt ⟨hb,hl,⟨Int.le_refl _,by simp only;omega⟩,hr⟩
 unfold zVt;refine .cd (fun h=>.cd (fun h'=>.rg (by omega) ?_) fun _=>.rt hs.2) fun _=>.rt hs.2
 simp only[decide_eq_true_eq]at h h';have:=hb i (by omega);rw[hs.1,zAy (by omega),bs,wr this];refine .rg (by omega) (.bd (zHa (by omega) (by omega)) fun v hv=>.rg (by omega) (.rt ⟨by omega,by simp only;omega,hv⟩))
end Go.Pl

namespace Go.Pl
open Go Go.Ab Go.Wk Go.Pc
theorem zZc{D k:Nat}(hk:k<D)(hD:D≤1000000):zF5 (D:Int) (k:Int)=dJ (uE D k):=zAI hk hD
def trv(os:List Int):SPr:=⟨os,gl os.length fun _=>J1 os.length 0,gl os.length fun i=>gl (os.length-1-i) fun j=>uE os.length (i+1+j)⟩
theorem zAt{os:List Int}(h:os.length≤1000000):f_z os=dJ (trv os):=by
 unfold f_z;rw[xX h,bs];have gJ:∀i:Nat,i<os.length→zH (zRD os) ([],((i+1:Nat):Int))=dJ (gl (os.length-1-i) fun j=>uE os.length (i+1+j)):=fun i hi=>by
  refine zM (fun j=>(gl j fun j=>uE os.length (i+1+j),((i+1+j:Nat):Int))) (os.length-1-i) (fun j hj=>?_) ?_
  ·unfold zRD
   simp only
   rw[yI (by omega),zK,zZc (by omega) h,bs,zP (by rw[yN];simp;omega),bs,zF (by omega) (by omega),bs,cs,xV];rfl
  ·unfold zRD
   simp only
   rw[show decide (((i+1+(os.length-1-i):Nat):Int)<os.length)=dM from by simp;omega,zL]
 have:=zM (body:=zLm os) (r:=((trv os).zJ,(trv os).zB)) (fun i=>(gl i fun _=>J1 os.length 0,(gl i fun i=>gl (os.length-1-i) fun j=>uE os.length (i+1+j)),(i:Int))) os.length (fun i hi=>by
  unfold zLm;simp only
  rw[yI hi,zK,yK (by omega),bs,zP (by rw[yN];simp;omega),bs,zF (by omega) (by omega),bs,cs,gJ i hi,bs,zP (by rw[yN];simp;omega),bs,bs,xV,xV (F:=fun i=>gl (os.length-1-i) fun j=>uE os.length (i+1+j))]) (by
  unfold zLm;simp only
  rw[vR,zL];rfl)
 rw[show zH (zLm os) ([],[],0)=dJ ((trv os).zJ,(trv os).zB)from this,bs];rfl
structure ShF (p:SPr):Prop where
 n:p.zA.length≤6
 pl:p.zJ.length=p.zA.length
 pr:∀v∈p.zJ,v.length=p.zA.length
 cl:p.zB.length=p.zA.length
 c:∀i,i<p.zA.length→(p.zB.getD i []).length≤p.zA.length-1-i
 cr:∀i,i<p.zA.length→ ∀v∈p.zB.getD i [],v.length=p.zA.length
theorem shB.iff{p:SPr}(h:shB p=dL):ShF p:=by simp only[shB,J2,decide_eq_true_eq,beq_iff_eq,K8,Kq]at h;exact⟨h.1.1.1.1,h.1.1.1.2,h.1.1.2,h.1.2,fun i hi=>(h.2 i hi).1,fun i hi=>(h.2 i hi).2⟩
theorem okP.sh{a b:Option SPr}[h:LeC a b](k:okP a=dL):Ans b ShF:=by obtain⟨p,h1,h2⟩:=okP.of (b:=b) k;exact⟨p,h1,shB.iff h2⟩
theorem yAD{os:List Int}(h:os.length≤6):ShF (trv os):=by
 refine⟨h,yN,fun v hv=>?_,yN,fun i hi=>?_,fun i hi v hv=>?_⟩
 ·simp[trv,gl]at hv;rw[←hv.2];simp[trv]
 ·have hi:i<os.length:=hi
  simp[trv,gl,hi]
 ·have hi:i<os.length:=hi
  simp[trv,gl,hi]at hv;obtain⟨_,_,rfl⟩:=hv;exact zU _ _
structure ShC (N:Nat) (c:List (List (List Int))):Prop where
 l:c.length=N
 r:∀i,i<N→(c.getD i []).length=N-1-i
theorem ShC.set{N:Nat}{c:List (List (List Int))}(h:ShC N c){i j:Nat}(hi:i<N){v:List Int}:ShC N (c.set i ((c.getD i []).set j v)):=by
 refine⟨by rw[L8,h.l],fun k hk=>?_⟩;have:=h.l
 by_cases e:k=i
 ·subst e;have:=h.r k hk;grind
 ·have:=h.r k hk;grind
theorem zWX{os:List Int}:ShC os.length (trv os).zB:=⟨yN,fun i hi=>by simp[trv,gl,hi]⟩
theorem zF1{a b:Nat}{v:List Int}(ha:a≤1000)(hb:b≤1000)(hv:v.length≤1000):zNv a v b=dJ (J1 a 0++v++J1 b 0):=by unfold zNv;rw[yK (by omega),bs,zP (by simp;omega),bs];unfold wP;rw[if_pos (by simp;omega),bs];simp
theorem zD1{α:Type}{v:List α}{d:α}{i:Nat}(h:i<v.length):v.getD i d∈v:=by grind
theorem zWY{a b:SPr}(ha:ShF a)(hb:ShF b):Ans (f_J a b) fun p=>p.zA.length≤12:=by
 have h1:=ha.n;have h2:=hb.n;unfold f_J;rw[xX (by omega),bs,zP (by omega),bs,zAt (by rw[J5];omega),bs]
 generalize hN:(a.zA++b.zA).length=N
 have hN':N=a.zA.length+b.zA.length:=by rw[←hN,J5]
 have hC:ShC N (trv (a.zA++b.zA)).zB:=hN▸zWX;have hP:(trv (a.zA++b.zA)).zJ.length=N:=hN▸yN;refine .bd (P:=fun r=>r.1.length=N∧ShC N r.2) (.lp (fun i s=>s.2.2=i∧i≤a.zA.length∧s.1.length=N∧ShC N s.2.1) a.zA.length ⟨rfl,by omega,hP,hC⟩ fun i s hi hs=>?_) fun r hr=>?_
 ·obtain⟨e,_,bt,pe⟩:=hs
  unfold zXP;rw[e];refine .cd (fun h=>?_) fun h=>.rt ⟨bt,pe⟩
  simp only[decide_eq_true_eq]at h;have hv:=ha.pr (a.zJ.getD i []) (zD1 (by have:=ha.pl;omega));rw[zT [] (by have:=ha.pl;omega),bs,show(0:Int)=((0:Nat):Int)from rfl,zF1 (by omega) (by omega) (by omega),bs,zT [] (by omega),bs];have du:=ha.c i (by omega);refine .bd (P:=ShC N) (.lp (fun j t=>t.2=j∧ShC N t.1) (a.zB.getD i []).length ⟨rfl,pe⟩ fun j t hj ht=>?_) fun c hc=>.rg (by omega) (.rt ⟨by omega,by simp only;omega,by omega,by simp only[L8];omega,hc⟩)
  unfold zXO;rw[e,ht.1,zT [] (by have:=ha.cl;omega),bs];refine .cd (fun h=>?_) fun h=>.rt ht.2
  simp only[decide_eq_true_eq]at h;have hv:=ha.cr i (by omega) ((a.zB.getD i []).getD j []) (zD1 (by omega));have hr:=ht.2.r i (by omega);rw[zT [] (by have:=ht.2.l;omega),bs,bs,zT [] (by omega),bs,show(0:Int)=((0:Nat):Int)from rfl,zF1 (by omega) (by omega) (by omega),bs,zT [] (by omega),bs];exact .rg (by omega) (.rt ⟨by omega,by simp only;omega,ht.2.set (by omega)⟩)
 refine .bd (P:=fun r=>True) (.lp (fun i s=>s.2.2=i∧i≤b.zA.length∧s.1.length=N∧ShC N s.2.1) b.zA.length ⟨rfl,by omega,hr⟩ fun i s hi hs=>?_) fun r hr=>.rt (show(trv _).zA.length≤12 by simp only[trv];omega)
 obtain⟨e,_,bt,pe⟩:=hs;unfold zXR;rw[e];refine .cd (fun h=>.rg (by omega) ?_) fun h=>.rt trivial
 simp only[decide_eq_true_eq]at h;have hv:=hb.pr (b.zJ.getD i []) (zD1 (by have:=hb.pl;omega));rw[zT [] (by have:=hb.pl;omega),bs,show(0:Int)=((0:Nat):Int)from rfl,zF1 (by omega) (by omega) (by omega),bs,show(a.zA.length:Int)+(i:Int)=((a.zA.length+i:Nat):Int)from by omega,zT [] (by omega),bs];have du:=hb.c i (by omega);refine .bd (P:=ShC N) (.lp (fun j t=>t.2=j∧ShC N t.1) (b.zB.getD i []).length ⟨rfl,pe⟩ fun j t hj ht=>?_) fun c hc=>.rg (by omega) (.rt ⟨by omega,by simp only;omega,by omega,by simp only[L8];omega,hc⟩)
 unfold zXQ;rw[e,ht.1,zT [] (by have:=hb.cl;omega),bs];refine .cd (fun h=>.rg (by omega) ?_) fun h=>.rt ht.2
 simp only[decide_eq_true_eq]at h;have hv:=hb.cr i (by omega) ((b.zB.getD i []).getD j []) (zD1 (by omega));have hr:=ht.2.r (a.zA.length+i) (by omega);rw[show(a.zA.length:Int)+(i:Int)=((a.zA.length+i:Nat):Int)from by omega,zT [] (by have:=ht.2.l;omega),bs,bs,zT [] (by omega),bs,show(0:Int)=((0:Nat):Int)from rfl,zF1 (by omega) (by omega) (by omega),bs,zT [] (by omega),bs];exact .rg (by omega) (.rt ⟨by omega,by simp only;omega,ht.2.set (by omega)⟩)
theorem zWZ{s:zE}(hs:Src s){p:Int}(hp:p≤1000):Ans (zX9 s p) fun r=>ShF r.1∧Src r.2:=by
 unfold zX9;rw[zAt (by simp),bs];have e:trv [p,p,p]=⟨[p,p,p],[[0,0,0],[0,0,0],[0,0,0]],[[[0,1,0],[0,0,1]],[[0,0,1]],[]]⟩:=rfl;rw[e];have key:∀{x y:List Int}{t:zE},x.length=3→y.length=3→Src t→Ans (dJ ((SPr.mk [p,p,p] [x,y,[0,0,0]] [[[0,1,1],[0,0,1]],[[0,0,1]],[]]),t)) fun r=>ShF r.1∧Src r.2:=fun hx hy ht=>.rt ⟨shB.iff (by simp[shB,hx,hy,Lo]),ht⟩
 rw[show ixO (SPr.mk [p,p,p] [[0,0,0],[0,0,0],[0,0,0]] [[[0,1,0],[0,0,1]],[[0,0,1]],[]]).zB 0=dJ [[0,1,0],[0,0,1]]from rfl,bs,show ixO [[(0:Int),1,0],[0,0,1]] 0=dJ [0,1,0]from rfl,bs];refine .bd (yS hs (by omega)) fun r hr=>.cd (fun _=>.bd (yS hr.1 (by omega)) fun r1 gD=>?_) fun _=>key rfl rfl hr.1
 rw[show ixO (SPr.mk [p,p,p] [[0,0,0],[0,0,0],[0,0,0]] [[[0,1,0],[0,0,1]],[[0,0,1]],[]]).zJ 0=dJ [0,0,0]from rfl,bs];refine .bd (yS gD.1 (by omega)) fun r2 gy=>?_
 rw[show ixO ((SPr.mk [p,p,p] [[0,0,0],[0,0,0],[0,0,0]] [[[0,1,0],[0,0,1]],[[0,0,1]],[]]).zJ.set (0:Int).toNat [0,0,r1.1]) 1=dJ [0,0,0]from rfl,bs];exact key rfl rfl gy.1
theorem zJP{s:zE}(hs:Src s):Ans (zVC s) fun r=>ShF r.1∧Src r.2:=by
 have pair:∀{o:Option SPr}{t:zE},Ans o ShF→Src t→Ans (o.bind fun p=>dJ (p,t)) fun r=>ShF r.1∧Src r.2:=fun h ht=>.bd h fun p hp=>.rt ⟨hp,ht⟩
 unfold zVC;refine .bd (yS hs (by omega)) fun r hr=>.cd (fun _=>.bd (yS hr.1 (by omega)) fun r2 gy=>?_) fun _=>.cd (fun _=>.bd (zBb hr.1 (by simp) (by simp)) fun r2 gy=>?_) fun _=>.cd (fun _=>.bd (zBb hr.1 (by simp) (by simp)) fun r2 gy=>?_) fun _=>
  .cd (fun _=>.bd (zBb hr.1 (by simp) (by simp)) fun r2 gy=>?_) fun _=>.cd (fun _=>.bd (yS hr.1 (by omega)) fun r2 gy=>?_) fun _=>.cd (fun _=>.bd (zBb hr.1 (by simp) (by simp)) fun r2 gy=>?_) fun _=>.cd (fun _=>.bd (yS hr.1 (by omega)) fun r2 gy=>?_) fun _=>.bd (yS hr.1 (by omega)) fun r2 gy=>?_
 ·refine .bd (P:=fun t=>Src ⟨t.1,t.2.1,t.2.2.1⟩∧t.2.2.2.length≤5) (.lp (fun i t=>t.2.2.2.2=r2.1-i∧Src ⟨t.1,t.2.1,t.2.2.1⟩∧t.2.2.2.1.length=i) r2.1.toNat ⟨by simp,gy.1,rfl⟩ fun i t hi ht=>?_) fun t ht=>pair ⟨_,zAt (by omega),yAD (by omega)⟩ ht.1
  unfold zVB;refine .cd (fun h=>.bd (zBb ht.2.1 (by simp) (by simp)) fun r3 ez=>?_) fun h=>.rt ⟨ht.2.1,by simp only;omega⟩
  simp only[decide_eq_true_eq]at h;rw[zP (by simp;omega),bs];exact .rg (by omega) (.rt ⟨by omega,by simp only;omega,ez.1,by simp[ht.2.2]⟩)
 ·refine .bd (P:=fun t=>ShF t.1) ?_ fun t ht=>.rt ⟨ht,gy.1⟩
  have h:=cyc gy.2;cases e:wV r2.1 with
  |none=>rw[e]at h;cases h
  |some x=>exact⟨x,(m_f_spec_CyclicPresentation _).h x e,shB.iff (by rw[e]at h;exact h)⟩
 ·have:r2.1≤12∧3≤r2.1:=by have:=gy.2;simp at this;omega
  exact .rg (by omega) (pair (okP.sh (yDh gy.2)) gy.1)
 ·have:r2.1≤12∧3≤r2.1:=by have:=gy.2;simp at this;omega
  have e:wS r2.1 2=dJ (r2.1.tdiv 2):=by have:=G4 (show 0≤r2.1 by omega) (b:=2);unfold wS;rw[if_neg (by omega),zF (by omega) (by omega)]
  refine .rg (by omega) ?_;rw[e,bs];exact pair (okP.sh (yDi gy.2)) gy.1
 ·have h:=yDj
  simp only[J2]at h;obtain⟨⟨⟨⟨⟨h1,h2⟩,h3⟩,h4⟩,h5⟩,h6⟩:=h;exact .cd (fun _=>pair (okP.sh h1) gy.1) fun _=>.cd (fun _=>pair (okP.sh h2) gy.1) fun _=>.cd (fun _=>pair (okP.sh h3) gy.1) fun _=>.cd (fun _=>pair (okP.sh h4) gy.1) fun _=>.cd (fun _=>pair (okP.sh h5) gy.1) fun _=>pair (okP.sh h6) gy.1
 ·have:r2.1≤5:=by have:=gy.2;simp at this;omega
  exact .bd (zWZ gy.1 (by omega)) fun r hr=>.rt hr
 ·have h:=aff
  simp only[J2]at h;obtain⟨⟨⟨⟨⟨h1,h2⟩,h3⟩,h4⟩,h5⟩,h6⟩:=h;exact .cd (fun _=>pair (okP.sh h1) gy.1) fun _=>.cd (fun _=>pair (okP.sh h2) gy.1) fun _=>.cd (fun _=>pair (okP.sh h3) gy.1) fun _=>.cd (fun _=>pair (okP.sh h4) gy.1) fun _=>.cd (fun _=>pair (okP.sh h5) gy.1) fun _=>pair (okP.sh h6) gy.1
 ·have h:=zTO
  rw[K8]at h;have:=h r2.1.toNat (Kq.2 (by omega));rw[show((r2.1.toNat:Nat):Int)=r2.1 from by omega]at this;exact pair (okP.sh this) gy.1
theorem zMO{s:zE}(hs:Src s){n:Int}:Ans (zVE s n) fun r=>sU r.1∧Src r.2:=by
 unfold zVE;refine .bd (P:=Ei (fun t=>Src ⟨t.1,t.2.1,t.2.2⟩) fun r=>sU r.1∧Src r.2) (.lp (fun i t=>t.2.2.2=i∧Src ⟨t.1,t.2.1,t.2.2.1⟩) 12 ⟨rfl,hs⟩ fun i t hi ht=>?_) fun x hx=>?_
 ·unfold zVD
  refine .cd (fun h=>?_) fun h=>.rt ht.2
  simp only[decide_eq_true_eq]at h;have key:∀{p:SPr}{t':zE},p.zA.length≤12→Src t'→Ans ((f_o p).bind fun r5=>
   cond r5 (
    (f_X p.zA).bind fun r6=>
    cond (decide (r6≤n)) (
     dJ (.inr (.inr (p,t')))) (
     (rng (t.2.2.2+1)).bind fun v7=>
     dJ (.inl (t'.code,t'.at_,t'.seed,v7)))) (
    (rng (t.2.2.2+1)).bind fun v8=>
    dJ (.inl (t'.code,t'.at_,t'.seed,v8)))) (Ei (fun s':(List Int)×Int×Int×Int=>i<12∧s'.2.2.2=((i+1:Nat):Int)∧Src ⟨s'.1,s'.2.1,s'.2.2.1⟩) (Ei (fun t:(List Int)×Int×Int=>Src ⟨t.1,t.2.1,t.2.2⟩) fun r:SPr×zE=>sU r.1∧Src r.2)):=fun{p t'} hp cv=>by
   rcases wX (x:=p) (by omega)with⟨h1,h2⟩|⟨h1,h2⟩
   ·rw[h1,bs,zK,zFa h2.os,bs]
    refine .cd (fun _=>.rt ⟨h2,cv⟩) fun _=>.rg (by omega) (.rt ⟨by omega,by simp only;omega,cv⟩)
   ·rw[h1,bs,zL]
    exact .rg (by omega) (.rt ⟨by omega,by simp only;omega,cv⟩)
  refine .bd (zJP ht.2) fun r1 gD=>.bd (yS gD.2 (by omega)) fun r2 gy=>.cd (fun _=>.bd (zJP gy.1) fun r3 ez=>.bd (zWY gD.1 ez.1) fun r4 aJ=>key aJ ez.2) fun _=>key (p:=r1.1) (by have:=gD.1.n;omega) gy.1
 ·rcases x with t|r
  ·dsimp only
   rw[zAt (by simp),bs];refine .rt ⟨?_,hx⟩;rcases wX (x:=trv [2]) (by simp[trv])with⟨h1,h2⟩|⟨h1,h2⟩
   ·exact h2
   ·have:=(m_f_spec_IsPresentation (trv [2])).h dL (by decide+kernel)
    rw[this]at h1;cases h1
  ·exact .rt hx
end Go.Pl

namespace Go.Pl
open Go Go.Ab Go.Wk Go.Pc
theorem zZd{D:Nat}(hD:D≤1000):f_D (D:Int)=dJ (idM D):=by
 unfold f_D;rw[tI (body:=zIB (D:Int)) D (fun i=>mkv D fun j=>if j=i then 1 else 0) (fun i acc hi ha=>by
  unfold zIB;simp only
  rw[yI hi,zK,yK (by omega),bs,uZ,Kg,if_pos hi,bs,J8,vX,qX,zP (by grind),bs,zF (by omega) (by omega),bs];rfl) (fun acc=>by
  unfold zIB;simp),bs]
 rfl
theorem zTP{x:SPr}{q:Int}{D:Nat}(h6:x.zA.length≤1000)(hD:D≤1000):zRB x q (D:Int)=dJ ⟨q,D,gl x.zA.length fun _=>idM D⟩:=by
 unfold zRB;rw[tI (body:=zJX x (D:Int)) x.zA.length (fun _=>idM D) (fun i acc hi ha=>by
  unfold zJX;simp only
  rw[yI hi,zK,zZd hD,bs,zP (by grind),bs,zF (by omega) (by omega),bs];rfl) (fun acc=>by
  unfold zJX;simp),bs]
theorem zBv{α:Type}{v:List α}{a b:Nat}(h:a≤b)(k:b≤v.length):zQ v (a:Int) (b:Int)=dJ ((v.drop a).take (b-a)):=by unfold zQ;exact if_pos (by omega)
structure DrP (p:SPr):Prop where
 n:p.zA.length≤7
 o:∀o∈p.zA,-100≤o∧o≤100
structure DrM (m:zC):Prop where
 p:-100≤m.Prime∧m.Prime≤100
 d:1≤m.Dim∧m.Dim≤4
 l:m.zG.length≤100
structure DrE (m:zC):Prop where
 p:-100≤m.Prime∧m.Prime≤100
 d:1≤m.Dim∧m.Dim≤3
 l:m.zG.length≤20
 a:∀A∈m.zG,(A.getD 0 []).length≠0
theorem sU.drp{p:SPr}(h:sU p):DrP p:=⟨by have:=h.n6;omega,fun o ho=>by obtain⟨i,hi,rfl⟩:=K6.1 ho;have:=(h.os.2 i hi).pos;rw[at0,J3,J7 hi]at this;simp at this;omega⟩
section
variable {x:SPr} (h:Pres x)
 include h
theorem zCC{i:Nat}(hi:i<x.zA.length):(x.zJ.getD i []).length=x.zA.length:=(h.tl i hi).1.1.1
theorem zD2{i:Nat}(hi:i<x.zA.length):(x.zB.getD i []).length+i+1=x.zA.length:=(h.tl i hi).2.1
theorem zD3{i j:Nat}(hi:i<x.zA.length)(hj:j+i+1<x.zA.length):((x.zB.getD i []).getD j []).length=x.zA.length:=((h.tl i hi).2.2 j (by have:=(h.tl i hi).2.1;omega)).1.1
theorem zTQ{β:Type}{Q:β→Prop}{i j:Nat}{f:List Int→Option β}(hi:i<j)(hj:j<x.zA.length)(k:∀v,v.length=x.zA.length→Ans (f v) Q):
  Ans ((ixO x.zB (i:Int)).bind fun v1=>(rng ((j:Int)-(i:Int))).bind fun v2=>(rng (v2-1)).bind fun v3=>(ixO v1 v3).bind f) Q:=by
 have h6:=h.os.1;rw[zT [] (by have:=h.cl;omega),bs];refine .rg (by omega) (.rg (by omega) ?_);rw[show(j:Int)-(i:Int)-1=((j-i-1:Nat):Int)from by omega,zT [] (by have:=zD2 h (show i<x.zA.length by omega);omega),bs];exact k _ (zD3 h (by omega) (by omega))
theorem zJQ{k:Nat}(hk:k≤x.zA.length):Ans (zVH x k) fun _=>True:=by
 have h6:=h.os.1;unfold zVH;refine .bd (P:=fun _=>True) (.lp (fun i s=>s=i) k rfl fun i s hi hs=>?_) fun r _=>by rcases r with _|_<;>exact .rt trivial
 unfold zVG;refine .cd (fun hl=>?_) fun _=>.rt trivial
 simp only[decide_eq_true_eq]at hl;subst hs;refine .bd (P:=fun _=>True) (.lp (fun j t=>t=((k+j:Nat):Int)) (x.zA.length-k) rfl fun j t hj ht=>?_) fun r _=>by
  rcases r with _|_
  ·exact .rg (by omega) (.rt ⟨by omega,by omega⟩)
  ·exact .rt trivial
 unfold zVF;refine .cd (fun hl=>?_) fun _=>.rt trivial
 simp only[decide_eq_true_eq]at hl;subst ht;refine zTQ h (by omega) (by omega) fun v hv=>?_
 rw[show(0:Int)=((0:Nat):Int)from rfl,zBv (by omega) (by omega),bs];rcases zFY (v:=(v.drop 0).take (k-0)) (by grind)with⟨e,_⟩|⟨e,_⟩
 ·rw[e,bs,Ja,zL];exact .rg (by omega) (.rt ⟨by omega,by omega⟩)
 ·rw[e,bs,Jy,zK];exact .rt trivial
theorem zXa(hx:sU x){k:Nat}(hk:k≤x.zA.length):Ans (zXS x k) fun r=>DrP r.1:=by
 have h6:=h.os.1;have emp:∀{c:Int},Ans (dJ (SPr.mk [] [] [],c)) fun r=>DrP r.1:=.rt ⟨by simp,by simp⟩
 unfold zXS yAW;refine .bd (P:=fun _=>True) (.bd (P:=fun _=>True) ?_ fun r _=>.cd (fun _=>.rt trivial) fun _=>?_) fun r _=>.cd (fun _=>emp) fun _=>.bd (zJQ h hk) fun r _=>.cd (fun _=>emp) fun _=>?_
 ·rcases zHU (x:=x) (by omega)with⟨e,_⟩|⟨e,_⟩<;>exact⟨_,e,trivial⟩
 ·rcases zB6 k 0 x.zA.length with⟨e,_⟩|⟨e,_⟩
  ·rw[e,bs];exact .rt trivial
  ·rw[e,bs];exact .rt trivial
 rw[show(0:Int)=((0:Nat):Int)from rfl,zBv (by omega) (by omega),bs,xX (by grind),bs];refine .bd (P:=fun _=>True) (.lp (fun i s=>s.2.2=i∧s.1.length=i∧s.2.1.length=i) k ⟨rfl,rfl,rfl⟩ fun i s hi hs=>?_) fun r _=>.rt ⟨by have:=hx.n6;simp only;grind,fun o ho=>hx.drp.o o (by grind)⟩
 unfold zQw;refine .cd (fun hl=>?_) fun _=>.rt trivial
 simp only[decide_eq_true_eq]at hl;have:=zCC h (show i<x.zA.length by omega);rw[hs.1,zT [] (by have:=h.pl;omega),bs,show(0:Int)=((0:Nat):Int)from rfl,zBv (by omega) (by omega),bs,xX (by grind),bs,zP (by simp;omega),bs];refine .bd (P:=fun _=>True) (.lp (fun j t=>t.2=j∧t.1.length=j) (k-1-i) ⟨rfl,rfl⟩ fun j t hj ht=>?_) fun r _=>?_
 ·unfold zVI
  rw[hs.1,ht.1];refine .rg (by omega) (.rg (by omega) (.cd (fun hl=>?_) fun _=>.rt trivial));simp only[decide_eq_true_eq]at hl;have hc:=zD2 h (show i<x.zA.length by omega);have hr:=zD3 h (show i<x.zA.length by omega) (show j+i+1<x.zA.length by omega);rw[zT [] (by have:=h.cl;omega),bs,zT [] (by omega),bs,show(0:Int)=((0:Nat):Int)from rfl,zBv (by omega) (by omega),bs,xX (by grind),bs,zP (by simp;omega),bs];exact .rg (by omega) (.rt ⟨by omega,by simp only;omega,by simp[ht.2]⟩)
 ·rw[zP (by simp;omega),bs]
  exact .rg (by omega) (.rt ⟨by omega,by simp only;omega,by simp[hs.2.1],by simp[hs.2.2]⟩)
theorem yAE{i:Nat}(hi:i<x.zA.length):Ans (zH (zVJ x i) ([],0)) fun r=>r.length≤20∧ ∀A∈r,(A.getD 0 []).length≠0:=by
 have h6:=h.os.1;refine .mp (.lp (Q:=fun r=>r.length≤i∧ ∀A∈r,(A.getD 0 []).length≠0) (fun q s=>s.2=q∧s.1.length=q∧q≤i∧ ∀A∈s.1,(A.getD 0 []).length≠0) i ⟨rfl,rfl,by omega,by simp⟩ fun q s hq hs=>?_) fun r hr=>⟨by omega,hr.2⟩
 unfold zVJ;refine .cd (fun hl=>?_) fun _=>.rt ⟨by omega,hs.2.2.2⟩
 simp only[decide_eq_true_eq]at hl;refine .bd (P:=fun A=>(A.getD 0 []).length≠0) (.lp (fun j t=>t.2=((i+j:Nat):Int)∧t.1.length=j∧ ∀v∈t.1,v.length≠0) (x.zA.length-i) ⟨rfl,rfl,by simp⟩ fun j t hj ht=>?_) fun A hA=>?_
 ·unfold yAY
  rw[ht.1,hs.1];refine .cd (fun hl=>?_) fun hl=>.rt ?_
  ·simp only[decide_eq_true_eq]at hl
   refine zTQ h (by omega) (by omega) fun v hv=>?_
   rw[zBv (by omega) (by omega),bs,xX (by grind),bs,zP (by simp;omega),bs];exact .rg (by omega) (.rt ⟨by omega,by simp only;omega,by simp[ht.2.1],by grind⟩)
  ·simp only[decide_eq_false_iff_not]at hl
   exact ht.2.2 _ (zD1 (by omega))
 ·rw[zP (by simp;omega),bs]
  exact .rg (by omega) (.rt ⟨by omega,by simp only;omega,by simp[hs.2.1],by omega,by grind⟩)
end
end Go.Pl

namespace Go.Pl
open Go Go.Ab Go.Wk Go.Pc
theorem zTR{s:zE}{x:SPr}(hs:Src s)(hx:sU x):Ans (f_m s x) fun r=>Src r.2.2.2∧(r.2.2.1=dL→DrP r.1∧DrE r.2.1):=by
 have h6:=hx.n6;have h:=hx.toPres;unfold f_m;have all:∀{i:Nat}{b:Bool},i<x.zA.length→Ans (zH (zXV x i) (b,(i:Int))) fun _=>True:=fun{i b} hi=>by
  refine .lp (fun q t=>t.2=((i+q:Nat):Int)) (x.zA.length-i) rfl fun q t hq ht=>?_
  unfold zXV;rw[ht];refine .cd (fun hl=>?_) fun _=>.rt trivial
  simp only[decide_eq_true_eq]at hl;refine .bd (P:=fun _=>True) (.jn ?_) fun b _=>.rg (by omega) (.bd (P:=fun _=>True) ?_ fun _ _=>.rg (by omega) (.rt ⟨by omega,by simp only;omega⟩))
  ·unfold zXU
   rw[ht];refine .cd (fun _=>?_) fun _=>.rt trivial
   rw[yF (by omega),bs,yF hi,bs];refine .cd (fun _=>?_) fun _=>.rt trivial
   rw[zT [] (by have:=h.pl;omega),bs];rcases zFY (v:=x.zJ.getD (i+q) []) (by have:=zCC h (show i+q<x.zA.length by omega);omega)with⟨e,_⟩|⟨e,_⟩<;>(rw[e,bs];exact .rt trivial)
  ·refine .lp (fun q' t=>t.2=((i+q+1+q':Nat):Int)) (x.zA.length-(i+q+1)) rfl fun q' t' hq' cv=>?_
   unfold yAX;rw[cv,ht];refine .cd (fun hl=>?_) fun _=>.rt trivial
   simp only[decide_eq_true_eq]at hl;refine .cd (fun _=>zTQ h (by omega) (by omega) fun v hv=>?_) fun _=>.rg (by omega) (.rt ⟨by omega,by simp only;omega⟩)
   rw[zZc (by omega) (by omega),bs,zFT (by omega),bs];exact .rg (by omega) (.rt ⟨by omega,by simp only;omega⟩)
 refine .bd (P:=Ei (fun t=>Src ⟨t.1,t.2.1,t.2.2⟩) fun r=>Src r.2.2.2∧(r.2.2.1=dL→DrP r.1∧DrE r.2.1)) (.lp (fun q t=>t.2.2.2=((1+q:Nat):Int)∧Src ⟨t.1,t.2.1,t.2.2.1⟩) 3 ⟨rfl,hs⟩ fun q t hq ht=>?_) fun y hy=>?_
 ·unfold yAZ
  refine .bd (P:=fun b=>b=dL→1+q<x.zA.length∧q<3) (.jn ?_) fun b hb=>.cd (fun e=>?_) fun _=>.rt ht.2
  ·unfold zXT
   rw[ht.1];refine .cd (fun hl=>.rt fun e=>?_) fun _=>.rt fun e=>by cases e
   simp only[decide_eq_true_eq]at hl e;omega
  obtain⟨hl,hq3⟩:=hb e;rw[ht.1];refine .rg (by omega) ?_;rw[show(x.zA.length:Int)-((1+q:Nat):Int)=((x.zA.length-(1+q):Nat):Int)from by omega]
  generalize hi:x.zA.length-(1+q)=i
  refine .bd (zJQ h (by omega)) fun b _=>.bd (all (by omega)) fun b _=>.bd (P:=fun r=>Src ⟨r.1,r.2.1,r.2.2.1⟩) (.jn ?_) fun u hu=>.cd (fun _=>?_) fun _=>.rg (by omega) (.rt ⟨by omega,by simp only;omega,hu⟩)
  ·unfold zXW
   exact .cd (fun _=>.cd (fun _=>.rt ht.2) fun _=>.bd (yS ht.2 (by omega)) fun r hr=>.cd (fun _=>.rt hr.1) fun _=>.rg (by omega) (.rt hr.1)) fun _=>.rt ht.2
  refine .bd (zXa h hx (by omega)) fun r hr=>?_
  rw[yF (by omega),bs];refine .bd (yAE h (by omega)) fun A hA=>.rt ⟨hu,fun _=>⟨hr,?_,⟨by simp only;omega,by simp only;omega⟩,hA.1,hA.2⟩⟩
  have:=(h.os.2 i (by omega)).pos;exact⟨by simp only;omega,by simp only;omega⟩
 ·rcases y with t|r
  ·exact .rt ⟨hy,fun e=>by cases e⟩
  ·exact .rt hy
structure AL (n D:Nat) (c:List (List (List Int))):Prop where
 l:c.length=n
 d:∀i,i<n→(c.getD i []).length=D∧ ∀j,j<D→((c.getD i []).getD j []).length=D
theorem AL.set{n D:Nat}{c:List (List (List Int))}(h:AL n D c){i j k:Nat}{z:Int}(hi:i<n)(hj:j<D):AL n D (c.set i ((c.getD i []).set j (((c.getD i []).getD j []).set k z))):=by
 have hn:=h.l;refine⟨by rw[L8,hn],fun q hq=>?_⟩
 by_cases e:q=i
 ·subst e
  have:=h.d q hq;rw[show(c.set q ((c.getD q []).set j (((c.getD q []).getD j []).set k z))).getD q []=(c.getD q []).set j (((c.getD q []).getD j []).set k z)from by grind];refine⟨by rw[L8,this.1],fun w hw=>?_⟩
  by_cases e:w=j
  ·subst e;have:=this.2 w hw;grind
  ·have:=this.2 w hw;grind
 ·have:=h.d q hq;grind
theorem zTS{n D:Nat}:AL n D (gl n fun _=>idM D):=⟨yN,fun i hi=>by rw[show(gl n fun _=>idM D).getD i []=idM D from by simp[gl,hi]];exact⟨by simp[idM],fun j hj=>by simp[idM,hj,mkv]⟩⟩
theorem AL.dre{n D:Nat}{q:Int}{c:List (List (List Int))}(h:AL n D c)(hn:n≤7)(h1:1≤D)(h3:D≤3)(hq:-100≤q∧q≤100):DrE ⟨q,D,c⟩:=⟨hq,⟨by simp only;omega,by simp only;omega⟩,by have:=h.l;simp only;omega,fun A hA=>by
 obtain⟨i,hi,rfl⟩:=K6.1 hA;have:=(h.d i (by rw[←h.l];exact hi)).2 0 (by omega);rw[show c.getD i []=c[i]from by grind]at this;exact fun e=>by have e:(c[i].getD 0 []).length=0:=e;omega⟩
end Go.Pl

namespace Go.Pl
open Go Go.Ab Go.Wk Go.Pc
section
variable {x:SPr}{D:Nat}
theorem zXb{r6:(List Int)×Int×Int×Int}{d r:Int×zE}{m:zC}{i:Nat}{n:Nat}(hm:m.Dim=(D:Int))(hi:r.1=(i:Int))(gJ:i<n)(hq:-100≤r6.2.2.2∧r6.2.2.2≤100)(hD:D≤3)(hs:Src r.2)(ha:AL n D m.zG):
  Ans (zH (zYb r6 m r) (r.2.code,r.2.at_,r.2.seed,m.zG,0)) fun t=>Src ⟨t.1,t.2.1,t.2.2.1⟩∧AL n D t.2.2.2:=by
 have _:=d;refine .lp (fun k t=>t.2.2.2.2=k∧Src ⟨t.1,t.2.1,t.2.2.1⟩∧AL n D t.2.2.2.1) D ⟨rfl,hs,ha⟩ fun k t hk ht=>?_
 unfold zYb;rw[ht.1,hi];refine .cd (fun hl=>?_) fun _=>.rt ht.2
 simp only[decide_eq_true_eq,hm]at hl;have h1:=ht.2.2.d i gJ;have h2:=h1.2 k (by omega);rw[zT [] (by have:=ht.2.2.l;omega),bs,zT [] (by omega),bs];refine .rg (by omega) (.bd (yS ht.2.1 (by omega)) fun r1 gD=>.rg (by omega) ?_);rw[yF (by omega),bs];have te:AL n D (t.2.2.2.1.set (i:Int).toNat ((t.2.2.2.1.getD i []).set (k:Int).toNat (((t.2.2.2.1.getD i []).getD k []).set (k:Int).toNat (1+r1.1)))):=ht.2.2.set gJ (by omega)
 generalize t.2.2.2.1.set (i:Int).toNat ((t.2.2.2.1.getD i []).set (k:Int).toNat (((t.2.2.2.1.getD i []).getD k []).set (k:Int).toNat (1+r1.1)))=c at te ⊢
 refine .bd (P:=fun u=>Src ⟨u.1,u.2.1,u.2.2.1⟩∧(u.2.2.2=dL→0<k)) (.jn ?_) fun u hu=>.cd (fun eA=>?_) fun _=>.rg (by omega) (.rt ⟨by omega,by simp only;omega,hu.1,te⟩)
 ·unfold zYa
  rw[ht.1];refine .cd (fun eA=>.bd (yS gD.1 (by omega)) fun r2 gy=>.rt ⟨gy.1,fun _=>?_⟩) fun _=>.rt ⟨gD.1,fun e=>by cases e⟩
  simp only[decide_eq_true_eq]at eA;omega
 have eA:=hu.2 eA;have h3:=te.d i gJ;have h4:=h3.2 k (by omega);rw[zT [] (by have:=te.l;omega),bs,zT [] (by omega),bs];refine .rg (by omega) (.bd (yS hu.1 (by omega)) fun r3 ez=>?_);rw[show(k:Int)-1=((k-1:Nat):Int)from by omega,yF (by omega),bs];exact .rg (by omega) (.rt ⟨by omega,by simp only;omega,ez.1,te.set gJ (by omega)⟩)
theorem zTT{r6:(List Int)×Int×Int×Int}{s:zE}{m:zC}(hx:sU x)(hq:-100≤r6.2.2.2∧r6.2.2.2≤100)(hs:Src s)(hm:DrE m):Ans ((zH (zYc x r6) (s.code,s.at_,s.seed,m.Prime,m.Dim,m.zG,0)).bind fun r33=>
     match r33 with
     |(.inl r33)=>
      dJ ((zC.mk r33.2.2.2.1 r33.2.2.2.2.1 r33.2.2.2.2.2),(zE.mk r33.1 r33.2.1 r33.2.2.1))
     |(.inr r33)=>
      dJ r33) fun r=>Src r.2∧DrE r.1:=by
 refine .bd (P:=Ei (fun t=>Src ⟨t.1,t.2.1,t.2.2.1⟩∧DrE ⟨t.2.2.2.1,t.2.2.2.2.1,t.2.2.2.2.2⟩) fun r=>Src r.2∧DrE r.1) (.lp (fun i t=>t.2.2.2.2.2.2=i∧Src ⟨t.1,t.2.1,t.2.2.1⟩∧DrE ⟨t.2.2.2.1,t.2.2.2.2.1,t.2.2.2.2.2.1⟩) 8 ⟨rfl,hs,hm⟩ fun i t hi ht=>?_) fun y hy=>?_
 ·unfold zYc
  refine .cd (fun hl=>.bd (yS ht.2.1 (by omega)) fun r1 gD=>.rg (by omega) ?_) fun _=>.rt ht.2
  simp only[decide_eq_true_eq]at hl;have h6:=hx.n6;obtain⟨D,hD⟩:∃D:Nat,1+r1.1=(D:Int):=⟨(1+r1.1).toNat,by omega⟩;rw[hD,zTP (by omega) (by omega),bs];refine .bd (yS gD.1 (by omega)) fun r2 gy=>.cd (fun _=>.rt ⟨gy.1,ht.2.2⟩) fun pP=>?_
  simp only[decide_eq_false_iff_not]at pP;obtain⟨k,hk⟩:∃k:Nat,r2.1=(k:Int):=⟨r2.1.toNat,by omega⟩;refine .bd (zXb (d:=r2) (n:=x.zA.length) rfl hk (by omega) hq (by omega) gy.1 zTS) fun t' cv=>?_
  have a7:=cv.2.dre (q:=r6.2.2.2) (by omega) (by omega) (by omega) hq;rcases zIc (m:=⟨r6.2.2.2,D,t'.2.2.2⟩) hx.toPres with⟨e,_⟩|⟨e,_⟩
  ·rw[e,bs,zK];exact .rg (by omega) (.rt ⟨by omega,by simp only;omega,cv.1,a7⟩)
  ·rw[e,bs,zL];exact .rg (by omega) (.rt ⟨by omega,by simp only;omega,cv.1,ht.2.2⟩)
 ·rcases y with t|r
  ·exact .rt hy
  ·exact .rt hy
end
theorem zQe{s:zE}{x:SPr}(hs:Src s)(hx:DrP x):Ans (f_v s x) fun r=>Src r.2∧DrE r.1:=by
 have h7:=hx.n;unfold f_v;refine .bd (zBb hs (by simp) (by simp)) fun r1 gD=>?_
 have hq:-100≤r1.1∧r1.1≤100:=by have:=gD.2;simp at this;omega
 refine .bd (P:=fun t=>Src ⟨t.1,t.2.1,t.2.2.1⟩∧ -100≤t.2.2.2∧t.2.2.2≤100) (.jn ?_) fun t ht=>.bd (yS ht.1 (by omega)) fun r2 gy=>.rg (by omega) ?_
 ·unfold zXY
  refine .bd (P:=fun u=>Src ⟨u.1,u.2.1,u.2.2.1⟩∧(u.2.2.2=dL→0<x.zA.length)) (.jn ?_) fun u hu=>.cd (fun e=>.bd (yS hu.1 (by omega)) fun r3 ez=>?_) fun _=>.rt ⟨hu.1,hq⟩
  ·unfold zXX
   refine .cd (fun hl=>.bd (yS gD.1 (by omega)) fun r2 gy=>.rt ⟨gy.1,fun _=>?_⟩) fun _=>.rt ⟨gD.1,fun e=>by cases e⟩
   simp only[decide_eq_true_eq]at hl;omega
  ·have hl:=hu.2 e
   obtain⟨k,hk⟩:∃k:Nat,r3.1=(k:Int):=⟨r3.1.toNat,by omega⟩;rw[hk,yF (by omega),bs];exact .rt ⟨ez.1,hx.o _ (zD1 (by omega))⟩
 obtain⟨D,hD⟩:∃D:Nat,1+r2.1=(D:Int):=⟨(1+r2.1).toNat,by omega⟩;rw[hD,zTP (by omega) (by omega),bs];have a7:=(zTS (n:=x.zA.length) (D:=D)).dre (q:=t.2.2.2) h7 (by omega) (by omega) ht.2;refine .bd (P:=fun u=>Src ⟨u.1,u.2.1,u.2.2.1⟩∧(u.2.2.2=dM→sU x)) (.jn ?_) fun u hu=>.cd (fun _=>.rt ⟨hu.1,a7⟩) fun e=>zTT (hu.2 e) ht.2 hu.1 a7
 unfold zXZ;refine .bd (yS gy.1 (by omega)) fun r3 ez=>.cd (fun _=>.rt ⟨ez.1,fun e=>by cases e⟩) fun _=>?_
 rcases wX (x:=x) (by omega)with⟨e,h⟩|⟨e,_⟩
 ·rw[e,bs];exact .rt ⟨ez.1,fun _=>h⟩
 ·rw[e,bs];exact .rt ⟨ez.1,fun e=>by cases e⟩
theorem yDk{x:SPr}(hx:sU x):zNw x=dJ x:=by
 have h6:=hx.n6;unfold zNw;rw[xX (by omega),bs,zGb (by have:=hx.pl;omega) (fun i hi=>by have:=zCC hx.toPres (show i<x.zA.length by have:=hx.pl;omega);omega),bs];rw[tI (body:=zGA x) x.zB.length (fun i=>x.zB.getD i []) (fun i acc hi ha=>by
  have hH:i<x.zA.length:=by have:=hx.cl;omega
  have hc:=zD2 hx.toPres hH;have:=hx.cl;unfold zGA;simp only
  rw[yI hi,zK,zT [] hi,bs,zGb (by omega) (fun j hj=>by have:=zD3 hx.toPres hH (show j+i+1<x.zA.length by omega);omega),bs,zP (by simp;omega),bs,zF (by omega) (by omega),bs,cs]) (fun acc=>by
  unfold zGA;simp),bs]
 congr 2
 exact Hj (by simp) fun i h1 h2=>by simp at h1 ⊢;grind
theorem zF2{o:List Int}{p:List (List Int)}{c:List (List (List Int))}(h:o.length≤7)(k:∀x∈o,-100≤x∧x≤100):DrP ⟨o,p,c⟩:=⟨h,k⟩
theorem zXc{s:zE}{x:SPr}(hs:Src s)(hx:sU x):Ans (zYd s x) fun r=>DrP r.1∧Src r.2:=by
 have h6:=hx.n6;have ho:=hx.drp.o;have h7:=hx.drp.n;have fW:=hx.pl;have gA:=hx.cl;unfold zYd;rw[yDk hx,bs];refine .bd (yS hs (by omega)) fun r hr=>.cd (fun _=>?_) fun _=>.cd (fun _=>.cd (fun hl=>.bd (zBb hr.1 (by simp) (by simp)) fun r1 gD=>?_) fun _=>.rt ⟨hx.drp,hr.1⟩) fun _=>.cd (fun _=>.cd (fun hl=>?_) fun _=>.rt ⟨hx.drp,hr.1⟩) fun _=>
  .cd (fun _=>.cd (fun hl=>?_) fun _=>.rt ⟨hx.drp,hr.1⟩) fun _=>.cd (fun _=>.cd (fun hl=>?_) fun _=>.rt ⟨hx.drp,hr.1⟩) fun _=>?_
 ·rw[zP (by simp;omega),bs]
  refine .rt ⟨zF2 (by simp;omega) fun y hy=>?_,hr.1⟩;rcases Jf.1 hy with hy|hy
  ·exact ho y hy
  ·simp at hy;omega
 ·simp only[decide_eq_true_eq]at hl
  rw[show(0:Int)=((0:Nat):Int)from rfl,yF (by omega),bs];refine .rt ⟨zF2 (by simpa using h7) fun y hy=>?_,gD.1⟩;rcases List.mem_or_eq_of_mem_set hy with hy|hy
  ·exact ho y hy
  ·have:=gD.2;simp at this;omega
 ·simp only[decide_eq_true_eq]at hl
  have:=zCC hx.toPres (show 0<x.zA.length by omega);rw[show(0:Int)=((0:Nat):Int)from rfl,zT [] (by omega),bs,xX (by omega),bs,zP (by rw[Jm];omega),bs,bs];exact .rt ⟨zF2 h7 ho,hr.1⟩
 ·simp only[decide_eq_true_eq]at hl
  have:=zCC hx.toPres (show 0<x.zA.length by omega);rw[show(0:Int)=((0:Nat):Int)from rfl,zT [] (by omega),bs];refine .cd (fun _=>?_) fun _=>.rt ⟨hx.drp,hr.1⟩
  rw[bs,yF (by omega),bs];exact .rt ⟨zF2 h7 ho,hr.1⟩
 ·simp only[decide_eq_true_eq]at hl
  have hc:=zD2 hx.toPres (show 0<x.zA.length by omega);rw[show(0:Int)=((0:Nat):Int)from rfl,zT [] (by omega),bs,zGb (by omega) (fun j hj=>by have:=zD3 hx.toPres (show 0<x.zA.length by omega) (show j+0+1<x.zA.length by omega);omega),bs,yK (by omega),bs,zP (by rw[Jm];omega),bs,bs];exact .rt ⟨zF2 h7 ho,hr.1⟩
 ·rw[zAt (by simp),bs]
  refine .bd (yS hr.1 (by omega)) fun r1 gD=>.cd (fun _=>?_) fun _=>.rt ⟨zF2 (by simp) (by simp),gD.1⟩
  rw[zAt (by simp),bs];exact .rt ⟨zF2 (by simp) (by simp),gD.1⟩
theorem zQf{s:zE}{x:SPr}(hs:Src s)(hx:sU x):Ans (zVK s x) fun r=>DrP r.1∧Src r.2:=by
 have h6:=hx.n6;have ho:=hx.drp.o;have h7:=hx.drp.n;have fW:=hx.pl;have gA:=hx.cl;unfold zVK;rw[yDk hx,bs];refine .bd (yS hs (by omega)) fun r hr=>.rg (by omega) (.rg (by omega) (.rg (by omega) (.bd (yS hr.1 (by omega)) fun r1 gD=>.rg (by omega) (.cd (fun _=>.rt ⟨hx.drp,gD.1⟩) fun hl=>.bd (yS gD.1 (by omega)) fun r2 gy=>?_))))
 simp only[decide_eq_false_iff_not]at hl;obtain⟨i,hi⟩:∃i:Nat,r.1=i:=⟨r.1.toNat,by omega⟩;obtain⟨j,hj⟩:∃j:Nat,r.1+1+r1.1=j:=⟨(r.1+1+r1.1).toNat,by omega⟩;rw[hj,hi];have aZ:=(hx.os.2 j (by omega)).pos;refine .cd (fun _=>?_) fun _=>.rg (by omega) (.rg (by omega) (.rg (by omega) (.bd (yS gy.1 (by omega)) fun r3 ez=>.rg (by omega) ?_)))
 ·have:=zCC hx.toPres (show i<x.zA.length by omega)
  rw[zT [] (by omega),bs,yF (by omega),bs];refine .bd (yS gy.1 (by omega)) fun r3 ez=>?_
  rw[yF (by omega),bs];exact .rt ⟨zF2 h7 ho,ez.1⟩
 ·obtain⟨k,hk⟩:∃k:Nat,(i:Int)+1+r3.1=k:=⟨((i:Int)+1+r3.1).toNat,by omega⟩
  rw[hk];have hc:=zD2 hx.toPres (show i<x.zA.length by omega);have hr:=zD3 hx.toPres (show i<x.zA.length by omega) (show k-i-1+i+1<x.zA.length by omega);rw[zT [] (by omega),bs];refine .rg (by omega) (.rg (by omega) ?_);rw[show(k:Int)-i-1=((k-i-1:Nat):Int)from by omega,zT [] (by omega),bs,yF (by omega),bs];refine .bd (yS ez.1 (by omega)) fun r4 aJ=>?_
  rw[yF (by omega),bs];exact .rt ⟨zF2 h7 ho,aJ.1⟩
theorem zXd{s:zE}(hs:Src s){n:Int}:Ans (zOA s n) fun r=>DrP r.1∧Src r.2:=by unfold zOA;refine .bd (zMO hs) fun r hr=>.bd (yS hr.2 (by omega)) fun r1 gD=>.cd (fun _=>.bd (zXc gD.1 hr.1) fun r2 gy=>.rt gy) fun _=>.cd (fun _=>.cd (fun _=>.bd (zQf gD.1 hr.1) fun r2 gy=>.rt gy) fun _=>.rt ⟨hr.1.drp,gD.1⟩) fun _=>.cd (fun _=>.bd (zQf gD.1 hr.1) fun r2 gy=>.rt gy) fun _=>.rt ⟨hr.1.drp,gD.1⟩
theorem DrE.drm{m:zC}(h:DrE m):DrM m:=⟨h.p,by have:=h.d;omega,by have:=h.l;omega⟩
theorem zTU{s:zE}(hs:Src s){n:Int}:Ans (zYe s n) fun r=>DrP r.1∧DrM r.2.1∧Src r.2.2:=by
 have fin:∀{s:zE}{x:SPr}{m:zC},Src s→DrP x→DrE m→Ans (
   (f_g s 30).bind fun r4=>
   cond (r4.1==0) (
    (rng (m.Dim+1)).bind fun v5=>
    dJ (x,(zC.mk m.Prime v5 m.zG),r4.2)) (
    cond (r4.1==1) (
     (zED r4.2 [2,3,4,11]).bind fun r6=>
     dJ (x,(zC.mk r6.1 m.Dim m.zG),r6.2)) (
     cond (r4.1==2) (
      (f_D m.Dim).bind fun r7=>
      (zZ m.zG [r7]).bind fun v8=>
      dJ (x,(zC.mk m.Prime m.Dim v8),r4.2)) (
      cond (r4.1==3) (
       (zOA r4.2 n).bind fun r9=>
       dJ (r9.1,m,r9.2)) (
       cond (r4.1==4) (
        cond (decide ((m.zG.length:Int)> 0)) (
         (ixO m.zG 0).bind fun v10=>
         (ixO v10 0).bind fun v11=>
         (f_g r4.2 m.Prime).bind fun r12=>
         (ixO v11 0).bind fun _=>
         dJ (x,(zC.mk m.Prime m.Dim (m.zG.set (0:Int).toNat (v10.set (0:Int).toNat (v11.set (0:Int).toNat r12.1)))),r12.2)) (
         dJ (x,m,r4.2))) (
        dJ (x,m,r4.2))))))) fun r=>DrP r.1∧DrM r.2.1∧Src r.2.2:=fun{s x m} hs hx hm=>by
  have hp:=hm.p;have hd:=hm.d;have hl:=hm.l;refine .bd (yS hs (by omega)) fun r hr=>.cd (fun _=>.rg (by omega) (.rt ⟨hx,⟨hp,by simp only;omega,by simp only;omega⟩,hr.1⟩)) fun _=>.cd (fun _=>.bd (zBb hr.1 (by simp) (by simp)) fun r1 gD=>.rt ⟨hx,⟨by have:=gD.2;simp at this;simp only;omega,by simp only;omega,by simp only;omega⟩,gD.1⟩) fun _=>
   .cd (fun _=>?_) fun _=>.cd (fun _=>.bd (zXd hr.1) fun r1 gD=>.rt ⟨gD.1,hm.drm,gD.2⟩) fun _=>.cd (fun _=>.cd (fun hl=>?_) fun _=>.rt ⟨hx,hm.drm,hr.1⟩) fun _=>.rt ⟨hx,hm.drm,hr.1⟩
  ·obtain⟨D,hD⟩:∃D:Nat,m.Dim=(D:Int):=⟨m.Dim.toNat,by omega⟩
   rw[hD,zZd (by omega),bs,zP (by simp;omega),bs];exact .rt ⟨hx,⟨hp,by simp only;omega,by simp;omega⟩,hr.1⟩
  ·simp only[decide_eq_true_eq]at hl
   have h0:=hm.a (m.zG.getD 0 []) (zD1 (by omega));have h1:0<(m.zG.getD 0 []).length:=by
    rcases Jaz (m.zG.getD 0 []).length with e|e
    ·exact absurd (by rw[List.length_eq_zero_iff.1 e];rfl) h0
    ·exact e
   rw[show(0:Int)=((0:Nat):Int)from rfl,zT [] (by omega),bs,zT [] (by omega),bs];refine .bd (yS hr.1 (by omega)) fun r1 gD=>?_
   rw[yF (by omega),bs];exact .rt ⟨hx,⟨hp,by simp only;omega,by simp;omega⟩,gD.1⟩
 unfold zYe;refine .bd (zMO hs) fun r hr=>.bd (zTR hr.2 hr.1) fun r1 gD=>.cd (fun e=>.bd (yS gD.1 (by omega)) fun r2 gy=>.cd (fun _=>fin gy.1 (gD.2 e).1 (gD.2 e).2) fun _=>.bd (zQe gy.1 hr.1.drp) fun r3 ez=>fin ez.1 hr.1.drp ez.2) fun _=>.bd (zQe gD.1 hr.1.drp) fun r3 ez=>fin ez.1 hr.1.drp ez.2
end Go.Pl

namespace Go.Pl
open Go Go.Ab Go.Wk Go.Pc
abbrev VU(n:Int):Prop:=(Lit.int .u8 n).wf=dL
theorem vu{c:List Int}(h:VL VU c)(i:Nat)(hi:i<c.length):0≤c[i]∧c[i]≤255:=by have:=h.2 c[i] (Ke hi);simp only[VU,Lit.wf,J2,IntKind.min,IntKind.max,IntKind.signed,IntKind.bits]at this;simpa using this
theorem yAF{c:List Int}:zVs c=dJ (decide ((c.length:Int)> 4096)):=rfl
theorem zMP{α:Type}{c:List Int}{P:α→Prop}{o:Option α}{k:α→Option Bool}(hb:∀i(h:i<c.length),0≤c[i]∧c[i]≤255)(ho:(∀s,Src s→zRC c=dJ s→Ans o P))(hk:∀r,P r→k r=dJ dL):
  ((zVs c).bind fun r1=>cond r1 (dJ dL) (o.bind k))=dJ dL:=by
 rw[yAF,bs]
 by_cases h:(c.length:Int)> 4096
 ·rw[dP h,zK]
 ·rw[dO h,zL]
  obtain⟨s,h1,h2⟩:=zWW hb (by omega);obtain⟨r,h3,h4⟩:=ho s h2 h1;rw[h3,bs];exact hk r h4
end Go.Pl

namespace Go.Pl
open Go Go.Ab Go.Wk Go.Pc
theorem zG8{a b:List Int}(h:a.length≤1000000):zVP a b=dJ (a==b):=zFT h
theorem zD4{A B:Mx}(hA:A.length≤1000000)(h:∀r∈A,r.length≤1000000):zOB A B=dJ (A==B):=
 zMc (t:=zVP) (body:=zVQ A B) rfl (fun _=>rfl) (by omega) (by grind[zG8])
end Go.Pl

namespace Go.Pl
open Go Go.Ab Go.Wk Go.Pc
structure IsM (x:SPr) (m:zC) (D:Nat):Prop where
 gr:zBo x
 ok:MOk x.zA.length m D
 rel:zCe x m D
section
variable {x:SPr}{m:zC}{D:Nat} (h:IsM x m D)
 include h
theorem IsM.sp:zMW x m=dJ dL:=by
 have h6:=h.gr.1.os.1;rcases zBI (x:=x) (m:=m) (by omega)with⟨e,_⟩|⟨_,k⟩
 ·exact e
 ·exact absurd ⟨h.gr,D,h.ok,h.rel⟩ k
theorem IsM.im:f_P x m=dJ dL:=by
 have h6:=h.gr.1.os.1;have:=h.ok.len;rcases zBJ (x:=x) (m:=m) (by omega) (by omega)with⟨e,_⟩|⟨_,k⟩
 ·exact e
 ·exact absurd ⟨h.gr,D,h.ok,h.rel⟩ k
end
end Go.Pl

namespace Go.Pl
open Go Go.Ab Go.Wk Go.Pc
theorem zQg{s:zE}{m:zC}(hs:Src s)(hm:DrM m):Ans (zRI s m) fun r=>Src r.2∧r.1.length≤100∧r.1.length≠0:=by
 have hd:=hm.d;have hp:=hm.p;unfold zRI;refine .bd (P:=fun t=>Src ⟨t.1,t.2.1,t.2.2.1⟩∧t.2.2.2.length≤10∧t.2.2.2.length≠0) (.lp (fun i t=>t.2.2.2.2=i∧Src ⟨t.1,t.2.1,t.2.2.1⟩∧t.2.2.2.1.length=i) m.Dim.toNat ⟨rfl,hs,rfl⟩ fun i t hi ht=>?_) fun t ht=>.bd (yS ht.1 (by omega)) fun r hr=>.cd (fun _=>?_) fun _=>.rt ⟨hr.1,by simp only;omega,ht.2.2⟩
 ·unfold zVL
  refine .cd (fun hl=>.bd (yS ht.2.1 (by omega)) fun r hr=>?_) fun hl=>.rt ⟨ht.2.1,by simp only;omega,by simp only[decide_eq_false_iff_not]at hl;simp only;omega⟩
  simp only[decide_eq_true_eq]at hl;rw[zP (by simp;omega),bs];exact .rg (by omega) (.rt ⟨by omega,by simp only;omega,hr.1,by simp[ht.2.2]⟩)
 ·rw[zP (by simp;omega),bs]
  exact .rt ⟨hr.1,by simp;omega,by simp⟩
theorem zGj{x:SPr}{m:zC}(hx:DrP x)(hm:DrM m):(∃D,IsM x m D)∨(zMW x m=dJ dM∧f_P x m=dJ dM):=by
 have hn:=hx.n;have hl:=hm.l;rcases(zBI (x:=x) (m:=m) (by omega)).both (zBJ (by omega) (by omega))with⟨_,_,c,D,hD,hr⟩|⟨s1,i1,_⟩
 ·exact .inl ⟨D,c,hD,hr⟩
 ·exact .inr ⟨s1,i1⟩
end Go.Pl

namespace Go.Pl
open Go Go.Ab Go.Wk Go.Pc
theorem zTV{x:SPr}(hx:DrP x):∃k:Nat,zLj x=dJ (k:Int)∧k≤28:=by
 have hn:=hx.n;have key:∀n:Nat,n<8→((rng ((n:Int)-1)).bind fun v1=>(rng ((n:Int)*v1)).bind fun v2=>(wS v2 2).bind fun v3=>(rng ((n:Int)+v3)).bind fun v4=>dJ v4)=dJ (((n*(n+1)/2:Nat)):Int)∧n*(n+1)/2≤28:=by decide+kernel
 exact⟨_,(key x.zA.length (by omega)).1,(key x.zA.length (by omega)).2⟩
theorem zTW{s:zE}(hs:Src s):Ans (zYf s) fun r=>DrP r.1∧DrM r.2.1∧Src r.2.2:=by
 unfold zYf;refine .bd (zBb hs (by simp) (by simp)) fun r0 tw=>.bd (zTU tw.1) fun r hr=>.bd (yS hr.2.2 (by omega)) fun r1 gD=>.cd (fun _=>.cd (fun _=>.cd (fun _=>?_) fun _=>.rt ⟨hr.1,hr.2.1,gD.1⟩) fun _=>.rt ⟨hr.1,hr.2.1,gD.1⟩) fun _=>.rt ⟨hr.1,hr.2.1,gD.1⟩
 have hn:=hr.1.n;rw[show(1:Int)=((1:Nat):Int)from rfl,zTP (by omega) (by omega),bs];exact .rt ⟨hr.1,⟨hr.2.1.p,by simp only;omega,by simp only[yN];omega⟩,gD.1⟩
theorem zXe{s:zE}{x:SPr}{m:zC}{D:Nat}(hs:Src s)(h:IsM x m D):Ans (zYg s x m) fun r=>Src r.2∧VOk (base x.zA.length x.zA.length) m.Prime D r.1:=by
 have h3:=h.ok.d3;have h1:=h.ok.d1;have h6:=h.gr.2.2.n6;have h7:=h.ok.p.pos;have eC:=xW x.zA.length (by omega);have hbD:base x.zA.length x.zA.length*D≤21*3:=Ka eC.2.1 h3;obtain⟨K,pk,k1,_,k3⟩:=zIS h.gr.2.2 h.ok h.gr.2.1 h.rel;have hK:=k3.len_le;unfold zYg;rw[zC4 rfl h6,bs,h.ok.d,show((base x.zA.length x.zA.length:Nat):Int)*(D:Int)=((base x.zA.length x.zA.length*D:Nat):Int)from by simp,zF (by omega) (by omega),bs,yK (by omega),bs,k1,bs];refine .bd (P:=fun t=>Src ⟨t.1,t.2.1,t.2.2.1⟩∧Row m.Prime (base x.zA.length x.zA.length*D) t.2.2.2) (.lp (fun i t=>t.2.2.2.2=i∧Src ⟨t.1,t.2.1,t.2.2.1⟩∧Row m.Prime (base x.zA.length x.zA.length*D) t.2.2.2.1) K.length ⟨rfl,hs,zIe (by omega)⟩ fun i t hi ht=>?_) fun t ht=>?_
 ·unfold zVM
  rw[ht.1];refine .cd (fun hl=>.bd (yS ht.2.1 (by omega)) fun v hv=>?_) fun hl=>.rt ⟨ht.2.1,ht.2.2⟩
  simp only[decide_eq_true_eq]at hl;rw[zT [] (by omega),bs,uQ h.ok.p ht.2.2 (k3.row i (by omega)) (by omega) (by omega),bs];exact .rg (by omega) (.rt ⟨by omega,by simp only;omega,hv.1,zBp h.ok.p⟩)
 ·rw[zTl h1 (by omega) ht.2.1 (by omega),bs]
  exact .rt ⟨ht.1,yAq ht.2⟩
theorem zMQ{s:zE}(hs:Src s):Ans (zVO s) fun r=>DrP r.1∧DrM r.2.1∧(r.2.2.1.length≤1000∧ ∀v∈r.2.2.1,v.length≠0∧v.length≤1000)∧Src r.2.2.2:=by
 unfold zVO;refine .bd (zTW hs) fun r hr=>?_
 obtain⟨x,m,t⟩:=r;obtain⟨hx,hm,ht⟩:=hr;simp only at hx hm ht;have hn:=hx.n;obtain⟨k,hk,f9⟩:=zTV hx;have any:∀{s:zE},Src s→Ans (zH (zQx (x,m,t)) (s.code,s.at_,s.seed,[],0)) fun u=>Src ⟨u.1,u.2.1,u.2.2.1⟩∧u.2.2.2.length≤100∧ ∀v∈u.2.2.2,v.length≠0∧v.length≤1000:=fun hs=>by
  refine .lp (fun i u=>u.2.2.2.2=i∧Src ⟨u.1,u.2.1,u.2.2.1⟩∧u.2.2.2.1.length=i∧ ∀v∈u.2.2.2.1,v.length≠0∧v.length≤1000) k ⟨rfl,hs,rfl,by simp⟩ fun i u hi hu=>?_
  unfold zQx;rw[hk,bs];refine .cd (fun hl=>.bd (zQg hu.2.1 hm) fun v hv=>?_) fun hl=>.rt ⟨hu.2.1,by simp only;omega,hu.2.2.2⟩
  simp only[decide_eq_true_eq]at hl;rw[zP (by simp;omega),bs];refine .rg (by omega) (.rt ⟨by omega,by simp only;omega,hv.1,by simp[hu.2.2.1],fun w hw=>?_⟩);rcases Jf.1 hw with hw|hw
  ·exact hu.2.2.2 w hw
  ·rw[List.mem_singleton.1 hw];exact⟨hv.2.2,by omega⟩
 rcases zGj hx hm with⟨D,h⟩|⟨s1,_⟩
 ·have h3:=h.ok.d3
  have h1:=h.ok.d1;have h7:=h.ok.p.pos;have h6:=h.gr.2.2.n6;have eC:=xW x.zA.length (by omega);rw[h.sp,bs,Ja,zL];refine .bd (yS ht (by omega)) fun r hr=>.cd (fun _=>.bd (any hr.1) fun u hu=>.rt ⟨hx,hm,⟨by simp only;omega,hu.2.2⟩,hu.1⟩) fun _=>.bd (yS hr.1 (by omega)) fun r1 gD=>.cd (fun _=>?_) fun _=>.bd (zXe gD.1 h) fun v hv=>.bd (yS hv.1 (by omega)) fun r2 gy=>.cd (fun _=>?_) fun _=>.rt ⟨hx,hm,⟨by have:v.1.length=base x.zA.length x.zA.length:=hv.2.1;simp only;omega,fun w hw=>?_⟩,gy.1⟩
  ·refine .bd (P:=fun u=>Src ⟨u.1,u.2.1,u.2.2.1⟩∧VOk x.zA.length m.Prime D u.2.2.2) (.lp (fun i u=>u.2.2.2.2=i∧Src ⟨u.1,u.2.1,u.2.2.1⟩∧i≤x.zA.length∧VOk i m.Prime D u.2.2.2.1) x.zA.length ⟨rfl,gD.1,by omega,rfl,fun i hi=>by omega⟩ fun i u hi hu=>?_) fun u hu=>?_
   ·unfold zVN
    refine .cd (fun hl=>.bd (zQg hu.2.1 hm) fun v hv=>?_) fun hl=>.rt ⟨hu.2.1,?_⟩
    ·simp only[decide_eq_true_eq]at hl
     have eS:=hu.2.2.2.1;have snoc:∀{w:List Int},Row m.Prime D w→VOk (i+1) m.Prime D (u.2.2.2.1++[w]):=fun{w} hw=>⟨by simp[eS],fun j hj=>by
      by_cases e:j<i
      ·rw[show(u.2.2.2.1++[w]).getD j []=u.2.2.2.1.getD j []from by grind];exact hu.2.2.2.2 j e
      ·rw[show(u.2.2.2.1++[w]).getD j []=w from by grind];exact hw⟩
     simp only[h.ok.d];rcases zDu (r:=v.1) (D:=D) h.ok.p (by omega)with⟨e,hR⟩|⟨e,_⟩
     ·rw[e,bs,Ja,zL,zP (by rw[Jm];omega),bs]
      exact .rg (by omega) (.rt ⟨by omega,by simp only;omega,hv.1,by omega,snoc hR⟩)
     ·rw[e,bs,Jy,zK,yK (by omega),bs,zP (by rw[Jm];omega),bs]
      exact .rg (by omega) (.rt ⟨by omega,by simp only;omega,hv.1,by omega,snoc (zIe (by omega))⟩)
    ·simp only[decide_eq_false_iff_not]at hl
     rw[show x.zA.length=i from by omega];exact hu.2.2.2
   ·have:=zW8 h.gr.1 h.ok hu.2
    rw[zOd h.gr.1 h.ok hu.2,bs];refine .rt ⟨hx,hm,⟨by simp only[Js];omega,fun w hw=>?_⟩,hu.1⟩;obtain⟨q,_,rfl⟩:=Ji.1 hw;have:=yDZ h.gr.1 h.ok hu.2 (q:=q);omega
  ·have co:v.1.length=base x.zA.length x.zA.length:=hv.2.1
   simp only[h.ok.d];rw[yK (by omega),bs,zP (by rw[Jm];omega),bs];refine .rt ⟨hx,hm,⟨by simp only[J5,Jm];omega,fun w hw=>?_⟩,gy.1⟩;rcases Jf.1 hw with hw|hw
   ·obtain⟨i,hi,rfl⟩:=K6.1 hw
    have hi:i<v.1.length:=hi;have:(v.1.getD i []).length=D:=(hv.2.2 i (by simp only;omega)).1;rw[show v.1.getD i []=v.1[i]from by grind]at this;omega
   ·rw[List.mem_singleton.1 hw,J6];omega
  ·have co:v.1.length=base x.zA.length x.zA.length:=hv.2.1
   obtain⟨i,hi,rfl⟩:=K6.1 hw;have hi:i<v.1.length:=hi;have:(v.1.getD i []).length=D:=(hv.2.2 i (by simp only;omega)).1;rw[show v.1.getD i []=v.1[i]from by grind]at this;change v.1[i].length≠0∧v.1[i].length≤1000;omega
 ·rw[s1,bs,Jy,zK]
  exact .bd (any ht) fun u hu=>.rt ⟨hx,hm,⟨by simp only;omega,hu.2.2⟩,hu.1⟩
end Go.Pl

namespace Go.Pl
open Go Go.Ab Go.Wk Go.Pc
end Go.Pl

namespace Go.Pl
open Go Go.Ab Go.Wk Go.Pc
end Go.Pl

namespace Go.Pl
open Go Go.Ab Go.Wk Go.Pc
theorem zTX{N k:Nat}:(J1 N (0:Int)).set k 1=uE N k:=by rw[vX,qX];rfl
section
variable {n D:Nat}{x:SPr}{m:zC}{T:Mx} (h:zGa n D x m T)
 include h
theorem yDl:zH (zRK m) (x.zA,0)=dJ (x.zA++J1 D m.Prime):=by
 have h3:=h.m.d3;have ho:=h.o;have hn:=h.hn;refine(zM (body:=zRK m) (r:=x.zA++J1 D m.Prime) (fun i=>(x.zA++J1 i m.Prime,(i:Int))) D (fun i hi=>?_) ?_:zH _ (x.zA++J1 0 m.Prime,((0:Nat):Int))=_)|> fun e=>by simpa using e
 ·unfold zRK
  simp only
  rw[h.m.d,yI hi,zK,zP (by simp;omega),bs,zF (by omega) (by omega),bs,cs,Jg,←Kw]
 ·unfold zRK
  simp only
  rw[h.m.d,vR,zL]
theorem yDm{i:Nat}(hi:i<n){s:(List (List Int))×(List (List (List Int)))×Int×Int}(hs:s.2.2.2=(i:Int)):zH (zRL x T s) (((base n i:Nat):Int),[],((i+1:Nat):Int))=dJ (((base n i+(n-1-i):Nat):Int),gl (n-1-i) fun j=>(x.zB.getD i []).getD j []++T.getD (base n i+j) []):=by
 have hn:=h.hn;have hb:=qD n (by omega) i hi;have eC:=xW n (by omega);have gA:=h.cl i hi;have ht:=h.t;refine zM (body:=zRL x T s) (fun j=>(((base n i+j:Nat):Int),gl j (fun j=>(x.zB.getD i []).getD j []++T.getD (base n i+j) []),((i+1+j:Nat):Int))) (n-1-i) (fun j hj=>?_) ?_
 ·have a1:=h.ce i j
  have a2:=h.tl (base n i+j);unfold zRL;simp only
  rw[hs,h.o,yI (by omega),zK,zT [] (by rw[h.c];exact hi),bs,zF (by omega) (by omega),bs,zF (by omega) (by omega),bs,show((i+1+j:Nat):Int)-(i:Int)-1=(j:Int)from by omega,zT [] (by omega),bs,zP (by simp only[K0];omega),bs,zT [] (by omega),bs,zP (by simp only[Jq];omega),bs,zP (by rw[yN,Jm];omega),bs,zF (by omega) (by omega),bs,zF (by omega) (by omega),bs,cs,cs,Jq,xV (F:=fun j=>(x.zB.getD i []).getD j []++T.getD (base n i+j) [])];rfl
 ·unfold zRL
  simp only
  rw[h.o,show decide (((i+1+(n-1-i):Nat):Int)<(n:Int))=dM from by simp;omega,zL]
theorem yDn{i:Nat}(hi:i<n){s:(List (List Int))×(List (List (List Int)))×Int×Int}(hs:s.2.2.2=(i:Int)):zH (zRM x m s) (gl (n-1-i) (fun j=>(x.zB.getD i []).getD j []++T.getD (base n i+j) []),0)=dJ (exC n D x m T i):=by
 have hn:=h.hn;have h3:=h.m.d3;have e0:gl (n-1-i) (fun j=>(x.zB.getD i []).getD j []++T.getD (base n i+j) [])=gl (n-1-i) (exF n x m T i):=kK fun j hj=>by rw[exF,if_pos hj]
 rw[e0,exC,if_pos hi,show n+D-1-i=n-1-i+D from by omega];refine zM (body:=zRM x m s) (fun k=>(gl (n-1-i+k) (exF n x m T i),(k:Int))) D (fun k hk=>?_) ?_
 ·have hA:=h.m.mat i hi
  have hr:=(hA.2 k hk).1;unfold zRM;simp only
  rw[hs,h.m.d,h.o,yI hk,zK,yK (by omega),bs,zT [] (by rw[h.m.len];exact hi),bs,zT [] (by rw[hA.1];exact hk),bs,zP (by rw[J6];omega),bs,zP (by rw[yN,Jm];omega),bs,zF (by omega) (by omega),bs,cs];have:J1 n 0++(m.zG.getD i []).getD k []=exF n x m T i (n-1-i+k):=by rw[exF,if_neg (by omega),show n-1-i+k-(n-1-i)=k from by omega]
  rw[this,xV];rfl
 ·unfold zRM
  simp only
  rw[h.m.d,vR,zL]
theorem yDo:zH (zOF x m T) ([],[],(n:Int),0)=dJ (gl n (exP n D x T),gl n (exC n D x m T)):=by
 have hn:=h.hn;have eC:=xW n (by omega);have ht:=h.t;have:=zM (body:=zOF x m T) (r:=(gl n (exP n D x T),gl n (exC n D x m T))) (fun i=>(gl i (exP n D x T),gl i (exC n D x m T),((base n i:Nat):Int),(i:Int))) n (fun i hi=>by
  have a1:=h.pl i;have a2:=h.tl i;have hb:=qD n (by omega) i hi;unfold zOF;simp only
  rw[h.o,yI hi,zK,zT [] (by rw[h.p];exact hi),bs,zP (by simp only[K0];omega),bs,zT [] (by omega),bs,zP (by simp only[Jq];omega),bs,zP (by rw[yN,Jm];omega),bs,zF (by omega) (by omega),bs,cs,yDm h hi rfl,bs];simp only
  rw[yDn h hi rfl,bs,zP (by rw[yN,Jm];omega),bs,bs,xV,Jq];have:x.zJ.getD i []++T.getD i []=exP n D x T i:=by rw[exP,if_pos hi]
  rw[this,xV,zFZ n (by omega) i hi]) (by
  unfold zOF;simp only
  rw[h.o,vR,zL])
 rw[show base n 0=n from eC.2.2]at this;exact this
theorem yDp{k:Nat}(hk:k<D):zH (zRN x m) ([],((k+1:Nat):Int))=dJ (exC n D x m T (n+k)):=by
 have hn:=h.hn;have h3:=h.m.d3;rw[exC,if_neg (by omega),unC,show n+D-1-(n+k)=D-1-k from by omega];refine zM (body:=zRN x m) (fun j=>(gl j (fun j=>uE (n+D) (n+k+1+j)),((k+1+j:Nat):Int))) (D-1-k) (fun j hj=>?_) ?_
 ·unfold zRN
  simp only
  rw[h.m.d,h.o,yI (by omega),zK,zF (by omega) (by omega),bs,show(n:Int)+(D:Int)=((n+D:Nat):Int)from by omega,yK (by omega),bs,zF (by omega) (by omega),bs,show(n:Int)+((k+1+j:Nat):Int)=((n+k+1+j:Nat):Int)from by omega,yF (by rw[J6];omega),bs,zP (by rw[yN,Jm];omega),bs,zF (by omega) (by omega),bs,cs,J8,zTX,xV (F:=fun j=>uE (n+D) (n+k+1+j))];rfl
 ·unfold zRN
  simp only
  rw[h.m.d,show decide (((k+1+(D-1-k):Nat):Int)<(D:Int))=dM from by simp;omega,zL]
theorem zEn:f_i x m T=dJ (ext n D x m T):=by
 have hn:=h.hn;have h3:=h.m.d3;have ho:=h.o;unfold f_i;rw[zP (by simp only[K0];omega),bs,Jq,yDl h,bs,ho,yDo h,bs];have:=zM (body:=zOG x m) (r:=(gl (n+D) (exP n D x T),gl (n+D) (exC n D x m T))) (fun k=>(gl (n+k) (exP n D x T),gl (n+k) (exC n D x m T),(k:Int))) D (fun k hk=>by
  unfold zOG;simp only
  rw[h.m.d,ho,yI hk,zK,zF (by omega) (by omega),bs,show(n:Int)+(D:Int)=((n+D:Nat):Int)from by omega,yK (by omega),bs,zP (by rw[yN,Jm];omega),bs,zF (by omega) (by omega),bs,cs,yDp h hk,bs,zP (by rw[yN,Jm];omega),bs,bs,xV];have:J1 (n+D) (0:Int)=exP n D x T (n+k):=by rw[exP,if_neg (by omega)]
  rw[this,xV];rfl) (by
  unfold zOG;simp only
  rw[h.m.d,vR,zL])
 rw[show zH (zOG x m) (gl n (exP n D x T),gl n (exC n D x m T),0)=_ from this,bs];rfl
end
end Go.Pl

namespace Go.Pl
open Go Go.Ab Go.Wk Go.Pc
theorem zF3{A B:List Mx}(hA:A.length≤1000000)(h:∀M∈A,M.length≤1000000∧ ∀r∈M,r.length≤1000000):zYk A B=dJ (A==B):=
 zMc (t:=zOB) (body:=zVS A B) rfl (fun _=>rfl) (by omega) fun M hM _ _=>zD4 (h M hM).1 (h M hM).2
structure Md (g:SPr):Prop where
 o:g.zA.length≤1000
 p:g.zJ.length≤1000∧ ∀r∈g.zJ,r.length≤1000
 c:g.zB.length≤1000∧ ∀M∈g.zB,M.length≤1000∧ ∀r∈M,r.length≤1000
theorem vT{g:SPr}(h:Md g):zLo g g=dJ dL:=by unfold zLo;rw[zG8 (by have:=h.o;omega),bs,beq_self_eq_true,zK,zD4 (by have:=h.p.1;omega) (fun r hr=>by have:=h.p.2 r hr;omega),bs,beq_self_eq_true,zK,zF3 (by have:=h.c.1;omega) (fun M hM=>⟨by have:=(h.c.2 M hM).1;omega,fun r hr=>by have:=(h.c.2 M hM).2 r hr;omega⟩),bs,beq_self_eq_true]
theorem zI8:Md ⟨[],[],[]⟩:=⟨by simp,by simp,by simp⟩
theorem qV{α:Type}{l:List α}{x d:α}(h:x∈l):∃i,i<l.length∧l.getD i d=x:=by obtain⟨i,hi,rfl⟩:=K6.1 h;exact⟨i,hi,by grind⟩
section
variable {n D:Nat}{x:SPr}{m:zC}{T:Mx} (h:zGa n D x m T)
 include h
theorem zTY:Md (ext n D x m T):=by
 have hn:=h.hn;have h3:=h.m.d3;have ho:=h.o;refine⟨by simp[ext];omega,⟨by simp[ext];omega,fun r hr=>?_⟩,by simp[ext];omega,fun M hM=>?_⟩
 ·simp only[ext,gl,Ji]at hr
  obtain⟨i,_,rfl⟩:=hr;have a1:=h.pl i;have a2:=h.tl i;unfold exP;split
  ·rw[J5];omega
  ·rw[J6];omega
 ·simp only[ext,gl,Ji,Kq]at hM
  obtain⟨i,hi,rfl⟩:=hM;unfold exC;split
  ·refine⟨by rw[yN];omega,fun r hr=>?_⟩
   simp only[gl,Ji,Kq]at hr;obtain⟨j,hj,rfl⟩:=hr;have a1:=h.ce i j;have a2:=h.tl (base n i+j);unfold exF;split
   ·rw[J5];omega
   ·rw[J5,J6,((h.m.mat i (by assumption)).2 (j-(n-1-i)) (by omega)).1];omega
  ·unfold unC
   refine⟨by rw[yN];omega,fun r hr=>?_⟩;simp only[gl,Ji,Kq]at hr;obtain⟨j,hj,rfl⟩:=hr;rw[uE,zU];omega
end
section
variable {x:SPr}{m:zC}{D:Nat} (h:IsM x m D)
 include h
theorem IsM.spres:zYH x:=by
 have h6:=h.gr.1.os.1;have fW:=h.gr.1.pl;have gA:=h.gr.1.cl;refine⟨by simp only[S1,c1];omega,?_,?_⟩
 ·have:=zJH (c:=c1) (b:=14) (xs:=x.zJ) fun y hy=>by
   obtain⟨i,hi,rfl⟩:=qV (d:=[]) hy;have:=zCC h.gr.1 (show i<x.zA.length by omega);simp only[c1];omega
  have:x.zJ.length*14≤14*14:=Jw 14 (by omega);simp only[S2,c2];omega
 ·have:=zJH (c:=c2) (b:=300) (xs:=x.zB) fun y hy=>by
   obtain⟨i,hi,rfl⟩:=qV (d:=[]) hy;have hH:i<x.zA.length:=by omega
   have hl:=zD2 h.gr.1 hH;have:=zJH (c:=c1) (b:=14) (xs:=x.zB.getD i []) fun z hz=>by obtain⟨j,hj,rfl⟩:=qV (d:=[]) hz;have:=zD3 h.gr.1 hH (show j+i+1<x.zA.length by omega);simp only[c1];omega
   have:(x.zB.getD i []).length*14≤14*14:=Jw 14 (by omega);simp only[c2];omega
  have:x.zB.length*300≤14*300:=Jw 300 (by omega);simp only[S3,c3];omega
theorem IsM.smod:yAe m:=by
 have h6:=h.gr.1.os.1;have h3:=h.ok.d3;have hl:=h.ok.len;have:=zJH (c:=c2) (b:=100) (xs:=m.zG) fun y hy=>by
  obtain⟨i,hi,rfl⟩:=qV (d:=[]) hy;have hA:=h.ok.mat i (by omega);have cY:=hA.1;have:=zJH (c:=c1) (b:=3) (xs:=m.zG.getD i []) fun z hz=>by obtain⟨j,hj,rfl⟩:=qV (d:=[]) hz;have:=(hA.2 j (by omega)).1;simp only[c1];omega
  simp only[c2];omega
 have:m.zG.length*100≤14*100:=Jw 100 (by omega);simp only[yAe,S3,c3];omega
end
theorem zIT{x:SPr}{m:zC}{T:Mx}(hx:DrP x)(hm:DrM m)(hT:T.length≤1048576):((zX2 x m T).bind fun r3=>
  (zX1 x m T).bind fun r4=>
  cond (r3.2 != r4.2) (
   dJ dM) (
   cond (r3.1 != r4.1) (
    dJ dM) (
    cond (r3.2 != 0) (
     dJ (!r3.1)) (
     (f_i x m T).bind fun r5=>
     (zR6 x m T).bind fun r6=>
     (zR5 x m T).bind fun r7=>
     cond (r6.2 != r7.2) (
      dJ dM) (
      (zLo r6.1 r7.1).bind fun r8=>
      cond (!r8) (
       dJ dM) (
       (f_o r5).bind fun r9=>
       cond (!r9) (
        dJ (r6.2 != 0)) (
        (zIC r5).bind fun r10=>
        cond (r10==r4.1) (
         cond ((r6.2==0)==r4.1) (
          cond (!r4.1) (
           dJ dL) (
           (zLo r7.1 r5).bind fun r11=>
           dJ r11)) (
          dJ dM)) (
         dJ dM))))))))=dJ dL:=by
 unfold zX1 zX2;rcases zGj hx hm with⟨D,h⟩|⟨s1,i1⟩
 ·rw[h.im,h.sp]
  rcases(zAE h.gr.2.2 h.ok hT).both (zG4 h.gr.2.2 h.ok hT)with⟨s2,i2,hF⟩|⟨s2,i2,_⟩
  ·have hE:=zT0 h.gr.2.2 h.ok hF
   have h6:=h.gr.2.2.n6;have h3:=h.ok.d3;have p9:(ext x.zA.length D x m T).zA.length≤1048576:=by simp[ext];omega
   have hm:=zTY hE;obtain⟨c,e1,e2,e3⟩:=zJK (L:=[T]) h.spres h.smod hT hT (by simp) (fun t=>by simp);have fI:=(zKJ h.gr.1 (hE.b h.ok) hF.2 (Mv.self h.ok) h.gr.2.1 h.rel).both (zPL h.gr.2.2 h.ok hF);have pU:c=0↔xK (suf (exx D x m T) 0):=by
    constructor
    ·intro e
     obtain⟨_,D',dI,_,kT,_⟩:=e3 e;have:D'=D:=by have:=dI.d;have:=h.ok.d;omega
     rw[←this];exact kT.2
    ·intro hc
     unfold zR4 at e1;rcases fI with⟨s3,_,_⟩|⟨_,_,k⟩
     ·simp only[h.sp,s2,s3,bs,Ja,zL]at e1
      exact(Ll.inj e1).symm
     ·exact absurd hc k
   unfold zR6 zR5 zXy zXz;have pJ:=(wX p9).both (qJ p9);have eK:=kI p9;rcases fI with⟨s3,i3,hc⟩|⟨s3,i3,hc⟩
   ·have eG:=pU.2 hc
    subst eG;simp only[s2,i2,s3,i3,e1,e2,bs,Ja,zL,bne_self_eq_false,zEn hE,zIh hE,zFk hE];rcases pJ with⟨p1,p2,hp⟩|⟨p1,p2,_⟩
    ·have:zIC (ext x.zA.length D x m T)=dJ dL:=by
      rcases eK with⟨q,_⟩|⟨_,q⟩
      ·exact q
      ·exact absurd ⟨hp.toPres,hc,hp⟩ q
     simp only[p1,p2,bs,Ja,zL,bne_self_eq_false,vT hm,this,beq_self_eq_true,zK]
    ·simp only[p1,p2,bs,Jy,zK,bne_self_eq_false,zL,vT zI8,Ja]
     rfl
   ·have eG:c≠0:=fun e=>hc (pU.1 e)
    simp only[s2,i2,s3,i3,e1,e2,bs,Ja,zL,bne_self_eq_false,zEn hE,zA7 eG,zK,vT zI8];rcases pJ with⟨p1,p2,hp⟩|⟨p1,p2,_⟩
    ·have:zIC (ext x.zA.length D x m T)=dJ dM:=by
      rcases eK with⟨_,q⟩|⟨q,_⟩
      ·exact absurd q.2.1 hc
      ·exact q
     simp only[p1,bs,Ja,zL,this,beq_self_eq_true,zK,zJD eG,Jy]
    ·simp only[p1,bs,Jy,zK]
  ·simp only[s2,i2,bs,Ja,Jy,zL,zK,bne_self_eq_false]
   rfl
 ·simp only[s1,i1,bs,Jy,zK,bne_self_eq_false,zL]
  rfl
theorem zLa(c:List Int)(hb:∀i(h:i<c.length),0≤c[i]∧c[i]≤255):zYm c=dJ dL:=by
 unfold zYm yBa;refine zMP hb (P:=fun r=>DrP r.1∧DrM r.2.1∧r.2.2.length≤1000) (fun s hs e=>by
  rw[e,bs];refine .bd (zMQ hs) fun r hr=>.bd (yS hr.2.2.2 (by omega)) fun r1 gD=>?_
  have fin:Ans (dJ (r.1,r.2.1,r.2.2.1)) fun r=>DrP r.1∧DrM r.2.1∧r.2.2.length≤1000:=.rt ⟨hr.1,hr.2.1,hr.2.2.1.1⟩
  refine .cd (fun _=>.cd (fun hl=>?_) fun _=>fin) fun _=>fin
  simp only[decide_eq_true_eq]at hl;have pP:=hr.2.2.1.1;rw[show(0:Int)=((0:Nat):Int)from rfl,zT [] (by omega),bs];refine .cd (fun _=>.bd (yS gD.1 (by omega)) fun r2 gy=>?_) fun _=>fin
  obtain⟨i,hi⟩:∃i:Nat,r2.1=i:=⟨r2.1.toNat,by omega⟩;have hv:=hr.2.2.1.2 (r.2.2.1.getD i []) (zD1 (by omega));rw[hi,zT [] (by omega),bs,xX (by omega),bs,bs,zT [] (by rw[L8];omega),bs];refine .bd (yS gy.1 (by have:=hr.2.1.p;omega)) fun r3 ez=>?_
  rw[show(r.2.2.1.set (i:Int).toNat (r.2.2.1.getD i [])).getD i []=r.2.2.1.getD i []from by grind,yF (by omega),bs];exact .rt ⟨hr.1,hr.2.1,by simp only[L8];omega⟩) fun r hr=>?_
 exact zIT hr.1 hr.2.1 (by have:=hr.2.2;omega)
theorem zGk(c:List Int)(h:VL VU c):zYm c=dJ dL:=zLa c (vu h)
end Go.Pl

namespace Go.Pl
open Go Go.Ab Go.Wk Go.Pc
theorem zZe{v:List Int}(hl:v.length≤14)(h:∀i,i<v.length→at0 v i=0):f_U v=dJ dL:=by
 rcases zGz hl with⟨e,_⟩|⟨_,k⟩
 ·exact e
 ·exact absurd h k
theorem zXf{F:Nat→List Int}{a b:Nat}(h:b≤a):(gl a F).take b=gl b F:=by
 apply Kl;intro i;simp only[gl,Ha,K4]
 grind
theorem zI9{α:Type}{v:List α}{b:Nat}(k:b≤v.length):zQ v 0 (b:Int)=dJ (v.take b):=zBv (a:=0) (Kf b) k
theorem zDQ{α:Type}{l:List α}{d:α}{n:Nat}(hn:l.length=n):gl n (fun k=>l.getD k d)=l:=by subst hn;exact Hj (by simp[gl]) fun i h1 h2=>by simp[gl]at h1 ⊢;grind
theorem zGl{α:Type}{v:List α}{a:Nat}(k:a≤v.length):zQ v (a:Int) (v.length:Int)=dJ (v.drop a):=by rw[zBv k (Jk _),Jr (by rw[Kr];omega)]
section
variable {n D:Nat}{x:SPr}{m:zC}{T:Mx} (h:zGa n D x m T) (h1:1≤D) (h3:D≤3) (hx:Pres x) (hT:∀i,i<T.length→(T.getD i []).length=D)
 include h h3
 omit h3 in
theorem zMR:(ext n D x m T).zA.length=n+D:=by simp[ext,h.o]
 include hx hT
theorem zZf{k:Nat}(hk:k<n):(ext n D x m T).zJ.getD k []=x.zJ.getD k []++T.getD k []∧(x.zJ.getD k []).length=n∧(T.getD k []).length=D:=by
 have ho:=h.o;have eC:=xW n (by have:=h.hn;omega);have ht:=h.t;refine⟨?_,?_,hT k (by omega)⟩
 ·rw[show(ext n D x m T).zJ.getD k []=exP n D x T k from by simp[ext,gl,show k<n+D by omega],exP,if_pos hk]
 ·have:=zCC hx (show k<x.zA.length by omega);omega
theorem zTZ{k:Nat}(hk:k<n):(ext n D x m T).zB.getD k []=gl (n+D-1-k) (exF n x m T k):=by
 have _:=hx;have _:=hT;have _:=h3;have _:=h.o;rw[show(ext n D x m T).zB.getD k []=exC n D x m T k from by simp[ext,gl,show k<n+D by omega],exC,if_pos hk]
 omit h3 in
theorem zZg{k j:Nat}(hk:k<n)(hj:j<n-1-k):exF n x m T k j=(x.zB.getD k []).getD j []++T.getD (base n k+j) []∧((x.zB.getD k []).getD j []).length=n∧(T.getD (base n k+j) []).length=D:=by have ho:=h.o;have hb:=qD n (by have:=h.hn;omega) k hk;have ht:=h.t;refine⟨by rw[exF,if_pos hj],?_,hT _ (by omega)⟩;have:=zD3 hx (show k<x.zA.length by omega) (show j+k+1<x.zA.length by omega);omega
theorem zZh{k j:Nat}(hk:k<n)(hj:j<D):exF n x m T k (n-1-k+j)=J1 n 0++(m.zG.getD k []).getD j []∧((m.zG.getD k []).getD j []).length=D:=by have _:=hx;have _:=hT;have _:=h3;refine⟨by rw[exF,if_neg (by omega),show n-1-k+j-(n-1-k)=j from by omega],((h.m.mat k hk).2 j hj).1⟩
theorem zUa:zYh (ext n D x m T) (n:Int)=dJ dL:=by
 have hn:=h.hn;have ca:=zMR h;unfold zYh;have gJ:∀k,k<n→zH (zNx (ext n D x m T) (n:Int) (k:Int)) (n:Int)=dJ (.inl ()):=fun k hk=>by
  refine zM (fun q=>((n+q:Nat):Int)) D (fun q hq=>?_) ?_
  ·obtain⟨e1,e2⟩:=zZh h h3 hx hT hk hq
   unfold zNx;rw[ca,yI (by omega),zK,zT [] (by simp[ext];omega),bs,zF (by omega) (by omega),bs,zF (by omega) (by omega),bs,zTZ h h3 hx hT hk,show((n+q:Nat):Int)-(k:Int)-1=((n-1-k+q:Nat):Int)from by omega,zAC (by omega),bs,e1,zI9 (by rw[J5,J6];omega),bs];rw[show(J1 n (0:Int)++(m.zG.getD k []).getD q []).take n=J1 n (0:Int)from by simp,zZe (by rw[J6];omega) (fun i hi=>by grind),bs,Ja,zL,zF (by omega) (by omega),bs,cs];rfl
  ·unfold zNx
   rw[ca,vR,zL]
 have:=zM (body:=zJY (ext n D x m T) (n:Int)) (r:=(.inl ():Unit⊕Bool)) (fun k=>(k:Int)) n (fun k hk=>by
  unfold zJY;rw[yI hk,zK,gJ k hk,bs];simp only
  rw[zF (by omega) (by omega),bs,cs]) (by
  unfold zJY;rw[vR,zL])
 rw[show zH (zJY (ext n D x m T) (n:Int)) 0=_ from this,bs]
 include h1
theorem zUb:zYi (ext n D x m T) (n:Int)=dJ dL:=by
 have hn:=h.hn;have ca:=zMR h;have fF:∀q,q<D→at0 (ext n D x m T).zA (n+q)=m.Prime:=fun q hq=>by simp only[ext,at0,J3];rw[Je (by rw[h.o];omega),h.o,Kg,if_pos (by omega)];rfl
 unfold zYi;rw[ca,zF (by omega) (by omega),bs,show((n+D:Nat):Int)-(n:Int)=(D:Int)from by omega];rcases sT (D:Int) 1 3 with⟨e,_⟩|⟨_,k⟩
 ·rw[e,bs,Ja,zL,zUa h h3 hx hT,bs,Ja,zL]
  have gJ:∀q,q<D→zH (zNy (ext n D x m T) ((n+q:Nat):Int) (unC (n+D) (n+q))) 0=dJ (.inl ()):=fun q hq=>by
   refine zM (fun j=>(j:Int)) (D-1-q) (fun j hj=>?_) ?_
   ·unfold zNy
    rw[show((unC (n+D) (n+q)).length:Int)=((D-1-q:Nat):Int)from by rw[unC,yN];omega,yI hj,zK,unC,zAC (by omega),bs,zF (by omega) (by omega),bs,zF (by omega) (by omega),bs,ca,show((n+q:Nat):Int)+1+(j:Int)=((n+q+1+j:Nat):Int)from by omega,zAI (by omega) (by omega),bs,zCw (by rw[uE,zU];omega),bs,beq_self_eq_true,Ja,zL,zF (by omega) (by omega),bs,cs]
   ·unfold zNy
    rw[show((unC (n+D) (n+q)).length:Int)=((D-1-q:Nat):Int)from by rw[unC,yN];omega,vR,zL]
  have:=zM (body:=zJZ (ext n D x m T) (n:Int)) (r:=(.inl ():Unit⊕Bool)) (fun q=>((n+q:Nat):Int)) D (fun q hq=>by
   have e1:(ext n D x m T).zJ.getD (n+q) []=J1 (n+D) 0:=by rw[show(ext n D x m T).zJ.getD (n+q) []=exP n D x T (n+q)from by simp[ext,gl,show q<D by omega],exP,if_neg (by omega)]
   have e2:(ext n D x m T).zB.getD (n+q) []=unC (n+D) (n+q):=by rw[show(ext n D x m T).zB.getD (n+q) []=exC n D x m T (n+q)from by simp[ext,gl,show q<D by omega],exC,if_neg (by omega)]
   unfold zJZ;rw[ca,yI (by omega),zK,yF (by omega),bs,yF (by omega),bs,fF q hq,show at0 (ext n D x m T).zA n=m.Prime from fF 0 (by omega),bne_self_eq_false,zL,zT [] (by simp[ext];omega),bs,e1,zZe (by rw[J6];omega) (fun i hi=>by grind),bs,Ja,zL,zT [] (by simp[ext];omega),bs,e2,gJ q hq,bs];simp only
   rw[zF (by omega) (by omega),bs,cs];rfl) (by
   unfold zJZ;rw[ca,vR,zL])
  rw[show zH (zJZ (ext n D x m T) (n:Int)) (n:Int)=_ from this,bs]
 ·exact absurd ⟨by omega,by omega⟩ k
theorem zRf(ho:x.zA.length=n):f_T (ext n D x m T) (n:Int)=dJ x:=by
 have hn:=h.hn;have _:=h1;have ca:=zMR h;have e0:(ext n D x m T).zA.take n=x.zA:=by simp[ext,←ho]
 unfold f_T;rw[zI9 (by omega),bs,e0,tS (by omega),bs];have gJ:∀k,k<n→zH (zRJ (n:Int) (gl (n-1-k) (exF n x m T k))) ([],0)=dJ (x.zB.getD k []):=fun k hk=>by
  have gA:=zD2 hx (show k<x.zA.length by omega);rw[tI (body:=zRJ (n:Int) (gl (n-1-k) (exF n x m T k))) (n-1-k) (fun j=>(x.zB.getD k []).getD j []) (fun j acc hj ha=>by
   obtain⟨e1,e2,e3⟩:=zZg h hx hT hk hj;unfold zRJ;simp only
   rw[yN,yI hj,zK,zAC hj,bs,e1,zI9 (by rw[J5];omega),bs,Jp e2,tS (by omega),bs,zP (by rw[Jm];omega),bs,zF (by omega) (by omega),bs,cs]) (fun acc=>by
   unfold zRJ;simp only
   rw[yN,vR,zL])]
  exact congrArg dJ (zDQ (by omega))
 have:=zM (body:=zOC (ext n D x m T) (n:Int)) (r:=(x.zJ,x.zB)) (fun k=>(gl k (fun k=>x.zJ.getD k []),gl k (fun k=>x.zB.getD k []),(k:Int))) n (fun k hk=>by
  obtain⟨e1,e2,e3⟩:=zZf h h3 hx hT hk;unfold zOC;simp only
  rw[yI hk,zK,zT [] (by simp[ext];omega),bs,e1,zI9 (by rw[J5];omega),bs,Jp e2,tS (by omega),bs,zP (by rw[yN,Jm];omega),bs,zT [] (by simp[ext];omega),bs,zF (by omega) (by omega),bs,zF (by omega) (by omega),bs,zTZ h h3 hx hT hk,show(n:Int)-1-(k:Int)=((n-1-k:Nat):Int)from by omega,zI9 (by rw[yN];omega),bs,zXf (by omega),gJ k hk,bs,zP (by rw[yN,Jm];omega),bs,zF (by omega) (by omega),bs,cs,xV (F:=fun k=>x.zJ.getD k []),xV (F:=fun k=>x.zB.getD k [])]) (by
  unfold zOC;simp only
  rw[vR,zL,zDQ (by have:=h.p;omega),zDQ (by have:=h.c;omega)])
 rw[show zH (zOC (ext n D x m T) (n:Int)) ([],[],0)=_ from this,bs]
theorem zLb(ho:x.zA.length=n):f_G (ext n D x m T) (n:Int)=dJ (x,m,T):=by
 have hn:=h.hn;have ca:=zMR h;have eC:=xW n (by omega);have ht:=h.t;have bJ:=h.m.len;unfold f_G;have fF:at0 (ext n D x m T).zA n=m.Prime:=by simp only[ext,at0,J3];rw[Je (by rw[h.o];omega),h.o,Kg,if_pos (by omega)];rfl
 rw[yF (by omega),bs,fF,ca,zF (by omega) (by omega),bs,show((n+D:Nat):Int)-(n:Int)=(D:Int)from by omega];rw[tI (body:=zVR (ext n D x m T) (n:Int)) n (fun k=>T.getD k []) (fun k acc hk ha=>by
  obtain⟨e1,e2,e3⟩:=zZf h h3 hx hT hk;unfold zVR;simp only
  rw[yI hk,zK,zT [] (by simp[ext];omega),bs,e1,zGl (by rw[J5];omega),bs,Jx e2,tS (by omega),bs,zP (by rw[Jm];omega),bs,zF (by omega) (by omega),bs,cs]) (fun acc=>by
  unfold zVR;simp only
  rw[vR,zL]),bs]
 have gJ:∀k,k<n→ ∀s:(List (List (List Int)))×(List (List Int))×Int,s.2.2=(k:Int)→zH (zOD (n:Int) s (gl (n+D-1-k) (exF n x m T k))) (gl (base n k) (fun j=>T.getD j []),[],0)=dJ (gl (base n (k+1)) (fun j=>T.getD j []),m.zG.getD k []):=fun k hk s hs=>by
  have hA:=h.m.mat k hk;have hb:=qD n (by omega) k hk;have hbs:=zFZ n (by omega) k hk;refine(fun e=>by rw[Nat.zero_min,Jad,Nat.zero_sub]at e;exact e:zH (zOD (n:Int) s (gl (n+D-1-k) (exF n x m T k))) (gl (base n k+min 0 (n-1-k)) (fun j=>T.getD j []),gl (0-(n-1-k)) (fun j=>(m.zG.getD k []).getD j []),((0:Nat):Int))=dJ (gl (base n (k+1)) (fun j=>T.getD j []),m.zG.getD k [])→_) (zM (body:=zOD (n:Int) s (gl (n+D-1-k) (exF n x m T k))) (fun q=>(gl (base n k+min q (n-1-k)) (fun j=>T.getD j []),gl (q-(n-1-k)) (fun j=>(m.zG.getD k []).getD j []),(q:Int))) (n+D-1-k) (fun q hq=>?_) ?_)
  ·unfold zOD
   simp only
   rw[yN,yI hq,zK,zAC hq,bs,hs,zF (by omega) (by omega),bs,zF (by omega) (by omega),bs]
   by_cases g:q<n-1-k
   ·obtain⟨e1,e2,e3⟩:=zZg h hx hT hk g
    rw[show decide ((k:Int)+1+(q:Int)<(n:Int))=dL from by simp;omega,zK,e1,zGl (by rw[J5];omega),bs,Jx e2,tS (by omega),bs,zP (by rw[yN,Jm];omega),bs,zF (by omega) (by omega),bs,cs,show min q (n-1-k)=q from by omega,show min (q+1) (n-1-k)=q+1 from by omega,show q-(n-1-k)=0 from by omega,show q+1-(n-1-k)=0 from by omega,xV (F:=fun j=>T.getD j [])];rfl
   ·obtain⟨e1,e2⟩:=zZh h h3 hx hT hk (show q-(n-1-k)<D by omega)
    rw[show n-1-k+(q-(n-1-k))=q from by omega]at e1;rw[show decide ((k:Int)+1+(q:Int)<(n:Int))=dM from by simp;omega,zL,e1,zGl (by rw[J5,J6];omega),bs,Jx (by simp),tS (by omega),bs,zP (by rw[yN,Jm];omega),bs,zF (by omega) (by omega),bs,cs,show min q (n-1-k)=n-1-k from by omega,show min (q+1) (n-1-k)=n-1-k from by omega,show q+1-(n-1-k)=q-(n-1-k)+1 from by omega,xV (F:=fun j=>(m.zG.getD k []).getD j [])]
  ·unfold zOD
   simp only
   rw[yN,vR,zL,show min (n+D-1-k) (n-1-k)=n-1-k from by omega,show n+D-1-k-(n-1-k)=D from by omega,zDQ hA.1,hbs]
 have:=zM (body:=zOE (ext n D x m T) (n:Int)) (r:=(m.zG,T)) (fun k=>(gl k (fun k=>m.zG.getD k []),gl (base n k) (fun j=>T.getD j []),(k:Int))) n (fun k hk=>by
  unfold zOE;simp only
  rw[yI hk,zK,zT [] (by simp[ext];omega),bs,zTZ h h3 hx hT hk,gJ k hk _ rfl,bs];simp only
  rw[zP (by rw[yN,Jm];omega),bs,zF (by omega) (by omega),bs,cs,xV (F:=fun k=>m.zG.getD k [])]) (by
  unfold zOE;simp only
  rw[vR,zL,zDQ bJ,zDQ ht])
 rw[show base n 0=n from eC.2.2]at this;rw[show zH (zOE (ext n D x m T) (n:Int)) ([],(Jh n).map (fun k=>T.getD k []),0)=_ from this,bs,zRf h h1 h3 hx hT ho,bs,←h.m.d]
end
theorem zIA{m:zC}{n D:Nat}(h:MOk n m D)(hn:n≤14):zYl m m=dJ dL:=by
 have hl:=h.len;have h3:=h.d3;unfold zYl;rw[beq_self_eq_true,zK,beq_self_eq_true,zK,zF3 (by omega) (fun M hM=>by obtain⟨i,hi,rfl⟩:=qV (d:=[]) hM;have hA:=(h.mat i (by omega)).small (by omega);exact⟨by omega,fun r hr=>by have:=hA.2 r hr;omega⟩),bs,beq_self_eq_true]
theorem zXg{x:SPr}(h:Pres x):Md x:=by
 have h6:=h.os.1;have fW:=h.pl;have gA:=h.cl;refine⟨by omega,⟨by omega,fun r hr=>?_⟩,by omega,fun M hM=>?_⟩
 ·obtain⟨i,hi,rfl⟩:=qV (d:=[]) hr
  have:=zCC h (show i<x.zA.length by omega);omega
 ·obtain⟨i,hi,rfl⟩:=qV (d:=[]) hM
  have hH:i<x.zA.length:=by omega
  have:=zD2 h hH;refine⟨by omega,fun r hr=>?_⟩;obtain⟨j,hj,rfl⟩:=qV (d:=[]) hr;have:=zD3 h hH (show j+i+1<x.zA.length by omega);omega
theorem zLc(c:List Int)(hb:∀i(h:i<c.length),0≤c[i]∧c[i]≤255):zYn c=dJ dL:=by
 unfold zYn yBb;refine zMP hb (P:=fun r=>DrP r.1∧DrM r.2.1∧r.2.2.length≤1000) (fun s hs e=>by rw[e,bs];exact .bd (zMQ hs) fun r hr=>.rt ⟨hr.1,hr.2.1,hr.2.2.1.1⟩) fun r hr=>?_
 obtain⟨x,m,T⟩:=r;obtain⟨hx,hm,hT⟩:=hr;simp only at hx hm hT ⊢
 have hT:T.length≤1048576:=by omega
 unfold zR6 zR5;rcases zGj hx hm with⟨D,h⟩|⟨s1,i1⟩
 ·obtain⟨c,e1,e2,e3⟩:=zJK (L:=[T]) h.spres h.smod hT hT (by simp) (fun t=>by simp)
  rw[e1,e2,bs,bs]
  by_cases hc:c=0
  ·obtain⟨_,D',dI,_,kT,_⟩:=e3 hc
   obtain rfl:D'=D:=by have:=dI.d;have:=h.ok.d;omega
   subst hc;have hE:=zT0 h.gr.2.2 h.ok kT.1;have h6:=h.gr.2.2.n6;have h3:=h.ok.d3;have p9:(ext x.zA.length D' x m T).zA.length≤1048576:=by simp[ext];omega
   have eF:∀i,i<T.length→(T.getD i []).length=D':=fun i hi=>(kT.1.2 i hi).1
   unfold zXy zXz;rcases(wX p9).both (qJ p9)with⟨p1,p2,hp⟩|⟨p1,p2,_⟩
   ·have eK:zIC (ext x.zA.length D' x m T)=dJ dL:=by
     rcases kI p9 with⟨q,_⟩|⟨_,q⟩
     ·exact q
     ·exact absurd ⟨hp.toPres,kT.2,hp⟩ q
    have aC:zYj (ext x.zA.length D' x m T) (x.zA.length:Int)=dJ (x,m,T,0):=by
     unfold zYj;rw[eK,bs,Ja,zL];rcases sT (x.zA.length:Int) 0 ((ext x.zA.length D' x m T).zA.length:Int)with⟨q,_⟩|⟨_,q⟩
     ·rw[q,bs,Ja,zL,zUb hE h.ok.d1 h3 h.gr.1 eF,bs,Ja,zL,zLb hE h.ok.d1 h3 h.gr.1 eF rfl,bs]
     ·exact absurd ⟨by omega,by have:=zMR hE;omega⟩ q
    have hr:zOB T T=dJ dL:=by rw[zD4 (by omega) (fun r hr=>by obtain⟨i,hi,rfl⟩:=qV (d:=[]) hr;have:=eF i hi;omega),beq_self_eq_true]
    simp only[bne_self_eq_false,zL,zIh hE,zFk hE,bs,p1,p2,Ja,vT (zTY hE),aC,beq_self_eq_true,zK,vT (zXg h.gr.1),zIA h.ok h.gr.1.os.1,hr,eK]
   ·simp only[bne_self_eq_false,zL,zIh hE,zFk hE,bs,p1,p2,Jy,zK,vT zI8,Ja]
    rfl
  ·simp only[zA7 hc,zK,bs,bne_self_eq_false,zL,vT zI8,Ja]
 ·unfold zR4 zVc
  have e1:((1:Int) != 0)=dL:=rfl;simp only[s1,i1,bs,Jy,zK,e1,bne_self_eq_false,zL,vT zI8,Ja]
theorem zGm(c:List Int)(h:VL VU c):zYn c=dJ dL:=zLc c (vu h)
end Go.Pl

namespace Go.Pl
open Go Go.Ab Go.Wk Go.Pc
end Go.Pl

namespace Go.Pl
open Go Go.Ab Go.Wk Go.Pc
end Go.Pl

namespace Go.Pl
open Go Go.Ab Go.Wk Go.Pc
end Go.Pl

namespace Go.Pl
open Go Go.Ab Go.Wk Go.Pc
end Go.Pl

namespace Go.Pl
open Go Go.Ab Go.Wk Go.Pc
end Go.Pl

namespace Go.Pl
open Go Go.Ab Go.Wk Go.Pc
end Go.Pl

namespace Go.Pl
open Go Go.Ab Go.Wk Go.Pc
end Go.Pl

namespace Go.Pl
open Go Go.Ab Go.Wk Go.Pc
end Go.Pl
